import PyProof.Rows.All
import Wide.All
import OpenK.AllK
import Wide.FinOn
import HandS.Lambda
import HandS.ForMost
import HandS.IsInst
import HandS.Exc
import HandS.JoinGen
import HandS.Style
import HandS.Deep
import HandS.RaiseMore
import HandS.ExcInit
import KE.KUnpack
import HandS.Text
import HandS.DictEq
import HandS.Flow
import HandS.Defaults
import HandS.StrMore
import KE.KExcSuper
import HandS.TryMany
import HandS.ExcField
import HandS.Property
import HandS.ClsMeth
import KE.KOpsOwn
import KE.KCallOwn
import HandS.FStr
import HandS.Strs
import HandS.Small
import HandS.SlotsOwn
import HandS.Star
import HandS.TupMul
import HandS.Translate
import HandS.More
import HandS.Iter
import KE.GoesEnum
import KE.GoesMore
import KE.KFmtOwn
import HandS.NoneIn
import PyProof.ListStr
import PyProof.P3In
import HandS.SortInts
import HandS.Dict
import KE.KRevSl
import HandS.DictComp
import HandS.TupAny
import HandS.HotCalls
import HandS.SetBool
import HandS.SetFor
import HandS.Zip
import PyProof.TupleOfSeq
import HandS.Conv
import KE.KNestM
import PySem.Challenge.RW_weavegraph_k08_who_lies_over_whom
set_option Elab.async false
set_option linter.all false
set_option autoImplicit false
set_option maxRecDepth 100000
set_option maxHeartbeats 8000000
/-! the code objects of defs that make generators or functions, and their tables (printed law by law) -/
namespace L2.Mi
def codeL : List (Nat × Nat) := []
def tabsL : List Nat := codeL.map (·.2)
/-- the defs that hold lambdas: code object, its table, the lambdas' qualified name -/
def lamL : List (Nat × Nat × PySem.Str) := [(483, 481, "_law_pair_right.<locals>.<lambda>"), (488, 486, "_law_one_right.<locals>.<lambda>")]
theorem lamDis : ∀ p ∈ lamL, p.2.1 ∉ tabsL := by decide
def allL : List (Nat × Nat) := codeL ++ lamL.map fun p => (p.1, p.2.1)
def tabsA : List Nat := allL.map (·.2)
end L2.Mi

namespace L2.Mi
open PySem PySem.Spec PyProof.Rows L2

/-! A layer of plain values over HandS: data as trees (D), cells for what is changed, computations R. -/

inductive D where
  | non
  | bl (b : Bool)
  | int (i : Int)
  | str (s : Str)
  | lst (xs : List D)
  | tup (xs : List D)
  | ro (xs : List D)
  | dct (kvs : List (Key × D))
  | ref (k : Nat)
  | obj (C : Str) (fs : List (Str × D))
  | adr (a : Addr)
  | ty (n : String)
  | gh (i : Nat) (G : Addr → Hp → List Addr → Prop)

inductive Cell where
  | lst (xs : List D)
  | dct (kvs : List (Key × D))
  | ins (C : Str) (fs : List (Str × D))
  | frz (d : D)

abbrev Cs := List Cell
abbrev Ls := List (Option D)
structure Ex where
  cls : Str
  fs : List (Str × D)

inductive R (α : Type) where
  | stuck
  | ok (a : α) (c : Cs)
  | exc (x : Ex) (c : Cs)

def R.bind {α β : Type} (r : R α) (f : α → Cs → R β) : R β :=
  match r with
  | .stuck => .stuck
  | .ok a c => f a c
  | .exc x c => .exc x c
@[simp] theorem R.bind_ok {α β : Type} (a : α) (c : Cs) (f : α → Cs → R β) : (R.ok a c).bind f = f a c := rfl
@[simp] theorem R.bind_exc {α β : Type} (x : Ex) (c : Cs) (f : α → Cs → R β) : (R.exc x c : R α).bind f = .exc x c := rfl
@[simp] theorem R.bind_stuck {α β : Type} (f : α → Cs → R β) : (R.stuck : R α).bind f = .stuck := rfl

/-- a class, by its name: of the module, or a built-in one -/
def NamV (K : PySem.W.Frag) (n : Str) (v : Value) : Prop := PySem.W.nsIn K mainGlobals n = some (some v) ∨ (PySem.W.nsIn K mainGlobals n = some none ∧ bootBuiltins n = some v)
theorem NamV.one {K : PySem.W.Frag} {n : Str} {v u : Value} (a : NamV K n v) (b : NamV K n u) : v = u := by
  rcases a with a | ⟨a, a2⟩ <;> rcases b with b | ⟨b, b2⟩ <;> rw [a] at b
  · cases b; rfl
  · cases b
  · cases b
  · rw [a2] at b2; cases b2; rfl
mutual
inductive Rep (K : PySem.W.Frag) (I : Hp) (m : List Addr) : V → D → Prop where
  | non : Rep K I m .non .non
  | bl (b : Bool) : Rep K I m (.bl b) (.bl b)
  | int (i : Int) : Rep K I m (.int i) (.int i)
  | str (s : Str) : Rep K I m (.str s) (.str s)
  | lst {a : Addr} {vs : List V} {ds : List D} (h : I a = some (.lst vs)) (r : Reps K I m vs ds) : Rep K I m (.ref a) (.lst ds)
  | ro {a : Addr} {vs : List V} {ds : List D} (h : SqL K I a vs) (r : Reps K I m vs ds) : Rep K I m (.ref a) (.ro ds)
  | tup {a : Addr} {vs : List V} {ds : List D} (h : SqT K I a vs) (r : Reps K I m vs ds) : Rep K I m (.ref a) (.tup ds)
  | dct {a : Addr} {vs : List (Key × V)} {ds : List (Key × D)} (h : I a = some (.dK vs)) (r : RepK K I m vs ds) : Rep K I m (.ref a) (.dct ds)
  | ref {k : Nat} {a : Addr} (h : m[k]? = some a) : Rep K I m (.ref a) (.ref k)
  | obj {a C dx : Addr} {n : Str} {vs : List (Str × V)} {ds : List (Str × D)} (hn : NamV K n (.ref C)) (h : I a = some (.ins C dx vs)) (r : RepF K I m vs ds) : Rep K I m (.ref a) (.obj n ds)
  | adr (a : Addr) : Rep K I m (.ref a) (.adr a)
  | ty (n : String) : Rep K I m (.ty n) (.ty n)
  | gh {a : Addr} {i : Nat} {G : Addr → Hp → List Addr → Prop} (gm : ∀ (I I' : Hp) (m m' : List Addr), Same I I' → (∀ (k : Nat) (a : Addr), m[k]? = some a → m'[k]? = some a) → G a I m → G a I' m') (h : G a I m) : Rep K I m (.ref a) (.gh i G)
inductive Reps (K : PySem.W.Frag) (I : Hp) (m : List Addr) : List V → List D → Prop where
  | nil : Reps K I m [] []
  | cons {v : V} {vs : List V} {d : D} {ds : List D} (h : Rep K I m v d) (t : Reps K I m vs ds) : Reps K I m (v :: vs) (d :: ds)
inductive RepK (K : PySem.W.Frag) (I : Hp) (m : List Addr) : List (Key × V) → List (Key × D) → Prop where
  | nil : RepK K I m [] []
  | cons {k : Key} {v : V} {vs : List (Key × V)} {d : D} {ds : List (Key × D)} (h : Rep K I m v d) (t : RepK K I m vs ds) : RepK K I m ((k, v) :: vs) ((k, d) :: ds)
inductive RepF (K : PySem.W.Frag) (I : Hp) (m : List Addr) : List (Str × V) → List (Str × D) → Prop where
  | nil : RepF K I m [] []
  | cons {k : Str} {v : V} {vs : List (Str × V)} {d : D} {ds : List (Str × D)} (h : Rep K I m v d) (t : RepF K I m vs ds) : RepF K I m ((k, v) :: vs) ((k, d) :: ds)
end

theorem sqT_same {K : PySem.W.Frag} {H H' : Hp} {a : Addr} {xs : List V} (e : Same H H') (h : SqT K H a xs) : SqT K H' a xs := by
  rcases h with (h | ⟨o, h⟩) | h
  · exact Or.inl (Or.inl (e _ _ h))
  · exact Or.inl (Or.inr ⟨o, e _ _ h⟩)
  · exact Or.inr h

/-- the cells' addresses grow at the end -/
def Pre (m m' : List Addr) : Prop := ∀ (k : Nat) (a : Addr), m[k]? = some a → m'[k]? = some a
theorem Pre.refl (m : List Addr) : Pre m m := fun _ _ h => h
theorem Pre.trans {m m1 m2 : List Addr} (a : Pre m m1) (b : Pre m1 m2) : Pre m m2 := fun k x h => b k x (a k x h)

section
variable {K : PySem.W.Frag} {I I' : Hp} {m m' : List Addr}
mutual
theorem Rep.mono (s : Same I I') (p : Pre m m') : ∀ {v : V} {d : D}, Rep K I m v d → Rep K I' m' v d
  | _, _, .non => .non
  | _, _, .bl b => .bl b
  | _, _, .int i => .int i
  | _, _, .str x => .str x
  | _, _, .lst h r => .lst (s _ _ h) (Reps.mono s p r)
  | _, _, .ro h r => .ro (s.seq h) (Reps.mono s p r)
  | _, _, .tup h r => .tup (sqT_same s h) (Reps.mono s p r)
  | _, _, .dct h r => .dct (s _ _ h) (RepK.mono s p r)
  | _, _, .ref h => .ref (p _ _ h)
  | _, _, .obj hn h r => .obj hn (s _ _ h) (RepF.mono s p r)
  | _, _, .adr a => .adr a
  | _, _, .ty n => .ty n
  | _, _, .gh gm h => .gh gm (gm _ _ _ _ s p h)
theorem Reps.mono (s : Same I I') (p : Pre m m') : ∀ {v : List V} {d : List D}, Reps K I m v d → Reps K I' m' v d
  | _, _, .nil => .nil
  | _, _, .cons h t => .cons (Rep.mono s p h) (Reps.mono s p t)
theorem RepK.mono (s : Same I I') (p : Pre m m') : ∀ {v : List (Key × V)} {d : List (Key × D)}, RepK K I m v d → RepK K I' m' v d
  | _, _, .nil => .nil
  | _, _, .cons h t => .cons (Rep.mono s p h) (RepK.mono s p t)
theorem RepF.mono (s : Same I I') (p : Pre m m') : ∀ {v : List (Str × V)} {d : List (Str × D)}, RepF K I m v d → RepF K I' m' v d
  | _, _, .nil => .nil
  | _, _, .cons h t => .cons (Rep.mono s p h) (RepF.mono s p t)
end
theorem Reps.length : ∀ {vs : List V} {ds : List D}, Reps K I m vs ds → vs.length = ds.length
  | _, _, .nil => rfl
  | _, _, .cons _ t => congrArg (· + 1) (Reps.length t)
theorem Reps.get : ∀ {vs : List V} {ds : List D} {i : Nat} {d : D}, Reps K I m vs ds → ds[i]? = some d → ∃ v, vs[i]? = some v ∧ Rep K I m v d
  | _, _, _, _, .nil, e => by simp at e
  | _, _, 0, _, .cons h _, e => by simp at e; subst e; exact ⟨_, rfl, h⟩
  | _, _, i + 1, d, .cons _ t, e => by
    obtain ⟨v, h1, h2⟩ := Reps.get (i := i) (d := d) t (by simpa using e)
    exact ⟨v, by simpa using h1, h2⟩
theorem Reps.append : ∀ {vs ws : List V} {ds es : List D}, Reps K I m vs ds → Reps K I m ws es → Reps K I m (vs ++ ws) (ds ++ es)
  | _, _, _, _, .nil, s => s
  | _, _, _, _, .cons r t, s => .cons r (Reps.append t s)
theorem Reps.set {v : V} {d : D} (r : Rep K I m v d) : ∀ {vs : List V} {ds : List D} (i : Nat), Reps K I m vs ds → Reps K I m (vs.set i v) (ds.set i d)
  | _, _, _, .nil => .nil
  | _, _, 0, .cons _ t => .cons r t
  | _, _, i + 1, .cons q t => .cons q (Reps.set r i t)
theorem Reps.take : ∀ {vs : List V} {ds : List D} (n : Nat), Reps K I m vs ds → Reps K I m (vs.take n) (ds.take n)
  | _, _, 0, _ => .nil
  | _, _, _ + 1, .nil => .nil
  | _, _, n + 1, .cons r t => .cons r (Reps.take n t)
theorem Reps.drop : ∀ {vs : List V} {ds : List D} (n : Nat), Reps K I m vs ds → Reps K I m (vs.drop n) (ds.drop n)
  | _, _, 0, r => r
  | _, _, _ + 1, .nil => .nil
  | _, _, n + 1, .cons _ t => Reps.drop n t
end

/-- what a cell is, at its address -/
def CellAt (K : PySem.W.Frag) (I H : Hp) (m : List Addr) (a : Addr) : Cell → Prop
  | .lst ds => I a = none ∧ ∃ vs, H a = some (.lst vs) ∧ Reps K I m vs ds
  | .dct ds => I a = none ∧ ∃ vs, H a = some (.dK vs) ∧ RepK K I m vs ds
  | .ins C ds => I a = none ∧ ∃ dx vs, I dx = none ∧ dx ∉ m ∧ H dx = some (.own a) ∧ (∃ A, NamV K C (.ref A) ∧ H a = some (.ins A dx vs)) ∧ RepF K I m vs ds
  | .frz d => (I a ≠ none) ∧ Rep K I m (.ref a) d

/-- I: what never changes; m: the cells' addresses -/
def Fx (o : HO) : Prop := (∀ ps, o ≠ .tbl ps) ∧ ∀ q, o ≠ .ext q
def Nt (H : Hp) (p : Addr) : Prop := ∀ o, H p = some o → Fx o
structure Tb (I H : Hp) (m : List Addr) : Prop where
  g : ∀ P ∈ tabsL, GxR.TabG H P ∧ I P = none ∧ P ∉ m
  l : ∀ p ∈ lamL, LamX.TabS H p.2.1 p.2.2 ∧ I p.2.1 = none ∧ p.2.1 ∉ m
theorem Tb.up {I H I' H' : Hp} {m m' : List Addr} (t : Tb I H m) {p : Addr} (hp : Nt H p) (eI : ∀ b, b ≠ p → I' b = I b) (eH : ∀ b, b ≠ p → H' b = H b) (em : ∀ b ∈ m', b ∈ m ∨ b = p) : Tb I' H' m' := by
  refine ⟨fun P hP => ?_, fun q hq => ?_⟩
  · obtain ⟨⟨ps, h1, h2⟩, h3, h4⟩ := t.g P hP
    have ne : P ≠ p := fun e => by subst e; exact (hp _ h1).1 _ rfl
    refine ⟨⟨ps, by rw [eH P ne]; exact h1, h2⟩, by rw [eI P ne]; exact h3, fun z => ?_⟩
    rcases em P z with z | z
    · exact h4 z
    · exact ne z
  · obtain ⟨⟨ps, h1, h2, h5⟩, h3, h4⟩ := t.l q hq
    have ne : q.2.1 ≠ p := fun e => by rw [e] at h1; exact (hp _ h1).1 _ rfl
    refine ⟨⟨ps, by rw [eH _ ne]; exact h1, h2, fun pos cv hc => ?_⟩, by rw [eI _ ne]; exact h3, fun z => ?_⟩
    · obtain ⟨c, e1, e2⟩ := h5 pos cv hc
      have nc : c ≠ p := fun e => by rw [e] at e2; exact (hp _ e2).2 _ rfl
      exact ⟨c, e1, by rw [eH c nc]; exact e2⟩
    · rcases em _ z with z | z
      · exact h4 z
      · exact ne z
theorem nt_none {H : Hp} {p : Addr} (h : H p = none) : Nt H p := fun o e => by rw [h] at e; cases e
theorem nt_some {H : Hp} {p : Addr} {o : HO} (h : H p = some o) (ho : Fx o) : Nt H p := fun o' e => by rw [h] at e; cases e; exact ho
section
variable {I H : Hp} {m : List Addr} {p : Addr}
theorem Tb.upH (t : Tb I H m) (hp : Nt H p) {o : HO} : Tb I (upd H p o) m := t.up hp (fun _ _ => rfl) (fun _ hb => upd_ne hb) (fun _ hb => .inl hb)
theorem Tb.upI (t : Tb I H m) (hp : Nt H p) {o : HO} : Tb (upd I p o) H m := t.up hp (fun _ hb => upd_ne hb) (fun _ _ => rfl) (fun _ hb => .inl hb)
theorem Tb.upHI (t : Tb I H m) (hp : Nt H p) {o o' : HO} : Tb (upd I p o) (upd H p o') m := t.up hp (fun _ hb => upd_ne hb) (fun _ hb => upd_ne hb) (fun _ hb => .inl hb)
theorem Tb.upHm (t : Tb I H m) (hp : Nt H p) {o : HO} : Tb I (upd H p o) (m ++ [p]) := t.up hp (fun _ _ => rfl) (fun _ hb => upd_ne hb) (fun _ hb => (List.mem_append.mp hb).imp_right List.mem_singleton.mp)
theorem Tb.upm (t : Tb I H m) (hp : Nt H p) : Tb I H (m ++ [p]) := t.up hp (fun _ _ => rfl) (fun _ _ => rfl) (fun _ hb => (List.mem_append.mp hb).imp_right List.mem_singleton.mp)
end
structure Rel (K : PySem.W.Frag) (I H : Hp) (m : List Addr) (c : Cs) : Prop where
  same : Same I H
  len : m.length = c.length
  nd : ∀ (i j : Nat) (a : Addr), m[i]? = some a → m[j]? = some a → i = j
  cell : ∀ (k : Nat) (a : Addr) (x : Cell), m[k]? = some a → c[k]? = some x → CellAt K I H m a x
  tabs : Tb I H m

/-- what may happen in between: I and m grow; what is neither known nor a cell stays -/
structure Ext (I : Hp) (m : List Addr) (H I' : Hp) (m' : List Addr) (H' : Hp) : Prop where
  same : Same I I'
  pre : Pre m m'
  fr : ∀ b o, H b = some o → Fx o → I b = none → b ∉ m → H' b = some o ∧ I' b = none ∧ b ∉ m'
theorem Ext.refl (I : Hp) (m : List Addr) (H : Hp) : Ext I m H I m H := ⟨Same.refl I, Pre.refl m, fun _ _ h1 _ h2 h3 => ⟨h1, h2, h3⟩⟩
theorem Ext.trans {I I1 I2 H H1 H2 : Hp} {m m1 m2 : List Addr} (a : Ext I m H I1 m1 H1) (b : Ext I1 m1 H1 I2 m2 H2) : Ext I m H I2 m2 H2 :=
  ⟨a.same.trans b.same, a.pre.trans b.pre, fun x o h1 hT h2 h3 => let ⟨q1, q2, q3⟩ := a.fr x o h1 hT h2 h3; b.fr x o q1 hT q2 q3⟩
theorem Rep.ext {K : PySem.W.Frag} {I I1 H H1 : Hp} {m m1 : List Addr} {v : V} {d : D} (r : Rep K I m v d) (e : Ext I m H I1 m1 H1) : Rep K I1 m1 v d := r.mono e.same e.pre
theorem Reps.ext {K : PySem.W.Frag} {I I1 H H1 : Hp} {m m1 : List Addr} {v : List V} {d : List D} (r : Reps K I m v d) (e : Ext I m H I1 m1 H1) : Reps K I1 m1 v d := r.mono e.same e.pre

/-- the locals -/
structure Locs (K : PySem.W.Frag) (I : Hp) (m : List Addr) (σ : St) (ls : Ls) : Prop where
  len : σ.length = ls.length
  at_ : ∀ (i : Nat) (d : D), ls[i]? = some (some d) → ∃ v, σ[i]? = some (some v) ∧ Rep K I m v d
theorem Locs.ext {K : PySem.W.Frag} {I I1 H H1 : Hp} {m m1 : List Addr} {σ : St} {ls : Ls} (l : Locs K I m σ ls) (e : Ext I m H I1 m1 H1) : Locs K I1 m1 σ ls :=
  ⟨l.len, fun i d h => let ⟨v, h1, h2⟩ := l.at_ i d h; ⟨v, h1, h2.ext e⟩⟩
theorem Locs.set {K : PySem.W.Frag} {I : Hp} {m : List Addr} {σ : St} {ls : Ls} {v : V} {d : D} (i : Nat) (l : Locs K I m σ ls) (r : Rep K I m v d) : Locs K I m (σ.set i (some v)) (ls.set i (some d)) := by
  refine ⟨by simp [l.len], fun j e h => ?_⟩
  by_cases hj : i = j
  · subst hj
    by_cases hl : i < ls.length
    · rw [List.getElem?_set_self hl] at h
      cases h
      exact ⟨v, by rw [List.getElem?_set_self (by rw [l.len]; exact hl)], r⟩
    · rw [List.getElem?_eq_none (by simpa using hl)] at h
      cases h
  · rw [List.getElem?_set_ne hj] at h ⊢
    exact l.at_ j e h

/-- an exception, its class and its own dict -/
def RepX (K : PySem.W.Frag) (I : Hp) (m : List Addr) (H : Hp) (cls : Value) (dd : Option Addr) (x : Ex) : Prop :=
  NamV K x.cls cls ∧ ((dd = none ∧ x.fs = []) ∨ ∃ a vs, dd = some a ∧ I a = some (.xd vs) ∧ RepF K I m vs x.fs)

/-- what is wanted behind a computation -/
def After {α β : Type} (rep : Hp → List Addr → β → α → Prop) (K : PySem.W.Frag) (I : Hp) (m : List Addr) (H : Hp) (W : XK) (Q : β → Hp → Prop) : R α → Prop
  | .stuck => False
  | .ok d c => ∀ I' m' H' v, Ext I m H I' m' H' → Rel K I' H' m' c → rep I' m' v d → Q v H'
  | .exc x c => ∀ I' m' H' cls dd, Ext I m H I' m' H' → Rel K I' H' m' c → RepX K I' m' H' cls dd x → W cls dd H'
section
variable {α β γ δ : Type} {rep : Hp → List Addr → β → α → Prop} {rep' : Hp → List Addr → δ → γ → Prop} {K : PySem.W.Frag} {I I1 H H1 : Hp} {m m1 : List Addr} {W : XK} {Q Q' : β → Hp → Prop} {Q2 : δ → Hp → Prop} {r : R α} {c : Cs}
theorem After.ext (e : Ext I m H I1 m1 H1) (a : After rep K I m H W Q r) : After rep K I1 m1 H1 W Q r := by
  cases r with
  | stuck => exact a
  | ok d c => exact fun I' m' H' v e' => a I' m' H' v (e.trans e')
  | exc x c => exact fun I' m' H' cls dd e' => a I' m' H' cls dd (e.trans e')
theorem After.mono (a : After rep K I m H W Q r) (h : ∀ v H', Q v H' → Q' v H') : After rep K I m H W Q' r := by
  cases r with
  | stuck => exact a
  | ok d c => exact fun I' m' H' v e' r' p => h _ _ (a I' m' H' v e' r' p)
  | exc x c => exact a
/-- what stands behind the first of two computations -/
def Mid (rep : Hp → List Addr → β → α → Prop) (rep' : Hp → List Addr → δ → γ → Prop) (K : PySem.W.Frag) (I : Hp) (m : List Addr) (H : Hp) (W : XK) (Q2 : δ → Hp → Prop) (f : α → Cs → R γ) (v : β) (H1 : Hp) : Prop :=
  ∃ I1 m1 c1 a, Ext I m H I1 m1 H1 ∧ Rel K I1 H1 m1 c1 ∧ rep I1 m1 v a ∧ After rep' K I1 m1 H1 W Q2 (f a c1)
theorem After.bind {f : α → Cs → R γ} (a : After rep' K I m H W Q2 (r.bind f)) : After rep K I m H W (Mid rep rep' K I m H W Q2 f) r := by
  cases r with
  | stuck => exact a
  | ok d c => exact fun I' m' H' v e' r' p => ⟨I', m', c, d, e', r', p, After.ext e' a⟩
  | exc x c => exact a
/-- nothing happens any more -/
theorem After.here {d : α} {v : β} (a : After rep K I m H W Q (.ok d c)) (r : Rel K I H m c) (p : rep I m v d) : Q v H := a I m H v (Ext.refl I m H) r p
end

def rD (K : PySem.W.Frag) : Hp → List Addr → V → D → Prop := fun I m v d => Rep K I m v d
def rA (K : PySem.W.Frag) : Hp → List Addr → List V → List D → Prop := fun I m v d => Reps K I m v d
def rB : Hp → List Addr → Bool → Bool → Prop := fun _ _ v d => v = d

abbrev ME := Ls → Cs → R D
abbrev MA := Ls → Cs → R (List D)
abbrev MT := Ls → Cs → R Bool
/-- the reading of a computation -/
def rd {α β : Type} (rep : Hp → List Addr → β → α → Prop) (K : PySem.W.Frag) (W : WX) (f : Ls → Cs → R α) : St → Hp → (β → Hp → Prop) → Prop := fun σ H Q =>
  ∃ I m ls c, Rel K I H m c ∧ Locs K I m σ ls ∧ After rep K I m H (fun cls dd H' => W cls dd σ H') Q (f ls c)
abbrev rdE (K : PySem.W.Frag) (W : WX) (f : ME) : TE := rd (rD K) K W f
abbrev rdA (K : PySem.W.Frag) (W : WX) (f : MA) : TA := rd (rA K) K W f
abbrev rdT (K : PySem.W.Frag) (W : WX) (f : MT) : TT := rd rB K W f

/-- a new object that never changes -/
theorem alloc {K : PySem.W.Frag} {I H : Hp} {m : List Addr} {c : Cs} {p : Addr} {o : HO} (r : Rel K I H m c) (np : H p = none) : Rel K (upd I p o) (upd H p o) m c ∧ Ext I m H (upd I p o) m (upd H p o) := by
  have nI : I p = none := r.same.free np
  have sI : Same I (upd I p o) := fun b u e => by rw [upd_ne (ne_of_none e nI)]; exact e
  have sH : Same H (upd H p o) := fun b u e => by rw [upd_ne (ne_of_none e np)]; exact e
  refine ⟨⟨fun b u e => ?_, r.len, r.nd, fun k a x h1 h2 => ?_, r.tabs.upHI (nt_none np)⟩, sI, Pre.refl m, fun b u h1 hT h2 h3 => ⟨sH b u h1, ?_, h3⟩⟩
  · by_cases hb : b = p
    · subst hb
      rw [upd_same] at e ⊢
      exact e
    · rw [upd_ne hb] at e ⊢
      exact r.same b u e
  · have q := r.cell k a x h1 h2
    cases x with
    | lst ds =>
      obtain ⟨q1, vs, q2, q3⟩ := q
      exact ⟨by rw [upd_ne (ne_of_none q2 np)]; exact q1, vs, sH _ _ q2, q3.mono sI (Pre.refl m)⟩
    | dct ds =>
      obtain ⟨q1, vs, q2, q3⟩ := q
      exact ⟨by rw [upd_ne (ne_of_none q2 np)]; exact q1, vs, sH _ _ q2, q3.mono sI (Pre.refl m)⟩
    | ins C ds =>
      obtain ⟨q1, dx, vs, q2, q3, q4, q5, q6⟩ := q
      exact ⟨by rw [upd_ne (q5.elim fun _ z => ne_of_none z.2 np)]; exact q1, dx, vs, by rw [upd_ne (ne_of_none q4 np)]; exact q2, q3, sH _ _ q4, q5.imp fun _ z => ⟨z.1, sH _ _ z.2⟩, q6.mono sI (Pre.refl m)⟩
    | frz d =>
      obtain ⟨q1, q2⟩ := q
      refine ⟨fun z => q1 ?_, q2.mono sI (Pre.refl m)⟩
      by_cases hb : a = p
      · subst hb; exact nI
      · rw [upd_ne hb] at z; exact z
  · rw [upd_ne (ne_of_none h1 np)]
    exact h2
end L2.Mi

namespace L2.Mi
open PySem PySem.Spec PyProof.Rows L2

/-! ### weaker readings -/
theorem PEi {X : Cx} {e : Expr} {t t' : TE} (h : PE X e t) (w : ∀ σ H Q, t' σ H Q → t σ H Q) : PE X e t' := ⟨fun pins s σ H Q I q => h.run pins s σ H Q I (w σ H Q q)⟩
theorem PTi {X : Cx} {e : Expr} {t t' : TT} (h : PT X e t) (w : ∀ σ H Q, t' σ H Q → t σ H Q) : PT X e t' := ⟨fun pins s σ H Q I q => h.run pins s σ H Q I (w σ H Q q)⟩
theorem PWi {X : Cx} {e : Expr} {t t' : TT} (h : PW X e t) (w : ∀ σ H Q, t' σ H Q → t σ H Q) : PW X e t' := ⟨fun wh pins s σ H Q I q => h.run wh pins s σ H Q I (w σ H Q q)⟩
theorem PAi {X : Cx} {e : List Expr} {t t' : TA} (h : PA X e t) (w : ∀ σ H Q, t' σ H Q → t σ H Q) : PA X e t' := ⟨fun p pins s σ H Q I q => h.run p pins s σ H Q I (w σ H Q q)⟩

section
variable {X : Cx} {W : WX} {a b c e : Expr} {es rest : List Expr} {pos : Pos} {fa fb fc : ME} {f g : D → D → Cs → R D}

/-! ### names, constants -/
def mVar (i : Nat) : ME := fun l c => match l[i]? with
  | some (some d) => .ok d c
  | _ => .stuck
theorem me_var {i : Nat} (h : PE X e (tVar i)) : PE X e (rdE X.K W (mVar i)) := PEi h fun σ H Q ⟨I, m, l, c, r, L, A⟩ => by
  unfold mVar at A
  cases q : l[i]? with
  | none => rw [q] at A; exact A.elim
  | some o =>
    cases o with
    | none => rw [q] at A; exact A.elim
    | some d =>
      rw [q] at A
      obtain ⟨v, h1, h2⟩ := L.at_ i d q
      exact ⟨v, h1, A.here r h2⟩
def mC (d : D) : ME := fun _ c => .ok d c
theorem me_c {v : V} {d : D} (h : PE X e (tC v)) (p : ∀ I m, Rep X.K I m v d) : PE X e (rdE X.K W (mC d)) := PEi h fun σ H Q ⟨I, m, l, c, r, L, A⟩ => A.here r (p I m)
theorem me_int {i : Int} {j : Nat} : PE X (.Constant (.int i) j pos) (rdE X.K W (mC (.int i))) := me_c pe_int fun _ _ => .int i
theorem me_bl {i : Bool} {j : Nat} : PE X (.Constant (.bool i) j pos) (rdE X.K W (mC (.bl i))) := me_c pe_bl fun _ _ => .bl i
theorem me_non {j : Nat} : PE X (.Constant .none j pos) (rdE X.K W (mC .non)) := me_c pe_non fun _ _ => .non
theorem me_str {i : Str} {j : Nat} : PE X (.Constant (.str i) j pos) (rdE X.K W (mC (.str i))) := me_c pe_str fun _ _ => .str i

/-! ### operators -/
def OpS (K : PySem.W.Frag) (r : R2) (g : D → D → Cs → R D) : Prop := ∀ (I H : Hp) (m : List Addr) (c : Cs) (v1 v2 : V) (d1 d2 : D) (W : XK) (Q : VK),
  Rel K I H m c → Rep K I m v1 d1 → Rep K I m v2 d2 → After (rD K) K I m H W Q (g d1 d2 c) → r v1 v2 H Q
def mOp (g : D → D → Cs → R D) (a b : ME) : ME := fun l c => (a l c).bind fun x c1 => (b l c1).bind fun y c2 => g x y c2
theorem op_read {K : PySem.W.Frag} {r : R2} {σ : St} {H : Hp} {Q : VK} (hs : OpS K r g) (h : rdE K W (mOp g fa fb) σ H Q) : tOp r (rdE K W fa) (rdE K W fb) σ H Q := by
  obtain ⟨I, m, l, c, R, L, A⟩ := h
  refine ⟨I, m, l, c, R, L, After.mono (After.bind (rep := rD K) A) fun v1 H1 ⟨I1, m1, c1, d1, E1, R1, p1, A1⟩ => ?_⟩
  refine ⟨I1, m1, l, c1, R1, L.ext E1, After.mono (After.bind (rep := rD K) A1) fun v2 H2 ⟨I2, m2, c2, d2, E2, R2, p2, A2⟩ => ?_⟩
  exact hs _ _ _ _ _ _ _ _ _ _ R2 (Rep.ext p1 E2) p2 A2
theorem me_op {op : Operator} {r : R2} (ho : OpR X (binaryOp op) r) (hs : OpS X.K r g) (ha : PE X a (rdE X.K W fa)) (hb : PE X b (rdE X.K W fb)) : PE X (.BinOp a op b pos) (rdE X.K W (mOp g fa fb)) :=
  PEi (pe_op ho ha hb) fun _ _ _ h => op_read hs h
theorem me_cmp {op : CmpOp} {r : R2} (ho : OpR X (compareOp op) r) (hs : OpS X.K r g) (ha : PE X a (rdE X.K W fa)) (hb : PE X b (rdE X.K W fb)) (hm : behindInMarks op b = false) : PE X (.Compare a [op] [b] pos) (rdE X.K W (mOp g fa fb)) :=
  PEi (pe_cmpR ho ha hb hm) fun _ _ _ h => op_read hs h
theorem me_ix {r : R2} (ho : IxR X r) (hs : OpS X.K r g) (ha : PE X a (rdE X.K W fa)) (hb : PE X b (rdE X.K W fb)) (hp : PlainIx b) : PE X (.Subscript a b pos) (rdE X.K W (mOp g fa fb)) :=
  PEi (pe_ix ho ha hb hp) fun _ _ _ h => op_read hs h
def UnS (K : PySem.W.Frag) (r : V → Hp → VK → Prop) (g : D → Cs → R D) : Prop := ∀ (I H : Hp) (m : List Addr) (c : Cs) (v1 : V) (d1 : D) (W : XK) (Q : VK),
  Rel K I H m c → Rep K I m v1 d1 → After (rD K) K I m H W Q (g d1 c) → r v1 H Q
def mUn (g : D → Cs → R D) (a : ME) : ME := fun l c => (a l c).bind fun x c1 => g x c1
theorem me_un {op : UnaryOp} {r : V → Hp → VK → Prop} {g : D → Cs → R D} (ho : UnR X (unaryOp op) r) (hs : UnS X.K r g) (ha : PE X a (rdE X.K W fa)) : PE X (.UnaryOp op a pos) (rdE X.K W (mUn g fa)) :=
  PEi (pe_un ho ha) fun σ H Q ⟨I, m, l, c, R, L, A⟩ => ⟨I, m, l, c, R, L, After.mono (After.bind (rep := rD X.K) A) fun v1 H1 ⟨I1, m1, c1, d1, E1, R1, p1, A1⟩ => hs _ _ _ _ _ _ _ _ R1 p1 A1⟩
/-- a op1 b op2 c -/
def mChain (g g' : D → D → Cs → R D) (a b d : ME) : ME := fun l c => (a l c).bind fun x c1 => (b l c1).bind fun y c2 => (g x y c2).bind fun z c3 => match z with
  | .bl true => (d l c3).bind fun w c4 => g' y w c4
  | .bl false => .ok (.bl false) c3
  | _ => .stuck
theorem me_chain {op op' : CmpOp} {r r' : R2} (ho : OpR X (compareOp op) r) (hs : OpS X.K r f) (ho' : OpR X (compareOp op') r') (hs' : OpS X.K r' g) (ha : PE X a (rdE X.K W fa)) (hb : PE X b (rdE X.K W fb)) (hc : PE X c (rdE X.K W fc))
    (hm : lastMarks [op, op'] [b, c] = false := by with_unfolding_all rfl) : PE X (.Compare a [op, op'] [b, c] pos) (rdE X.K W (mChain f g fa fb fc)) := PEi (pe_chain ho ho' ha hb hc hm) fun σ H Q ⟨I, m, l, c, R, L, A⟩ => by
  refine ⟨I, m, l, c, R, L, After.mono (After.bind (rep := rD X.K) A) fun v1 H1 ⟨I1, m1, c1, d1, E1, R1, p1, A1⟩ => ?_⟩
  refine ⟨I1, m1, l, c1, R1, L.ext E1, After.mono (After.bind (rep := rD X.K) A1) fun v2 H2 ⟨I2, m2, c2, d2, E2, R2, p2, A2⟩ => ?_⟩
  refine hs _ _ _ _ _ _ _ _ _ _ R2 (Rep.ext p1 E2) p2 (After.mono (After.bind (rep := rD X.K) A2) fun v3 H3 ⟨I3, m3, c3, d3, E3, R3, p3, A3⟩ => ?_)
  cases p3 with
  | bl k =>
    refine ⟨k, rfl, ?_⟩
    cases k with
    | false =>
      rw [if_neg Bool.false_ne_true]
      exact A3.here R3 (Rep.bl false)
    | true =>
      rw [if_pos rfl]
      refine ⟨I3, m3, l, c3, R3, ((L.ext E1).ext E2).ext E3, After.mono (After.bind (rep := rD X.K) A3) fun v4 H4 ⟨I4, m4, c4, d4, E4, R4, p4, A4⟩ => ?_⟩
      exact hs' _ _ _ _ _ _ _ _ _ _ R4 (Rep.ext (Rep.ext p2 E3) E4) p4 A4
  | _ => exact A3.elim

/-! ### tests -/
def mT (a : ME) : MT := fun l c => (a l c).bind fun x c1 => match x with
  | .bl k => .ok k c1
  | _ => .stuck
theorem mt_val (ha : PE X e (rdE X.K W fa)) (he : ∀ whole, isTrue e X.env whole = (do let v ← whole; standAt e.pos; holding [v] (truthy v)) := by intro _; rfl) : PT X e (rdT X.K W (mT fa)) :=
  PTi (pt_val ha he) fun σ H Q ⟨I, m, l, c, R, L, A⟩ => ⟨I, m, l, c, R, L, After.mono (After.bind (rep := rD X.K) A) fun v1 H1 ⟨I1, m1, c1, d1, E1, R1, p1, A1⟩ => by
    cases p1 with
    | bl k => exact ⟨k, rfl, A1.here R1 rfl⟩
    | _ => exact A1.elim⟩
/-- a comparison as a test -/
theorem mt_cmp {op : CmpOp} {r : R2} (ho : OpR X (compareOp op) r) (hs : OpS X.K r g) (ha : PE X a (rdE X.K W fa)) (hb : PE X b (rdE X.K W fb)) (hm : behindInMarks op b = false) : PT X (.Compare a [op] [b] pos) (rdT X.K W (mT (mOp g fa fb))) :=
  PTi (pt_cmpR ho ha hb hm) fun σ H Q ⟨I, m, l, c, R, L, A⟩ => op_read hs ⟨I, m, l, c, R, L, After.mono (After.bind (rep := rD X.K) A) fun v1 H1 ⟨I1, m1, c1, d1, E1, R1, p1, A1⟩ => by
    cases p1 with
    | bl k => exact ⟨k, rfl, A1.here R1 rfl⟩
    | _ => exact A1.elim⟩
def tAndM (a b : MT) : MT := fun l c => (a l c).bind fun k c1 => match k with
  | true => b l c1
  | false => .ok false c1
def tOrM (a b : MT) : MT := fun l c => (a l c).bind fun k c1 => match k with
  | true => .ok true c1
  | false => b l c1
def tNotM (a : MT) : MT := fun l c => (a l c).bind fun k c1 => .ok (!k) c1
variable {ta tb : MT}
theorem mw_and1 (ha : PT X a (rdT X.K W ta)) : PW X (.BoolOp .And [a] pos) (rdT X.K W ta) := pw_and1 ha
theorem mw_or1 (ha : PT X a (rdT X.K W ta)) : PW X (.BoolOp .Or [a] pos) (rdT X.K W ta) := pw_or1 ha
theorem mw_and (ha : PT X a (rdT X.K W ta)) (hb : PW X (.BoolOp .And (b :: rest) pos) (rdT X.K W tb)) : PW X (.BoolOp .And (a :: b :: rest) pos) (rdT X.K W (tAndM ta tb)) :=
  PWi (pw_and ha hb) fun σ H Q ⟨I, m, l, c, R, L, A⟩ => ⟨I, m, l, c, R, L, After.mono (After.bind (rep := rB) A) fun v1 H1 ⟨I1, m1, c1, d1, E1, R1, p1, A1⟩ => by
    cases (show v1 = d1 from p1)
    cases v1 with
    | true => exact iteT <| ⟨I1, m1, l, c1, R1, L.ext E1, A1⟩
    | false => exact iteF <| A1.here R1 rfl⟩
theorem mw_or (ha : PT X a (rdT X.K W ta)) (hb : PW X (.BoolOp .Or (b :: rest) pos) (rdT X.K W tb)) : PW X (.BoolOp .Or (a :: b :: rest) pos) (rdT X.K W (tOrM ta tb)) :=
  PWi (pw_or ha hb) fun σ H Q ⟨I, m, l, c, R, L, A⟩ => ⟨I, m, l, c, R, L, After.mono (After.bind (rep := rB) A) fun v1 H1 ⟨I1, m1, c1, d1, E1, R1, p1, A1⟩ => by
    cases (show v1 = d1 from p1)
    cases v1 with
    | true => exact iteT <| A1.here R1 rfl
    | false => exact iteF <| ⟨I1, m1, l, c1, R1, L.ext E1, A1⟩⟩
theorem mt_not (ha : PT X a (rdT X.K W ta)) : PT X (.UnaryOp .Not a pos) (rdT X.K W (tNotM ta)) :=
  PTi (pt_not ha) fun σ H Q ⟨I, m, l, c, R, L, A⟩ => ⟨I, m, l, c, R, L, After.mono (After.bind (rep := rB) A) fun v1 H1 ⟨I1, m1, c1, d1, E1, R1, p1, A1⟩ => by
    cases (show v1 = d1 from p1)
    exact A1.here R1 rfl⟩
/-- and, or, not as values -/
def mAnd (a b : ME) : ME := fun l c => (a l c).bind fun x c1 => match x with
  | .bl true => b l c1
  | .bl false => .ok (.bl false) c1
  | _ => .stuck
def mOr (a b : ME) : ME := fun l c => (a l c).bind fun x c1 => match x with
  | .bl true => .ok (.bl true) c1
  | .bl false => b l c1
  | _ => .stuck
def mNot (a : ME) : ME := fun l c => (a l c).bind fun x c1 => match x with
  | .bl k => .ok (.bl (!k)) c1
  | _ => .stuck
theorem me_one {op : BoolOp} (ha : PE X a (rdE X.K W fa)) : PE X (.BoolOp op [a] pos) (rdE X.K W fa) := pe_one ha
theorem me_and (ha : PE X a (rdE X.K W fa)) (hb : PE X (.BoolOp .And (b :: rest) pos) (rdE X.K W fb)) : PE X (.BoolOp .And (a :: b :: rest) pos) (rdE X.K W (mAnd fa fb)) :=
  PEi (pe_and ha hb) fun σ H Q ⟨I, m, l, c, R, L, A⟩ => ⟨I, m, l, c, R, L, After.mono (After.bind (rep := rD X.K) A) fun v1 H1 ⟨I1, m1, c1, d1, E1, R1, p1, A1⟩ => by
    cases p1 with
    | bl k =>
      refine ⟨k, rfl, ?_⟩
      cases k with
      | true => exact iteT <| ⟨I1, m1, l, c1, R1, L.ext E1, A1⟩
      | false => exact iteF <| A1.here R1 (Rep.bl false)
    | _ => exact A1.elim⟩
theorem me_not (ha : PE X a (rdE X.K W fa)) : PE X (.UnaryOp .Not a pos) (rdE X.K W (mNot fa)) :=
  PEi (pe_not ha) fun σ H Q ⟨I, m, l, c, R, L, A⟩ => ⟨I, m, l, c, R, L, After.mono (After.bind (rep := rD X.K) A) fun v1 H1 ⟨I1, m1, c1, d1, E1, R1, p1, A1⟩ => by
    cases p1 with
    | bl k => exact ⟨k, rfl, A1.here R1 (Rep.bl _)⟩
    | _ => exact A1.elim⟩
def mIf (t : MT) (a b : ME) : ME := fun l c => (t l c).bind fun k c1 => match k with
  | true => a l c1
  | false => b l c1
theorem me_if (ht : PT X c (rdT X.K W ta)) (ha : PE X a (rdE X.K W fa)) (hb : PE X b (rdE X.K W fb)) : PE X (.IfExp c a b pos) (rdE X.K W (mIf ta fa fb)) :=
  PEi (pe_ifExp ht ha hb) fun σ H Q ⟨I, m, l, c, R, L, A⟩ => ⟨I, m, l, c, R, L, After.mono (After.bind (rep := rB) A) fun v1 H1 ⟨I1, m1, c1, d1, E1, R1, p1, A1⟩ => by
    cases (show v1 = d1 from p1)
    cases v1 with
    | true => exact iteT <| ⟨I1, m1, l, c1, R1, L.ext E1, A1⟩
    | false => exact iteF <| ⟨I1, m1, l, c1, R1, L.ext E1, A1⟩⟩

/-! ### arguments, displays -/
def aNil : MA := fun _ c => .ok [] c
def aCons (a : ME) (t : MA) : MA := fun l c => (a l c).bind fun x c1 => (t l c1).bind fun xs c2 => .ok (x :: xs) c2
variable {ga : MA}
theorem ma_nil : PA X [] (rdA X.K W aNil) := PAi pa_nil fun σ H Q ⟨I, m, l, c, R, L, A⟩ => A.here R .nil
theorem ma_cons (ha : PE X e (rdE X.K W fa)) (ht : PA X es (rdA X.K W ga)) (hs : starEach (e :: es) X.env = (false, eval e X.env) :: starEach es X.env := by rfl) : PA X (e :: es) (rdA X.K W (aCons fa ga)) :=
  PAi (pa_cons ha ht hs) fun σ H Q ⟨I, m, l, c, R, L, A⟩ => ⟨I, m, l, c, R, L, After.mono (After.bind (rep := rD X.K) A) fun v1 H1 ⟨I1, m1, c1, d1, E1, R1, p1, A1⟩ =>
    ⟨I1, m1, l, c1, R1, L.ext E1, After.mono (After.bind (rep := rA X.K) A1) fun v2 H2 ⟨I2, m2, c2, d2, E2, R2, p2, A2⟩ => A2.here R2 (Reps.cons (Rep.ext p1 E2) p2)⟩⟩
/-- a size that fits -/
def fits {α : Type} (n : Nat) (r : R α) : R α := if n ≤ sizeLine then r else .stuck
theorem After.fits {α β : Type} {rep : Hp → List Addr → β → α → Prop} {K : PySem.W.Frag} {I H : Hp} {m : List Addr} {W : XK} {Q : β → Hp → Prop} {n : Nat} {r : R α} (h : After rep K I m H W Q (fits n r)) : n ≤ sizeLine ∧ After rep K I m H W Q r := by
  unfold Mi.fits at h
  split at h
  · exact ⟨by assumption, h⟩
  · exact h.elim
theorem After.new {K : PySem.W.Frag} {I H : Hp} {m : List Addr} {W : XK} {Q : VK} {c : Cs} {p : Addr} {o : HO} {d : D} (A : After (rD K) K I m H W Q (.ok d c)) (r : Rel K I H m c) (np : H p = none) (q : Rep K (upd I p o) m (.ref p) d) : Q (.ref p) (upd H p o) :=
  let ⟨r1, e1⟩ := alloc (o := o) r np
  A _ _ _ _ e1 r1 q
def mLst (t : MA) : ME := fun l c => (t l c).bind fun xs c1 => fits xs.length (.ok (.lst xs) c1)
def mTup (t : MA) : ME := fun l c => (t l c).bind fun xs c1 => fits xs.length (.ok (.tup xs) c1)
theorem same_upd {I H : Hp} {p : Addr} {o : HO} (s : Same I H) (np : H p = none) : Same I (upd I p o) := fun b u e => by rw [upd_ne (ne_of_none e (s.free np))]; exact e
theorem me_lst (h : PA X es (rdA X.K W ga)) : PE X (.List es pos) (rdE X.K W (mLst ga)) :=
  PEi (pe_lst h) fun σ H Q ⟨I, m, l, c, R, L, A⟩ => ⟨I, m, l, c, R, L, After.mono (After.bind (rep := rA X.K) A) fun v1 H1 ⟨I1, m1, c1, d1, E1, R1, p1, A1⟩ => by
    obtain ⟨z, A2⟩ := A1.fits
    have p1 : Reps X.K I1 m1 v1 d1 := p1
    exact ⟨by rw [p1.length]; exact z, fun p np => A2.new R1 np (.lst upd_same (p1.mono (same_upd R1.same np) (Pre.refl _)))⟩⟩
theorem me_tup {k : Nat} (h : PA X es (rdA X.K W ga)) : PE X (.Tuple es k pos) (rdE X.K W (mTup ga)) :=
  PEi (pe_tup h) fun σ H Q ⟨I, m, l, c, R, L, A⟩ => ⟨I, m, l, c, R, L, After.mono (After.bind (rep := rA X.K) A) fun v1 H1 ⟨I1, m1, c1, d1, E1, R1, p1, A1⟩ => by
    obtain ⟨z, A2⟩ := A1.fits
    have p1 : Reps X.K I1 m1 v1 d1 := p1
    exact ⟨by rw [p1.length]; exact z, fun p np => A2.new R1 np (.tup (SqT.of upd_same) (p1.mono (same_upd R1.same np) (Pre.refl _)))⟩⟩
end

/-! ### a cell is made, read, changed -/
theorem pre_app (m : List Addr) (a : Addr) : Pre m (m ++ [a]) := fun k b h => by
  have hk : k < m.length := (List.getElem?_eq_some_iff.mp h).1
  rw [List.getElem?_append_left hk]
  exact h
section
variable {K : PySem.W.Frag} {I H : Hp} {m : List Addr} {c : Cs}
/-- the addresses of cells are tracked, and not among what never changes unless frozen -/
theorem Rel.tracked (r : Rel K I H m c) {k : Nat} {a : Addr} (h : m[k]? = some a) : ∃ o, H a = some o := by
  have hk : k < c.length := by rw [← r.len]; exact (List.getElem?_eq_some_iff.mp h).1
  have q := r.cell k a c[k] h (List.getElem?_eq_getElem hk)
  cases e : c[k] with
  | lst ds => rw [e] at q; exact ⟨_, q.2.choose_spec.1⟩
  | dct ds => rw [e] at q; exact ⟨_, q.2.choose_spec.1⟩
  | ins C ds => rw [e] at q; obtain ⟨_, dx, vs, _, _, _, q5, _⟩ := q; exact q5.elim fun _ z => ⟨_, z.2⟩
  | frz d =>
    rw [e] at q
    cases z : I a with
    | none => exact absurd z q.1
    | some o => exact ⟨o, r.same _ _ z⟩
theorem Rel.fresh (r : Rel K I H m c) {p : Addr} (np : H p = none) : p ∉ m := fun h => by
  obtain ⟨k, hk⟩ := List.getElem?_of_mem h
  obtain ⟨o, e⟩ := r.tracked hk
  rw [np] at e; cases e
/-- a new mutable list -/
theorem Rel.push (r : Rel K I H m c) {p : Addr} (np : H p = none) {vs : List V} {ds : List D} (q : Reps K I m vs ds) : Rel K I (upd H p (.lst vs)) (m ++ [p]) (c ++ [.lst ds]) ∧ Ext I m H I (m ++ [p]) (upd H p (.lst vs)) := by
  have sH : Same H (upd H p (.lst vs)) := fun b u e => by rw [upd_ne (ne_of_none e np)]; exact e
  have hp := pre_app m p
  have nm := r.fresh np
  refine ⟨⟨r.same.trans sH, by simp [r.len], fun i j a h1 h2 => ?_, fun k a x h1 h2 => ?_, r.tabs.upHm (nt_none np)⟩, Same.refl I, hp, fun b o h1 hT h2 h3 => ⟨sH _ _ h1, h2, ?_⟩⟩
  · rcases Nat.lt_or_ge i m.length with hi | hi
    · rcases Nat.lt_or_ge j m.length with hj | hj
      · rw [List.getElem?_append_left hi] at h1
        rw [List.getElem?_append_left hj] at h2
        exact r.nd i j a h1 h2
      · rw [List.getElem?_append_left hi] at h1
        rw [List.getElem?_append_right hj] at h2
        have e : a = p := by
          cases z : j - m.length with
          | zero => rw [z] at h2; simpa using h2.symm
          | succ n => rw [z] at h2; simp at h2
        exact absurd (List.mem_of_getElem? h1) (e ▸ nm)
    · rcases Nat.lt_or_ge j m.length with hj | hj
      · rw [List.getElem?_append_left hj] at h2
        rw [List.getElem?_append_right hi] at h1
        have e : a = p := by
          cases z : i - m.length with
          | zero => rw [z] at h1; simpa using h1.symm
          | succ n => rw [z] at h1; simp at h1
        exact absurd (List.mem_of_getElem? h2) (e ▸ nm)
      · have hi' := (List.getElem?_eq_some_iff.mp h1).1
        have hj' := (List.getElem?_eq_some_iff.mp h2).1
        simp at hi' hj'
        omega
  · rcases Nat.lt_or_ge k m.length with hk | hk
    · rw [List.getElem?_append_left hk] at h1
      rw [List.getElem?_append_left (by rw [← r.len]; exact hk)] at h2
      have q := r.cell k a x h1 h2
      cases x with
      | lst es =>
        obtain ⟨q1, ws, q2, q3⟩ := q
        exact ⟨q1, ws, sH _ _ q2, q3.mono (Same.refl I) hp⟩
      | dct es =>
        obtain ⟨q1, ws, q2, q3⟩ := q
        exact ⟨q1, ws, sH _ _ q2, q3.mono (Same.refl I) hp⟩
      | ins C es =>
        obtain ⟨q1, dx, ws, q2, q3, q4, q5, q6⟩ := q
        exact ⟨q1, dx, ws, q2, fun z => by
          rcases List.mem_append.mp z with z | z
          · exact q3 z
          · simp only [List.mem_singleton] at z
            exact ne_of_none q4 np z, sH _ _ q4, q5.imp fun _ z => ⟨z.1, sH _ _ z.2⟩, q6.mono (Same.refl I) hp⟩
      | frz d => exact ⟨q.1, q.2.mono (Same.refl I) hp⟩
    · have hk' := (List.getElem?_eq_some_iff.mp h1).1
      simp at hk'
      have e : k = m.length := by omega
      subst e
      rw [List.getElem?_append_right (Nat.le_refl _)] at h1
      rw [r.len, List.getElem?_append_right (Nat.le_refl _)] at h2
      simp at h1 h2
      subst h1; subst h2
      exact ⟨r.same.free np, vs, upd_same, q.mono (Same.refl I) hp⟩
  · intro z
    rcases List.mem_append.mp z with z | z
    · exact h3 z
    · simp only [List.mem_singleton] at z
      exact ne_of_none h1 np z
/-- a list's cell is rewritten -/
theorem Rel.put (r : Rel K I H m c) {k : Nat} {a : Addr} {vs : List V} {ds ds0 : List D} (hm : m[k]? = some a) (hc : c[k]? = some (.lst ds0)) (q : Reps K I m vs ds) : Rel K I (upd H a (.lst vs)) m (c.set k (.lst ds)) ∧ Ext I m H I m (upd H a (.lst vs)) := by
  obtain ⟨n1, ws, n2, n3⟩ := r.cell k a _ hm hc
  refine ⟨⟨fun b o e => ?_, by simp [r.len], r.nd, fun j b x h1 h2 => ?_, r.tabs.upH (nt_some n2 ⟨(fun _ z => nomatch z), (fun _ z => nomatch z)⟩)⟩, Same.refl I, Pre.refl m, fun b o h1 hT h2 h3 => ⟨?_, h2, h3⟩⟩
  · rw [upd_ne (ne_of_none e n1)]
    exact r.same _ _ e
  · by_cases hj : k = j
    · subst hj
      rw [List.getElem?_set_self (List.getElem?_eq_some_iff.mp hc).1] at h2
      rw [hm] at h1
      cases h1; cases h2
      exact ⟨n1, vs, upd_same, q⟩
    · rw [List.getElem?_set_ne hj] at h2
      have nb : b ≠ a := fun e => hj (r.nd k j a hm (e ▸ h1))
      have q := r.cell j b x h1 h2
      cases x with
      | lst es =>
        obtain ⟨q1, ws, q2, q3⟩ := q
        exact ⟨q1, ws, by rw [upd_ne nb]; exact q2, q3⟩
      | dct es =>
        obtain ⟨q1, ws, q2, q3⟩ := q
        exact ⟨q1, ws, by rw [upd_ne nb]; exact q2, q3⟩
      | ins C es =>
        obtain ⟨q1, dx, ws, q2, q3, q4, q5, q6⟩ := q
        exact ⟨q1, dx, ws, q2, q3, by rw [upd_ne (ne_of q4 n2 (by intro z; cases z))]; exact q4, q5.imp fun _ z => ⟨z.1, by rw [upd_ne nb]; exact z.2⟩, q6⟩
      | frz d => exact q
  · rw [upd_ne (fun (e : b = a) => h3 (by rw [e]; exact List.mem_of_getElem? hm))]
    exact h1
/-- a list's cell does not change any more -/
theorem Rel.freeze (r : Rel K I H m c) {k : Nat} {a : Addr} {ds : List D} (hm : m[k]? = some a) (hc : c[k]? = some (.lst ds)) : ∃ I' : Hp, Rel K I' H m (c.set k (.frz (.lst ds))) ∧ Ext I m H I' m H ∧ Rep K I' m (.ref a) (.lst ds) := by
  obtain ⟨n1, ws, n2, n3⟩ := r.cell k a _ hm hc
  have sI : Same I (upd I a (.lst ws)) := fun b o e => by rw [upd_ne (ne_of_none e n1)]; exact e
  refine ⟨upd I a (.lst ws), ⟨fun b o e => ?_, by simp [r.len], r.nd, fun j b x h1 h2 => ?_, r.tabs.upI (nt_some n2 ⟨(fun _ z => nomatch z), (fun _ z => nomatch z)⟩)⟩, ⟨sI, Pre.refl m, fun b o h1 hT h2 h3 => ⟨h1, ?_, h3⟩⟩, .lst upd_same (n3.mono sI (Pre.refl m))⟩
  · by_cases hb : b = a
    · subst hb
      rw [upd_same] at e
      cases e
      exact n2
    · rw [upd_ne hb] at e
      exact r.same _ _ e
  · by_cases hj : k = j
    · subst hj
      rw [List.getElem?_set_self (List.getElem?_eq_some_iff.mp hc).1] at h2
      rw [hm] at h1
      cases h1; cases h2
      exact ⟨by rw [upd_same]; exact nofun, .lst upd_same (n3.mono sI (Pre.refl m))⟩
    · rw [List.getElem?_set_ne hj] at h2
      have nb : b ≠ a := fun e => hj (r.nd k j a hm (e ▸ h1))
      have q := r.cell j b x h1 h2
      cases x with
      | lst es =>
        obtain ⟨q1, ws, q2, q3⟩ := q
        exact ⟨by rw [upd_ne nb]; exact q1, ws, q2, q3.mono sI (Pre.refl m)⟩
      | dct es =>
        obtain ⟨q1, ws, q2, q3⟩ := q
        exact ⟨by rw [upd_ne nb]; exact q1, ws, q2, q3.mono sI (Pre.refl m)⟩
      | ins C es =>
        obtain ⟨q1, dx, ws, q2, q3, q4, q5, q6⟩ := q
        exact ⟨by rw [upd_ne nb]; exact q1, dx, ws, by rw [upd_ne (ne_of q4 n2 (by intro z; cases z))]; exact q2, q3, q4, q5, q6.mono sI (Pre.refl m)⟩
      | frz d => exact ⟨by rw [upd_ne nb]; exact q.1, q.2.mono sI (Pre.refl m)⟩
  · rw [upd_ne (fun (e : b = a) => h3 (by rw [e]; exact List.mem_of_getElem? hm))]
    exact h2
end
end L2.Mi

namespace L2.Mi
open PySem PySem.Spec PyProof.Rows L2

section
variable {K : PySem.W.Frag}
/-! ### + - * // % ** -/
def addD : D → D → Cs → R D
  | .int i, .int j, c => .ok (.int (i + j)) c
  | .str s, .str t, c => fits (s.length + t.length) (.ok (.str (s ++ t)) c)
  | .lst a, .lst b, c => fits (a.length + b.length) (.ok (.lst (a ++ b)) c)
  | .int i, .bl b, c => .ok (.int (i + b2i b)) c
  | .tup a, .tup b, c => match a, b with
    | [], _ => .stuck
    | _, [] => .stuck
    | _, _ => fits (a.length + b.length) (.ok (.tup (a ++ b)) c)
  | _, _, _ => .stuck
def rAddA (K : PySem.W.Frag) : R2 := fun x y H Q => (∃ i j, x = .int i ∧ y = .int j ∧ Q (.int (i + j)) H) ∨ (∃ i j, x = .str i ∧ y = .str j ∧ i.length + j.length ≤ sizeLine ∧ Q (.str (i ++ j)) H) ∨ rCat x y H Q ∨
  (∃ i k, x = .int i ∧ y = .bl k ∧ Q (.int (i + b2i k)) H) ∨ rCatT K x y H Q
theorem op_addA {X : Cx} : OpR X (binaryOp .Add) (rAddA X.K) := op_add.or (op_add_str.or (op_cat.or (op_add_ib.or op_catT)))
theorem os_add : OpS K (rAddA K) addD := fun I H m c v1 v2 d1 d2 W Q R p1 p2 A => by
  cases p1 with
  | int i =>
    cases p2 with
    | int j => exact .inl ⟨i, j, rfl, rfl, A.here R (.int _)⟩
    | bl b => exact .inr (.inr (.inr (.inl ⟨i, b, rfl, rfl, A.here R (.int _)⟩)))
    | _ => exact A.elim
  | str s =>
    cases p2 with
    | str t =>
      obtain ⟨z, A⟩ := After.fits (show After (rD K) K I m H W Q (fits (s.length + t.length) (.ok (.str (s ++ t)) c)) from A)
      exact .inr (.inl ⟨s, t, rfl, rfl, z, A.here R (.str _)⟩)
    | _ => exact A.elim
  | lst h1 r1 =>
    cases p2 with
    | @lst b ws es h2 r2 =>
      obtain ⟨z, A⟩ := After.fits A
      rw [← r1.length, ← r2.length] at z
      refine .inr (.inr (.inl ⟨_, b, _, _, rfl, rfl, R.same _ _ h1, R.same _ _ h2, z, fun p np => ?_⟩))
      exact A.new R np (.lst upd_same ((r1.append r2).mono (same_upd R.same np) (Pre.refl _)))
    | _ => exact A.elim
  | @tup a1 vs1 ds1 h1 r1 =>
    cases p2 with
    | @tup a2 vs2 ds2 h2 r2 =>
      cases ds1 with
      | nil => exact A.elim
      | cons x xs =>
        cases ds2 with
        | nil => exact A.elim
        | cons y ys =>
          obtain ⟨z, A⟩ := After.fits (show After (rD K) K I m H W Q (fits ((x :: xs).length + (y :: ys).length) (.ok (.tup ((x :: xs) ++ (y :: ys))) c)) from A)
          rw [← r1.length, ← r2.length] at z
          refine .inr (.inr (.inr (.inr ⟨_, a2, _, _, rfl, rfl, sqT_same R.same h1, sqT_same R.same h2, ?_, z, ?_, ?_⟩)))
          · intro e; rw [e] at r1; have := r1.length; simp at this
          · intro e; rw [e] at r2; have := r2.length; simp at this
          · exact fun _ p np => A.new R np (.tup (SqT.of upd_same) ((r1.append r2).mono (same_upd R.same np) (Pre.refl _)))
    | _ => exact A.elim
  | _ => exact A.elim

def subD : D → D → Cs → R D
  | .int i, .int j, c => .ok (.int (i - j)) c
  | _, _, _ => .stuck
theorem os_sub : OpS K (rI0 fun i j => .int (i - j)) subD := fun I H m c v1 v2 d1 d2 W Q R p1 p2 A => by
  cases p1 with
  | int i =>
    cases p2 with
    | int j => exact ⟨i, j, rfl, rfl, A.here R (.int _)⟩
    | _ => exact A.elim
  | _ => exact A.elim
/-- the guard of a rule about two ints -/
def intC (C : Int → Int → Prop) [∀ i j, Decidable (C i j)] (g : Int → Int → Int) : D → D → Cs → R D
  | .int i, .int j, c => if C i j then .ok (.int (g i j)) c else .stuck
  | _, _, _ => .stuck
theorem os_intC {C : Int → Int → Prop} [∀ i j, Decidable (C i j)] {g : Int → Int → Int} : OpS K (rI C fun i j => .int (g i j)) (intC C g) := fun I H m c v1 v2 d1 d2 W Q R p1 p2 A => by
  cases p1 with
  | int i =>
    cases p2 with
    | int j =>
      by_cases hc : C i j
      · have A2 : After (rD K) K I m H W Q (if C i j then .ok (.int (g i j)) c else .stuck) := A
        rw [if_pos hc] at A2
        exact ⟨i, j, rfl, rfl, hc, A2.here R (.int _)⟩
      · have A2 : After (rD K) K I m H W Q (if C i j then .ok (.int (g i j)) c else .stuck) := A
        rw [if_neg hc] at A2
        exact A2.elim
    | _ => exact A.elim
  | _ => exact A.elim
instance : ∀ i j, Decidable (CMul i j) := fun i j => inferInstanceAs (Decidable ((-(2 ^ 64) < i ∧ i < 2 ^ 64) ∨ (-(2 ^ 64) < j ∧ j < 2 ^ 64)))
instance : ∀ i j, Decidable (CDivN i j) := fun i j => inferInstanceAs (Decidable (j ≠ 0 ∧ j.natAbs < 1073741824))
instance : ∀ i j, Decidable (CPow i j) := fun i j => inferInstanceAs (Decidable (0 ≤ j ∧ j ≤ 1000000 ∧ i.natAbs < 2 ^ 64))
def CNz (_ j : Int) : Prop := j ≠ 0
instance : ∀ i j, Decidable (CNz i j) := fun i j => inferInstanceAs (Decidable (j ≠ 0))
/-- list * int, text * int are further on -/
def mulI : D → D → Cs → R D := intC CMul (· * ·)
def divI : D → D → Cs → R D := intC CDivN Int.fdiv
def modI : D → D → Cs → R D := intC CNz Int.fmod
def powI : D → D → Cs → R D := intC CPow fun i j => i ^ j.toNat
theorem os_mulI : OpS K (rI CMul fun i j => .int (i * j)) mulI := os_intC
theorem os_divI : OpS K (rI CDivN fun i j => .int (i.fdiv j)) divI := os_intC
theorem os_modI : OpS K (rI (fun _ j => j ≠ 0) fun i j => .int (i.fmod j)) modI := os_intC (C := CNz)
theorem os_powI : OpS K (rI CPow fun i j => .int (i ^ j.toNat)) powI := os_intC
def negD : D → Cs → R D
  | .int i, c => .ok (.int (-i)) c
  | _, _ => .stuck
theorem us_neg : UnS K (rU fun i => .int (-i)) negD := fun I H m c v1 d1 W Q R p1 A => by
  cases p1 with
  | int i => exact ⟨i, rfl, A.here R (.int _)⟩
  | _ => exact A.elim

/-! ### comparisons -/
def cmpI (p : Int → Int → Bool) : D → D → Cs → R D
  | .int i, .int j, c => .ok (.bl (p i j)) c
  | _, _, _ => .stuck
theorem os_cmpI {p : Int → Int → Bool} : OpS K (rI0 fun i j => .bl (p i j)) (cmpI p) := fun I H m c v1 v2 d1 d2 W Q R p1 p2 A => by
  cases p1 with
  | int i =>
    cases p2 with
    | int j => exact ⟨i, j, rfl, rfl, A.here R (.bl _)⟩
    | _ => exact A.elim
  | _ => exact A.elim
def rLtA : R2 := fun x y H Q => rI0 (fun i j => .bl (decide (i < j))) x y H Q ∨ ∃ i j, x = .str i ∧ y = .str j ∧ Q (.bl (decide (i.cps.toList < j.cps.toList))) H
def rLeA : R2 := fun x y H Q => rI0 (fun i j => .bl (decide (i ≤ j))) x y H Q ∨ ∃ i j, x = .str i ∧ y = .str j ∧ Q (.bl (!decide (j.cps.toList < i.cps.toList))) H
theorem op_ltA {X : Cx} : OpR X (compareOp .Lt) rLtA := op_lt.or op_lt_str
theorem op_leA {X : Cx} : OpR X (compareOp .LtE) rLeA := op_le.or op_le_str
def ltD : D → D → Cs → R D
  | .int i, .int j, c => .ok (.bl (decide (i < j))) c
  | .str i, .str j, c => .ok (.bl (decide (i.cps.toList < j.cps.toList))) c
  | _, _, _ => .stuck
def leD : D → D → Cs → R D
  | .int i, .int j, c => .ok (.bl (decide (i ≤ j))) c
  | .str i, .str j, c => .ok (.bl (!decide (j.cps.toList < i.cps.toList))) c
  | _, _, _ => .stuck
theorem os_lt : OpS K rLtA ltD := fun I H m c v1 v2 d1 d2 W Q R p1 p2 A => by
  cases p1 with
  | int i =>
    cases p2 with
    | int j => exact .inl ⟨i, j, rfl, rfl, A.here R (.bl _)⟩
    | _ => exact A.elim
  | str i =>
    cases p2 with
    | str j => exact .inr ⟨i, j, rfl, rfl, A.here R (.bl _)⟩
    | _ => exact A.elim
  | _ => exact A.elim
theorem os_le : OpS K rLeA leD := fun I H m c v1 v2 d1 d2 W Q R p1 p2 A => by
  cases p1 with
  | int i =>
    cases p2 with
    | int j => exact .inl ⟨i, j, rfl, rfl, A.here R (.bl _)⟩
    | _ => exact A.elim
  | str i =>
    cases p2 with
    | str j => exact .inr ⟨i, j, rfl, rfl, A.here R (.bl _)⟩
    | _ => exact A.elim
  | _ => exact A.elim
def gtD : D → D → Cs → R D := cmpI fun i j => decide (j < i)
/-! ### data as the library has it -/
mutual
def toPy : D → Option PyData
  | .non => some .none
  | .bl b => some (.bool b)
  | .int i => some (.int i)
  | .str s => some (.str s)
  | .lst xs => match toPys xs with
    | some ys => some (.list ys)
    | none => none
  | .tup xs => match toPys xs with
    | some ys => some (.tuple ys)
    | none => none
  | _ => none
def toPys : List D → Option (List PyData)
  | [] => some []
  | x :: xs => match toPy x with
    | some y => match toPys xs with
      | some ys => some (y :: ys)
      | none => none
    | none => none
end
mutual
theorem rep_dp {I H : Hp} {m : List Addr} (s : Same I H) : ∀ {v : V} {d : D} {p : PyData}, Rep K I m v d → toPy d = some p → Dp K H v p
  | _, _, _, .non, e => by simp [toPy] at e; subst e; exact .non
  | _, _, _, .bl b, e => by simp [toPy] at e; subst e; exact .bl b
  | _, _, _, .int i, e => by simp [toPy] at e; subst e; exact .int i
  | _, _, _, .str x, e => by simp [toPy] at e; subst e; exact .str x
  | _, _, _, .lst (ds := ds) h r, e => by
    unfold toPy at e
    cases q : toPys ds with
    | none => rw [q] at e; cases e
    | some ys => rw [q] at e; cases e; exact .lst (SqL.of (s _ _ h)) (reps_dp s r q)
  | _, _, _, .tup (ds := ds) h r, e => by
    unfold toPy at e
    cases q : toPys ds with
    | none => rw [q] at e; cases e
    | some ys => rw [q] at e; cases e; exact .tup (sqT_same s h) (reps_dp s r q)
  | _, _, _, .ro h r, e => by simp [toPy] at e
  | _, _, _, .dct h r, e => by simp [toPy] at e
  | _, _, _, .ref h, e => by simp [toPy] at e
  | _, _, _, .obj hn h r, e => by simp [toPy] at e
  | _, _, _, .adr a, e => by simp [toPy] at e
  | _, _, _, .ty n, e => by simp [toPy] at e
theorem reps_dp {I H : Hp} {m : List Addr} (s : Same I H) : ∀ {v : List V} {d : List D} {p : List PyData}, Reps K I m v d → toPys d = some p → DpAll K H v p
  | _, _, _, .nil, e => by simp [toPys] at e; subst e; exact .nil
  | _, _, _, .cons (d := d) (ds := ds) h t, e => by
    unfold toPys at e
    cases q : toPy d with
    | none => rw [q] at e; cases e
    | some y =>
      cases q2 : toPys ds with
      | none => rw [q, q2] at e; cases e
      | some ys => rw [q, q2] at e; cases e; exact .cons (rep_dp s h q) (reps_dp s t q2)
end
/-- == of data -/
def eqP (neg : Bool) (d e : D) (c : Cs) : R D := match toPy d with
  | some a => match toPy e with
    | some b => if SeqAt.shaped a = true ∧ SeqAt.shaped b = true then .ok (.bl (if neg then !PyData.eqv a b else PyData.eqv a b)) c else .stuck
    | none => .stuck
  | none => .stuck
def eqD : D → D → Cs → R D
  | .int i, .int j, c => .ok (.bl (decide (i = j))) c
  | .str i, .str j, c => .ok (.bl (decide (i = j))) c
  | .bl i, .bl j, c => .ok (.bl (decide (i = j))) c
  | d, e, c => eqP false d e c
def neD : D → D → Cs → R D
  | .int i, .int j, c => .ok (.bl (!decide (i = j))) c
  | .str i, .str j, c => .ok (.bl (!decide (i = j))) c
  | .bl i, .bl j, c => .ok (.bl (!decide (i = j))) c
  | d, e, c => eqP true d e c
def rEqA (K : PySem.W.Frag) : R2 := fun x y H Q => rEq x y H Q ∨ rEqD K x y H Q
def rNeA (K : PySem.W.Frag) : R2 := fun x y H Q => rNe x y H Q ∨ rNeD K x y H Q
theorem op_eqA {X : Cx} (hu : X.A.units + 64 < cLine) : OpR X (compareOp .Eq) (rEqA X.K) := op_eq.or (op_eqD hu)
theorem op_neA {X : Cx} (hu : X.A.units + 64 < cLine) : OpR X (compareOp .NotEq) (rNeA X.K) := op_ne.or (op_neD hu)
theorem eqP_read {I H : Hp} {m : List Addr} {c : Cs} {W : XK} {Q : VK} {v1 v2 : V} {d1 d2 : D} {neg : Bool} (R : Rel K I H m c) (p1 : Rep K I m v1 d1) (p2 : Rep K I m v2 d2) (A : After (rD K) K I m H W Q (eqP neg d1 d2 c)) :
    ∃ d e, Dp K H v1 d ∧ Dp K H v2 e ∧ SeqAt.shaped d = true ∧ SeqAt.shaped e = true ∧ Q (.bl (if neg then !PyData.eqv d e else PyData.eqv d e)) H := by
  unfold eqP at A
  cases q1 : toPy d1 with
  | none => rw [q1] at A; exact A.elim
  | some a =>
    cases q2 : toPy d2 with
    | none => rw [q1, q2] at A; exact A.elim
    | some b =>
      rw [q1, q2] at A
      by_cases hs : SeqAt.shaped a = true ∧ SeqAt.shaped b = true
      · have A2 : After (rD K) K I m H W Q (if SeqAt.shaped a = true ∧ SeqAt.shaped b = true then .ok (.bl (if neg then !PyData.eqv a b else PyData.eqv a b)) c else .stuck) := A
        rw [if_pos hs] at A2
        exact ⟨a, b, rep_dp R.same p1 q1, rep_dp R.same p2 q2, hs.1, hs.2, A2.here R (.bl _)⟩
      · have A2 : After (rD K) K I m H W Q (if SeqAt.shaped a = true ∧ SeqAt.shaped b = true then .ok (.bl (if neg then !PyData.eqv a b else PyData.eqv a b)) c else .stuck) := A
        rw [if_neg hs] at A2
        exact A2.elim
theorem decV {α : Type} [DecidableEq α] {f : α → V} (hf : ∀ a b, f a = f b → a = b) (a b : α) : decide (f a = f b) = decide (a = b) := by
  by_cases h : a = b
  · subst h; simp
  · rw [decide_eq_false h, decide_eq_false fun e => h (hf _ _ e)]
theorem os_eq : OpS K (rEqA K) eqD := fun I H m c v1 v2 d1 d2 W Q R p1 p2 A => by
  have gen : After (rD K) K I m H W Q (eqP false d1 d2 c) → rEqA K v1 v2 H Q := fun A => .inr (eqP_read R p1 p2 A)
  cases p1 with
  | int i => cases p2 with
    | int j => exact .inl ⟨rfl, by rw [decV (f := V.int) fun _ _ e => V.int.inj e]; exact A.here R (.bl _)⟩
    | _ => exact gen A
  | str i => cases p2 with
    | str j => exact .inl ⟨rfl, by rw [decV (f := V.str) fun _ _ e => V.str.inj e]; exact A.here R (.bl _)⟩
    | _ => exact gen A
  | bl i => cases p2 with
    | bl j => exact .inl ⟨rfl, by rw [decV (f := V.bl) fun _ _ e => V.bl.inj e]; exact A.here R (.bl _)⟩
    | _ => exact gen A
  | _ => exact gen A
theorem os_ne : OpS K (rNeA K) neD := fun I H m c v1 v2 d1 d2 W Q R p1 p2 A => by
  have gen : After (rD K) K I m H W Q (eqP true d1 d2 c) → rNeA K v1 v2 H Q := fun A => .inr (eqP_read (neg := true) R p1 p2 A)
  cases p1 with
  | int i => cases p2 with
    | int j => exact .inl ⟨rfl, by rw [decV (f := V.int) fun _ _ e => V.int.inj e]; exact A.here R (.bl _)⟩
    | _ => exact gen A
  | str i => cases p2 with
    | str j => exact .inl ⟨rfl, by rw [decV (f := V.str) fun _ _ e => V.str.inj e]; exact A.here R (.bl _)⟩
    | _ => exact gen A
  | bl i => cases p2 with
    | bl j => exact .inl ⟨rfl, by rw [decV (f := V.bl) fun _ _ e => V.bl.inj e]; exact A.here R (.bl _)⟩
    | _ => exact gen A
  | _ => exact gen A
/-- is None, is not None -/
def isNoneD : D → Bool
  | .non => true
  | _ => false
def isD : D → D → Cs → R D := fun d e c => match e with
  | .non => .ok (.bl (isNoneD d)) c
  | _ => .stuck
theorem rep_non {I : Hp} {m : List Addr} {v : V} {d : D} (p : Rep K I m v d) : decide (v = .non) = isNoneD d := by
  cases p <;> first | rfl | exact decide_eq_false nofun
theorem os_is : OpS K (fun x y H Q => y = .non ∧ Q (.bl (decide (x = .non))) H) isD := fun I H m c v1 v2 d1 d2 W Q R p1 p2 A => by
  cases p2 with
  | non => exact ⟨rfl, by rw [rep_non p1]; exact A.here R (.bl _)⟩
  | _ => exact A.elim
/-! ### in, not in -/
def cps1 : Str → Option Nat := fun s => match s.cps.toList with
  | [c] => some c
  | _ => none
theorem cps1_eq {s : Str} {k : Nat} (h : cps1 s = some k) : s = ⟨#[k]⟩ := by
  unfold cps1 at h
  split at h
  · rename_i c e
    cases h
    obtain ⟨⟨l⟩⟩ := s
    simp at e
    rw [e]
  · cases h
/-- in, not in: one sign in a text, a flat value in a list or tuple of flat values, data in a list of data -/
def sgn (neg b : Bool) : Bool := if neg then !b else b
mutual
def flatD : D → Bool
  | .non => true
  | .bl _ => true
  | .int _ => true
  | .str _ => true
  | _ => false
end
def eqF : D → D → Bool
  | .non, .non => true
  | .bl a, .bl b => a == b
  | .bl a, .int j => (if a then 1 else 0) == j
  | .int i, .bl b => i == (if b then 1 else 0)
  | .int i, .int j => i == j
  | .str x, .str y => x == y
  | _, _ => false
def inL (neg : Bool) (d : D) (ys : List D) (c : Cs) : R D :=
  if flatD d = true ∧ ys.all flatD = true then .ok (.bl (sgn neg (ys.any fun y => eqF y d))) c else .stuck
def inD (neg : Bool) : D → D → Cs → R D
  | .str a, .str b, c => match cps1 a with
    | some k => .ok (.bl (sgn neg (decide (k ∈ b.cps.toList)))) c
    | none => .stuck
  | d, .lst ys, c => inL neg d ys c
  | d, .tup ys, c => inL neg d ys c
  | _, _, _ => .stuck
theorem flat_rep {I : Hp} {m : List Addr} {v : V} {d : D} (p : Rep K I m v d) (f : flatD d = true) : flatV v = true := by
  cases p <;> first | rfl | exact absurd (show false = true from f) Bool.false_ne_true
theorem eqF_rep {I : Hp} {m : List Addr} {v w : V} {d e : D} (p : Rep K I m v d) (q : Rep K I m w e) (f : flatD d = true) (g : flatD e = true) : eqV v w = eqF d e := by
  cases p <;> first
    | exact absurd (show false = true from f) Bool.false_ne_true
    | (cases q <;> first | rfl | exact absurd (show false = true from g) Bool.false_ne_true)
theorem flat_reps {I : Hp} {m : List Addr} : ∀ {vs : List V} {ds : List D}, Reps K I m vs ds → ds.all flatD = true → vs.all flatV = true
  | _, _, .nil, _ => rfl
  | _, _, .cons h t, f => by
    rw [List.all_cons, Bool.and_eq_true] at f ⊢
    exact ⟨flat_rep h f.1, flat_reps t f.2⟩
theorem any_reps {I : Hp} {m : List Addr} {v : V} {d : D} (p : Rep K I m v d) (f : flatD d = true) : ∀ {vs : List V} {ds : List D}, Reps K I m vs ds → ds.all flatD = true → (vs.any fun y => eqV y v) = ds.any fun y => eqF y d
  | _, _, .nil, _ => rfl
  | _, _, .cons h t, g => by
    rw [List.all_cons, Bool.and_eq_true] at g
    rw [List.any_cons, List.any_cons, eqF_rep h p g.1 f, any_reps p f t g.2]
def rInA (K : PySem.W.Frag) (neg : Bool) : R2 := fun x y H Q => (∃ (k : Nat) (z : Str), x = .str ⟨#[k]⟩ ∧ y = .str z ∧ Q (.bl (sgn neg (decide (k ∈ z.cps.toList)))) H) ∨ rIn K neg x y H Q
theorem op_inA {X : Cx} : OpR X (compareOp .In) (rInA X.K false) := op_in_sign.or op_in_seq
theorem op_notinA {X : Cx} : OpR X (compareOp .NotIn) (rInA X.K true) := op_notIn_sign.or op_notIn_seq
theorem os_in {neg : Bool} : OpS K (rInA K neg) (inD neg) := fun I H m c v1 v2 d1 d2 W Q R p1 p2 A => by
  have seq : ∀ {p : Addr} {vs : List V} {ds : List D}, v2 = .ref p → (SqL K H p vs ∨ SqT K H p vs) → Reps K I m vs ds → After (rD K) K I m H W Q (inL neg d1 ds c) → rInA K neg v1 v2 H Q := fun {p vs ds} e hq rr A => by
    unfold inL at A
    by_cases hf : flatD d1 = true ∧ ds.all flatD = true
    · rw [if_pos hf] at A
      refine .inr ⟨p, vs, e, hq, flat_rep p1 hf.1, flat_reps rr hf.2, ?_⟩
      unfold inV
      rw [any_reps p1 hf.1 rr hf.2]
      exact A.here R (.bl _)
    · rw [if_neg hf] at A
      exact A.elim
  cases p2 with
  | str b =>
    cases p1 with
    | str a =>
      have A2 : After (rD K) K I m H W Q (match cps1 a with
        | some k => .ok (.bl (sgn neg (decide (k ∈ b.cps.toList)))) c
        | none => .stuck) := A
      cases q : cps1 a with
      | none => rw [q] at A2; exact A2.elim
      | some k =>
        rw [q] at A2
        exact .inl ⟨k, b, by rw [cps1_eq q], rfl, A2.here R (.bl _)⟩
    | _ => exact A.elim
  | lst h r => exact seq rfl (.inl (SqL.of (R.same _ _ h))) r (by cases p1 <;> exact A)
  | tup h r => exact seq rfl (.inr (sqT_same R.same h)) r (by cases p1 <;> exact A)
  | _ => cases p1 <;> exact A.elim

/-! ### items -/
theorem atI_reps {I : Hp} {m : List Addr} {vs : List V} {ds : List D} {i : Int} {d : D} (r : Reps K I m vs ds) (h : atI ds i = some d) : ∃ v, atI vs i = some v ∧ Rep K I m v d := by
  unfold atI at h ⊢
  rw [r.length]
  cases q : ixN ds.length i with
  | none => rw [q] at h; cases h
  | some j =>
    rw [q] at h
    exact r.get (i := j) h
def itL (ds : List D) (i : Int) (c : Cs) : R D := match atI ds i with
  | some d => .ok d c
  | none => .stuck
def itemD : D → D → Cs → R D
  | .lst ds, .int i, c => itL ds i c
  | .ro ds, .int i, c => itL ds i c
  | .tup ds, .int i, c => itL ds i c
  | .str s, .int i, c => fits s.length (match atI s.cps.toList i with
    | some k => .ok (.str ⟨#[k]⟩) c
    | none => .stuck)
  | .ref k, .int i, c => match c[k]? with
    | some (.lst ds) => itL ds i c
    | some (.frz (.lst ds)) => itL ds i c
    | _ => .stuck
  | _, _, _ => .stuck
theorem os_item : OpS K (rIx K) itemD := fun I H m c v1 v2 d1 d2 W Q R p1 p2 A => by
  have lst : ∀ {a : Addr} {vs : List V} {ds : List D} {i : Int}, v1 = .ref a → v2 = .int i → SqL K H a vs → Reps K I m vs ds → After (rD K) K I m H W Q (itL ds i c) → rIx K v1 v2 H Q := fun {a vs ds i} e1 e2 h r A => by
    unfold itL at A
    cases q : atI ds i with
    | none => rw [q] at A; exact A.elim
    | some d =>
      rw [q] at A
      obtain ⟨v, hv, pv⟩ := atI_reps r q
      exact .inl ⟨a, vs, i, v, e1, e2, h, hv, A.here R pv⟩
  cases p2 with
  | int i =>
    cases p1 with
    | lst h r => exact lst rfl rfl (SqL.of (R.same _ _ h)) r A
    | ro h r => exact lst rfl rfl (R.same.seq h) r A
    | @tup a vs ds h r =>
      have A2 : After (rD K) K I m H W Q (itL ds i c) := A
      unfold itL at A2
      cases q : atI ds i with
      | none => rw [q] at A2; exact A2.elim
      | some d =>
        rw [q] at A2
        obtain ⟨v, hv, pv⟩ := atI_reps r q
        exact .inr (.inl ⟨a, vs, i, v, rfl, rfl, sqT_same R.same h, hv, A2.here R pv⟩)
    | str s =>
      obtain ⟨z, A2⟩ := After.fits (show After (rD K) K I m H W Q (fits s.length (match atI s.cps.toList i with
        | some k => .ok (.str ⟨#[k]⟩) c
        | none => .stuck)) from A)
      cases q : atI s.cps.toList i with
      | none => rw [q] at A2; exact A2.elim
      | some k =>
        rw [q] at A2
        exact .inr (.inr ⟨s, i, k, rfl, rfl, z, q, A2.here R (.str _)⟩)
    | @ref k a h =>
      have A2 : After (rD K) K I m H W Q (match c[k]? with
        | some (.lst ds) => itL ds i c
        | some (.frz (.lst ds)) => itL ds i c
        | _ => .stuck) := A
      cases q : c[k]? with
      | none => rw [q] at A2; exact A2.elim
      | some x =>
        rw [q] at A2
        have hc := R.cell k a x h q
        cases x with
        | lst ds =>
          obtain ⟨_, vs, h1, h2⟩ := hc
          exact lst rfl rfl (SqL.of h1) h2 A2
        | frz d =>
          cases d with
          | lst ds =>
            obtain ⟨_, hr⟩ := hc
            cases hr with
            | lst h1 h2 => exact lst rfl rfl (SqL.of (R.same _ _ h1)) h2 A2
          | _ => exact A2.elim
        | _ => exact A2.elim
    | _ => exact A.elim
  | _ => cases p1 <;> exact A.elim

/-! ### slices -/
abbrev MO := Ls → Cs → R (Option Int)
def oNone : MO := fun _ c => .ok none c
def oSome (a : ME) : MO := fun l c => (a l c).bind fun x c1 => match x with
  | .int i => .ok (some i) c1
  | _ => .stuck
def cutD (xs : List D) (lo hi : Option Int) : List D := (xs.drop (HT.sIx xs.length 0 lo)).take (HT.sIx xs.length xs.length hi - HT.sIx xs.length 0 lo)
def sliceD (d : D) (lo hi : Option Int) (c : Cs) : R D := match d with
  | .lst ds => .ok (.lst (cutD ds lo hi)) c
  | .str s => fits s.length (.ok (.str (cutS s lo hi)) c)
  | .ref k => match c[k]? with
    | some (.lst ds) => .ok (.lst (cutD ds lo hi)) c
    | _ => .stuck
  | _ => .stuck
def mSlice (a : ME) (lo hi : MO) : ME := fun l c => (a l c).bind fun x c1 => (lo l c1).bind fun i c2 => (hi l c2).bind fun j c3 => sliceD x i j c3
/-! ### calls of built-ins -/
def CallS (K : PySem.W.Frag) (r : List V → Hp → VK → Prop) (g : List D → Cs → R D) : Prop := ∀ (I H : Hp) (m : List Addr) (c : Cs) (vs : List V) (ds : List D) (W : XK) (Q : VK),
  Rel K I H m c → Reps K I m vs ds → After (rD K) K I m H W Q (g ds c) → r vs H Q
def mCB (g : List D → Cs → R D) (t : MA) : ME := fun l c => (t l c).bind fun xs c1 => g xs c1
theorem cb_read {X : Cx} {W : WX} {r : List V → Hp → VK → Prop} {g : List D → Cs → R D} {ga : MA} {σ : St} {H : Hp} {Q : VK} (hs : CallS X.K r g) (h : rdE X.K W (mCB g ga) σ H Q) : tCB r (rdA X.K W ga) σ H Q := by
  obtain ⟨I, m, l, c, R, L, A⟩ := h
  exact ⟨I, m, l, c, R, L, After.mono (After.bind (rep := rA X.K) A) fun v1 H1 ⟨I1, m1, c1, d1, E1, R1, p1, A1⟩ => hs _ _ _ _ _ _ _ _ R1 p1 A1⟩
def lenC (x : D) (c : Cs) : Option Nat := match x with
  | .lst ds => some ds.length
  | .ro ds => some ds.length
  | .tup ds => some ds.length
  | .str s => if s.length ≤ sizeLine then some s.length else none
  | .ref k => match c[k]? with
    | some (.lst ds) => some ds.length
    | some (.frz (.lst ds)) => some ds.length
    | _ => none
  | _ => none
def lenD : List D → Cs → R D
  | [x], c => match lenC x c with
    | some n => .ok (.int n) c
    | none => .stuck
  | _, _ => .stuck
theorem cs_len : CallS K (fun xs H Q => ∃ x n, xs = [x] ∧ LenV K x H n ∧ Q (.int n) H) lenD := fun I H m c vs ds W Q R p A => by
  cases p with
  | nil => exact A.elim
  | @cons v _ d _ h t =>
    cases t with
    | cons _ _ => exact A.elim
    | nil =>
      have A2 : After (rD K) K I m H W Q (match lenC d c with
        | some n => .ok (.int n) c
        | none => .stuck) := A
      have fin : ∀ {n : Nat}, lenC d c = some n → LenV K v H n → ∃ x n, [v] = [x] ∧ LenV K x H n ∧ Q (.int n) H := fun {n} e hl => by
        rw [e] at A2
        exact ⟨v, n, rfl, hl, A2.here R (.int _)⟩
      cases h with
      | lst h r => exact fin rfl (.inl ⟨_, SqL.of (R.same _ _ h), r.length.symm⟩)
      | ro h r => exact fin rfl (.inl ⟨_, R.same.seq h, r.length.symm⟩)
      | tup h r => exact fin rfl (.inr ⟨_, sqT_same R.same h, r.length.symm⟩)
      | str s =>
        by_cases hz : s.length ≤ sizeLine
        · exact fin (if_pos hz) ⟨hz, rfl⟩
        · rw [show lenC (.str s) c = none from if_neg hz] at A2
          exact A2.elim
      | @ref k a h =>
        have lk : lenC (.ref k) c = (match c[k]? with
          | some (.lst ds) => some ds.length
          | some (.frz (.lst ds)) => some ds.length
          | _ => none) := rfl
        cases q : c[k]? with
        | none => rw [lk, q] at A2; exact A2.elim
        | some x =>
          have hc := R.cell k a x h q
          cases x with
          | lst ds =>
            obtain ⟨_, vs, h1, h2⟩ := hc
            exact fin (by rw [lk, q]) (.inl ⟨_, SqL.of h1, h2.length.symm⟩)
          | frz d =>
            cases d with
            | lst ds =>
              obtain ⟨_, hr⟩ := hc
              cases hr with
              | lst h1 h2 => exact fin (by rw [lk, q]) (.inl ⟨_, SqL.of (R.same _ _ h1), h2.length.symm⟩)
            | _ => rw [lk, q] at A2; exact A2.elim
          | _ => rw [lk, q] at A2; exact A2.elim
      | _ => exact A2.elim
def ints2 (g : Int → Int → Int) : List D → Cs → R D
  | [.int i, .int j], c => .ok (.int (g i j)) c
  | _, _ => .stuck
theorem two_ints {I H : Hp} {m : List Addr} {c : Cs} {W : XK} {Q : VK} {vs : List V} {ds : List D} {g : Int → Int → Int} (R : Rel K I H m c) (p : Reps K I m vs ds) (A : After (rD K) K I m H W Q (ints2 g ds c)) : ∃ i j, vs = [.int i, .int j] ∧ Q (.int (g i j)) H := by
  cases p with
  | nil => exact A.elim
  | cons h t =>
    cases t with
    | nil => cases h <;> exact A.elim
    | cons h2 t2 =>
      cases t2 with
      | cons _ _ => cases h <;> first | exact A.elim | (cases h2 <;> exact A.elim)
      | nil =>
        cases h with
        | int i =>
          cases h2 with
          | int j => exact ⟨i, j, rfl, A.here R (.int _)⟩
          | _ => exact A.elim
        | _ => exact A.elim
def max2 : List D → Cs → R D := ints2 fun i j => if j > i then j else i
def min2 : List D → Cs → R D := ints2 fun i j => if j < i then j else i
theorem cs_max2 : CallS K (fun xs H Q => ∃ i j, xs = [.int i, .int j] ∧ Q (.int (if j > i then j else i)) H) max2 := fun I H m c vs ds W Q R p A => two_ints R p A
theorem cs_min2 : CallS K (fun xs H Q => ∃ i j, xs = [.int i, .int j] ∧ Q (.int (if j < i then j else i)) H) min2 := fun I H m c vs ds W Q R p A => two_ints R p A
end
end L2.Mi

namespace L2.Mi
open PySem PySem.Spec PyProof.Rows L2

/-! ### statements -/
inductive Fl where
  | nx (l : Ls)
  | rt (d : D)
  | bk (l : Ls)
  | ct (l : Ls)
inductive RS where
  | stuck
  | go (f : Fl) (c : Cs)
  | exc (x : Ex) (l : Ls) (c : Cs)
abbrev MS := Ls → Cs → RS
/-- what is wanted behind a statement -/
def AfterS (K : PySem.W.Frag) (I : Hp) (m : List Addr) (H : Hp) (W : WX) (D : Ends) : RS → Prop
  | .stuck => False
  | .go (.nx l) c => ∀ I' m' H' σ', Ext I m H I' m' H' → Rel K I' H' m' c → Locs K I' m' σ' l → D.nx σ' H'
  | .go (.rt d) c => ∀ I' m' H' v, Ext I m H I' m' H' → Rel K I' H' m' c → Rep K I' m' v d → D.rt v H'
  | .go (.bk l) c => ∀ I' m' H' σ', Ext I m H I' m' H' → Rel K I' H' m' c → Locs K I' m' σ' l → D.bk σ' H'
  | .go (.ct l) c => ∀ I' m' H' σ', Ext I m H I' m' H' → Rel K I' H' m' c → Locs K I' m' σ' l → D.ct σ' H'
  | .exc x l c => ∀ I' m' H' σ' cls dd, Ext I m H I' m' H' → Rel K I' H' m' c → Locs K I' m' σ' l → RepX K I' m' H' cls dd x → W cls dd σ' H'
def rdS (K : PySem.W.Frag) (W : WX) (f : MS) : TS := fun D σ H => ∃ I m l c, Rel K I H m c ∧ Locs K I m σ l ∧ AfterS K I m H W D (f l c)
theorem AfterS.ext {K : PySem.W.Frag} {I I1 H H1 : Hp} {m m1 : List Addr} {W : WX} {D : Ends} {r : RS} (e : Ext I m H I1 m1 H1) (a : AfterS K I m H W D r) : AfterS K I1 m1 H1 W D r := by
  cases r with
  | stuck => exact a
  | exc x l c => exact fun I' m' H' σ' cls dd e' => a I' m' H' σ' cls dd (e.trans e')
  | go f c => cases f <;> exact fun I' m' H' v e' => a I' m' H' v (e.trans e')
/-- an expression, then a statement -/
def R.seq {α : Type} (r : R α) (l : Ls) (f : α → Cs → RS) : RS := match r with
  | .stuck => .stuck
  | .ok a c => f a c
  | .exc x c => .exc x l c
@[simp] theorem R.seq_ok {α : Type} (a : α) (c : Cs) (l : Ls) (f : α → Cs → RS) : (R.ok a c).seq l f = f a c := rfl
@[simp] theorem R.seq_exc {α : Type} (x : Ex) (c : Cs) (l : Ls) (f : α → Cs → RS) : (R.exc x c : R α).seq l f = .exc x l c := rfl
@[simp] theorem R.seq_stuck {α : Type} (l : Ls) (f : α → Cs → RS) : (R.stuck : R α).seq l f = .stuck := rfl
def MidS {α β : Type} (rep : Hp → List Addr → β → α → Prop) (K : PySem.W.Frag) (I : Hp) (m : List Addr) (H : Hp) (W : WX) (D : Ends) (f : α → Cs → RS) (v : β) (H1 : Hp) : Prop :=
  ∃ I1 m1 c1 a, Ext I m H I1 m1 H1 ∧ Rel K I1 H1 m1 c1 ∧ rep I1 m1 v a ∧ AfterS K I1 m1 H1 W D (f a c1)
theorem AfterS.seq {α β : Type} {rep : Hp → List Addr → β → α → Prop} {K : PySem.W.Frag} {I H : Hp} {m : List Addr} {W : WX} {D : Ends} {r : R α} {l : Ls} {σ : St} {f : α → Cs → RS} (L : Locs K I m σ l) (a : AfterS K I m H W D (r.seq l f)) :
    After rep K I m H (fun cls dd H' => W cls dd σ H') (MidS rep K I m H W D f) r := by
  cases r with
  | stuck => exact a
  | ok d c => exact fun I' m' H' v e' r' p => ⟨I', m', c, d, e', r', p, AfterS.ext e' a⟩
  | exc x c => exact fun I' m' H' cls dd e r p => a I' m' H' σ cls dd e r (L.ext e) p
/-- a statement, then another one -/
def RS.next (r : RS) (f : Ls → Cs → RS) : RS := match r with
  | .go (.nx l) c => f l c
  | r => r
@[simp] theorem RS.next_nx (l : Ls) (c : Cs) (f : Ls → Cs → RS) : (RS.go (.nx l) c).next f = f l c := rfl
@[simp] theorem RS.next_rt (d : D) (c : Cs) (f : Ls → Cs → RS) : (RS.go (.rt d) c).next f = .go (.rt d) c := rfl
@[simp] theorem RS.next_bk (l : Ls) (c : Cs) (f : Ls → Cs → RS) : (RS.go (.bk l) c).next f = .go (.bk l) c := rfl
@[simp] theorem RS.next_ct (l : Ls) (c : Cs) (f : Ls → Cs → RS) : (RS.go (.ct l) c).next f = .go (.ct l) c := rfl
@[simp] theorem RS.next_exc (x : Ex) (l : Ls) (c : Cs) (f : Ls → Cs → RS) : (RS.exc x l c).next f = .exc x l c := rfl
@[simp] theorem RS.next_stuck (f : Ls → Cs → RS) : RS.stuck.next f = .stuck := rfl

theorem PSi {X : Cx} {s : Stmt} {t t' : TS} (h : PS X s t) (w : ∀ D σ H, t' D σ H → t D σ H) : PS X s t' := ⟨fun pins s σ H D I q => h.run pins s σ H D I (w D σ H q)⟩
theorem PSsi {X : Cx} {s : List Stmt} {t t' : TS} (h : PSs X s t) (w : ∀ D σ H, t' D σ H → t D σ H) : PSs X s t' := ⟨fun pins s σ H D I q => h.run pins s σ H D I (w D σ H q)⟩

section
variable {X : Cx} {W : WX} {e a b : Expr} {es : List Expr} {s : Stmt} {ss body orelse : List Stmt} {pos : Pos} {fa : ME} {ta : MT} {f g : MS}
def sNil : MS := fun l c => .go (.nx l) c
def sSeq (f g : MS) : MS := fun l c => (f l c).next g
theorem ms_nil : PSs X [] (rdS X.K W sNil) := PSsi pss_nil fun D σ H ⟨I, m, l, c, R, L, A⟩ => A I m H σ (Ext.refl _ _ _) R L
theorem seq_read {K : PySem.W.Frag} {D : Ends} {σ : St} {H : Hp} (h : rdS K W (sSeq f g) D σ H) : tSeq (rdS K W f) (rdS K W g) D σ H := by
  obtain ⟨I, m, l, c, R, L, A⟩ := h
  refine ⟨I, m, l, c, R, L, ?_⟩
  have A : AfterS K I m H W D ((f l c).next g) := A
  cases q : f l c with
  | stuck => rw [q] at A; exact A
  | exc x l' c' => rw [q] at A; exact A
  | go fl c' =>
    rw [q] at A
    cases fl with
    | nx l' => exact fun I' m' H' σ' e' r' L' => ⟨I', m', l', c', r', L', AfterS.ext e' A⟩
    | rt d => exact A
    | bk l' => exact A
    | ct l' => exact A
theorem ms_cons (h1 : PS X s (rdS X.K W f)) (h2 : PSs X ss (rdS X.K W g)) : PSs X (s :: ss) (rdS X.K W (sSeq f g)) := PSsi (pss_cons h1 h2) fun _ _ _ h => seq_read h
theorem ms_one (h1 : PS X s (rdS X.K W f)) : PSs X [s] (rdS X.K W f) := pss_one h1
def sBreak : MS := fun l c => .go (.bk l) c
def sCont : MS := fun l c => .go (.ct l) c
def sExpr (a : ME) : MS := fun l c => (a l c).seq l fun _ c1 => .go (.nx l) c1
theorem ms_expr (h : PE X e (rdE X.K W fa)) (hs : swapsWith e none pos.line X.env = pure false := by rfl) : PS X (.Expr e pos) (rdS X.K W (sExpr fa)) := PSi (ps_expr h hs) fun D σ H ⟨I, m, l, c, R, L, A⟩ =>
  ⟨I, m, l, c, R, L, After.mono (AfterS.seq (rep := rD X.K) L A) fun v1 H1 ⟨I1, m1, c1, d1, E1, R1, p1, A1⟩ => A1 I1 m1 H1 σ (Ext.refl _ _ _) R1 (L.ext E1)⟩
def sRet (a : ME) : MS := fun l c => (a l c).seq l fun d c1 => .go (.rt d) c1
theorem ms_ret (h : PE X e (rdE X.K W fa)) : PS X (.Return (some e) pos) (rdS X.K W (sRet fa)) := PSi (ps_ret h) fun D σ H ⟨I, m, l, c, R, L, A⟩ =>
  ⟨I, m, l, c, R, L, After.mono (AfterS.seq (rep := rD X.K) L A) fun v1 H1 ⟨I1, m1, c1, d1, E1, R1, p1, A1⟩ => A1 I1 m1 H1 v1 (Ext.refl _ _ _) R1 p1⟩
def sRetN : MS := fun _ c => .go (.rt .non) c
def sIf (t : MT) (f g : MS) : MS := fun l c => (t l c).seq l fun k c1 => match k with
  | true => f l c1
  | false => g l c1
theorem ms_if {c : Expr} {sa sb : List Stmt} (ht : PT X c (rdT X.K W ta)) (ha : PSs X sa (rdS X.K W f)) (hb : PSs X sb (rdS X.K W g)) : PS X (.If c sa sb pos) (rdS X.K W (sIf ta f g)) := PSi (ps_if ht ha hb) fun D σ H ⟨I, m, l, c, R, L, A⟩ =>
  ⟨I, m, l, c, R, L, After.mono (AfterS.seq (rep := rB) L A) fun v1 H1 ⟨I1, m1, c1, d1, E1, R1, p1, A1⟩ => by
    cases (show v1 = d1 from p1)
    cases v1 with
    | true => exact iteT ⟨I1, m1, l, c1, R1, L.ext E1, A1⟩
    | false => exact iteF ⟨I1, m1, l, c1, R1, L.ext E1, A1⟩⟩

/-! ### targets -/
abbrev MG := D → Ls → Cs → R Ls
def rL (K : PySem.W.Frag) : Hp → List Addr → St → Ls → Prop := fun I m σ l => Locs K I m σ l
/-- what a target does with a value; an exception would leave with the locals as they were -/
def rdG (K : PySem.W.Frag) (W : WX) (g : MG) : TG := fun v σ H Q => ∃ I m l c d, Rel K I H m c ∧ Locs K I m σ l ∧ Rep K I m v d ∧ After (rL K) K I m H (fun cls dd H' => W cls dd σ H') Q (g d l c)
theorem PGi {tg : Expr} {t t' : TG} (h : PG X tg t) (w : ∀ v σ H Q, t' v σ H Q → t v σ H Q) : PG X tg t' := ⟨fun pins s σ H v u Q I r q => h.run pins s σ H v u Q I r (w v σ H Q q)⟩
def gN (i : Nat) : MG := fun d l c => .ok (l.set i (some d)) c
theorem mg_name {i : Nat} {x : Str} (hN : X.N.Nodup) (hi : X.N[i]? = some x) (hx : Loc X.env.scope x) (hf : X.fn x = true ∨ X.env.scope.names.lookup x = some .local := by first | exact .inl rfl | exact .inr rfl | assumption) : PG X (.Name x pos) (rdG X.K W (gN i)) :=
  PGi (pg_name hN hi hx hf) fun v σ H Q ⟨I, m, l, c, d, R, L, p, A⟩ => A.here R (L.set i p)
abbrev MGs := List D → Ls → Cs → R Ls
def rdGs (K : PySem.W.Frag) (W : WX) (g : MGs) : TGs := fun vs σ H Q => ∃ I m l c ds, Rel K I H m c ∧ Locs K I m σ l ∧ Reps K I m vs ds ∧ After (rL K) K I m H (fun cls dd H' => W cls dd σ H') Q (g ds l c)
theorem PGsi {tgs : List Expr} {t t' : TGs} (h : PGs X tgs t) (w : ∀ v σ H Q, t' v σ H Q → t v σ H Q) : PGs X tgs t' := ⟨fun pins s σ H v u Q I r q => h.run pins s σ H v u Q I r (w v σ H Q q)⟩
/-- a, b, .. = a tuple, all names -/
def gNs (js : List Nat) : MGs := fun ds l c => match js, ds with
  | [], [] => .ok l c
  | i :: js, d :: ds => gNs js ds (l.set i (some d)) c
  | _, _ => .stuck
theorem mgs_nil : PGs X [] (rdGs X.K W (gNs [])) := PGsi pgs_nil fun vs σ H Q ⟨I, m, l, c, ds, R, L, p, A⟩ => by
  cases p with
  | nil => exact ⟨rfl, A.here R L⟩
  | cons h t => exact A.elim
theorem mgs_cons {i : Nat} {x : Str} {js : List Nat} {p : Pos} (hN : X.N.Nodup) (hi : X.N[i]? = some x) (hx : Loc X.env.scope x) (h2 : PGs X es (rdGs X.K W (gNs js)))
    (hs : (assignEach (.Name x p :: es) X.env).map (·.2) = assign (.Name x p) X.env :: (assignEach es X.env).map (·.2) := by rfl)
    (hf : X.fn x = true ∨ X.env.scope.names.lookup x = some .local := by first | exact .inl rfl | exact .inr rfl | assumption) : PGs X (.Name x p :: es) (rdGs X.K W (gNs (i :: js))) :=
  PGsi (pgs_cons (pg_name hN hi hx hf) h2 hs) fun vs σ H Q ⟨I, m, l, c, ds, R, L, p, A⟩ => by
    cases p with
    | nil => exact A.elim
    | cons h t =>
      refine ⟨_, _, rfl, I, m, l.set i _, c, _, R, L.set i h, t, ?_⟩
      revert A
      show After (rL X.K) X.K I m H (fun cls dd H' => W cls dd σ H') Q (gNs js _ (l.set i _) c) → _
      have never : ∀ (js : List Nat) (ds : List D) (l : Ls) (c : Cs) (x : Ex) (c' : Cs), gNs js ds l c ≠ .exc x c' := by
        intro js
        induction js with
        | nil => intro ds l c x c' e; cases ds <;> cases e
        | cons i js ih =>
          intro ds l c x c' e
          cases ds with
          | nil => cases e
          | cons d ds => exact ih _ _ _ _ _ e
      intro A
      generalize hq : gNs js _ (l.set i _) c = r at A ⊢
      cases r with
      | stuck => exact A
      | ok _ _ => exact A
      | exc x c' => exact absurd hq (never _ _ _ _ _ _)
def gT (js : List Nat) : MG := fun d l c => match d with
  | .tup ds => if ds.length = js.length then gNs js ds l c else .stuck
  | _ => .stuck
theorem mg_tup {k : Nat} {js : List Nat} (hc : X.calm = true) (h : PGs X es (rdGs X.K W (gNs js)))
    (hn : (assignEach es X.env).length = js.length := by rfl) (hst : (assignEach es X.env).findIdx? (·.1) = none := by rfl) : PG X (.Tuple es k pos) (rdG X.K W (gT js)) :=
  PGi (pg_tup hc h hn hst) fun v σ H Q ⟨I, m, l, c, d, R, L, p, A⟩ => by
    cases p with
    | @tup a vs ds h r =>
      by_cases hl : ds.length = js.length
      · have A2 : After (rL X.K) X.K I m H (fun cls dd H' => W cls dd σ H') Q (if ds.length = js.length then gNs js ds l c else .stuck) := A
        rw [if_pos hl] at A2
        exact ⟨a, vs, rfl, sqT_same R.same h, r.length.trans hl, I, m, l, c, ds, R, L, r, A2⟩
      · have A2 : After (rL X.K) X.K I m H (fun cls dd H' => W cls dd σ H') Q (if ds.length = js.length then gNs js ds l c else .stuck) := A
        rw [if_neg hl] at A2
        exact A2.elim
    | _ => exact A.elim
/-- o[i] = v, at a list's cell -/
def putD (o i v : D) (c : Cs) : R Unit := match o, i with
  | .ref k, .int j => match c[k]? with
    | some (.lst ds) => match ixN ds.length j with
      | some n => .ok () (c.set k (.lst (ds.set n v)))
      | none => .stuck
    | _ => .stuck
  | _, _ => .stuck
def gS (o i : ME) : MG := fun d l c => (o l c).bind fun x c1 => (i l c1).bind fun y c2 => (putD x y d c2).bind fun _ c3 => .ok l c3
theorem mg_sub {tg : Expr} {fo fi : ME} (h : PG X tg (gSub (rdE X.K W fo) (rdE X.K W fi) rSetL)) : PG X tg (rdG X.K W (gS fo fi)) :=
  PGi h fun v σ H Q ⟨I, m, l, c, d, R, L, p, A⟩ => by
    refine ⟨I, m, l, c, R, L, After.mono (After.bind (rep := rD X.K) A) fun v1 H1 ⟨I1, m1, c1, d1, E1, R1, p1, A1⟩ => ?_⟩
    refine ⟨I1, m1, l, c1, R1, L.ext E1, After.mono (After.bind (rep := rD X.K) A1) fun v2 H2 ⟨I2, m2, c2, d2, E2, R2, p2, A2⟩ => ?_⟩
    have pd := Rep.ext (Rep.ext p E1) E2
    have L2 := (L.ext E1).ext E2
    have q1 := Rep.ext p1 E2
    cases q1 with
    | @ref k a hk =>
      cases p2 with
      | int j =>
        have A3 : After (rL X.K) X.K I2 m2 H2 (fun cls dd H' => W cls dd σ H') Q ((match c2[k]? with
          | some (.lst ds) => match ixN ds.length j with
            | some n => .ok () (c2.set k (.lst (ds.set n d)))
            | none => .stuck
          | _ => .stuck : Mi.R Unit).bind fun _ c3 => .ok l c3) := A2
        cases q : c2[k]? with
        | none => rw [q] at A3; exact A3.elim
        | some x =>
          rw [q] at A3
          cases x with
          | lst ds =>
            obtain ⟨n1, vs, h1, h2⟩ := R2.cell k a _ hk q
            cases q2 : ixN ds.length j with
            | none =>
              have A4 : After (rL X.K) X.K I2 m2 H2 (fun cls dd H' => W cls dd σ H') Q ((match ixN ds.length j with
                | some n => .ok () (c2.set k (.lst (ds.set n d)))
                | none => .stuck : Mi.R Unit).bind fun _ c3 => .ok l c3) := A3
              rw [q2] at A4
              exact A4.elim
            | some n =>
              have A4 : After (rL X.K) X.K I2 m2 H2 (fun cls dd H' => W cls dd σ H') Q ((match ixN ds.length j with
                | some n => .ok () (c2.set k (.lst (ds.set n d)))
                | none => .stuck : Mi.R Unit).bind fun _ c3 => .ok l c3) := A3
              rw [q2] at A4
              refine ⟨a, vs, j, n, rfl, rfl, h1, by rw [h2.length]; exact q2, ?_⟩
              obtain ⟨R3, E3⟩ := R2.put hk q (h2.set pd n)
              exact A4 I2 m2 _ σ E3 R3 (L2.ext E3)
          | _ => exact A3.elim
      | _ => exact A2.elim
    | _ => exact A2.elim
def sAsg (a : ME) (g : MG) : MS := fun l c => (a l c).seq l fun d c1 => (g d l c1).seq l fun l' c2 => .go (.nx l') c2
theorem asg_read {K : PySem.W.Frag} {g : MG} {D : Ends} {σ : St} {H : Hp} (h : rdS K W (sAsg fa g) D σ H) : tAsg (rdE K W fa) (rdG K W g) D σ H := by
  obtain ⟨I, m, l, c, R, L, A⟩ := h
  refine ⟨I, m, l, c, R, L, After.mono (AfterS.seq (rep := rD K) L A) fun v1 H1 ⟨I1, m1, c1, d1, E1, R1, p1, A1⟩ => ?_⟩
  refine ⟨I1, m1, l, c1, d1, R1, L.ext E1, p1, After.mono (AfterS.seq (rep := rL K) (L.ext E1) A1) fun v2 H2 ⟨I2, m2, c2, d2, E2, R2, p2, A2⟩ => ?_⟩
  exact A2 I2 m2 H2 v2 (Ext.refl _ _ _) R2 p2
theorem ms_asg {tg : Expr} {g : MG} (he : PE X e (rdE X.K W fa)) (hg : PG X tg (rdG X.K W g)) (hs : swapsWithSole [tg] e pos.line X.env = pure false := by rfl) (hw : swappedStores [tg] e X.env = pure none := by rfl)
    (h1 : (assignEach [tg] X.env).map (·.2) = [assign tg X.env] := by rfl) : PS X (.Assign [tg] e pos) (rdS X.K W (sAsg fa g)) := PSi (ps_asg he hg hs hw h1) fun _ _ _ h => asg_read h
/-- x = e -/
def sSet (i : Nat) (a : ME) : MS := fun l c => (a l c).seq l fun d c1 => .go (.nx (l.set i (some d))) c1
theorem ms_set {i : Nat} {x : Str} {p : Pos} (hN : X.N.Nodup) (hi : X.N[i]? = some x) (hx : Loc X.env.scope x) (he : PE X e (rdE X.K W fa)) (hs : swapsWith e (some (.Name x p)) pos.line X.env = pure false := by rfl)
    (hf : X.fn x = true ∨ X.env.scope.names.lookup x = some .local := by first | exact .inl rfl | exact .inr rfl | assumption) : PS X (.Assign [.Name x p] e pos) (rdS X.K W (sSet i fa)) :=
  PSi (ps_set hN hi hx he hs hf) fun D σ H ⟨I, m, l, c, R, L, A⟩ =>
    ⟨I, m, l, c, R, L, After.mono (AfterS.seq (rep := rD X.K) L A) fun v1 H1 ⟨I1, m1, c1, d1, E1, R1, p1, A1⟩ => A1 I1 m1 H1 _ (Ext.refl _ _ _) R1 ((L.ext E1).set i p1)⟩
/-- a, b = x, y; three of them: stored from the right, no tuple is made -/
def sPar (js : List Nat) (t : MA) : MS := fun l c => (t l c).seq l fun ds c1 => (gNs js ds l c1).seq l fun l' c2 => .go (.nx l') c2
theorem ms_par2 {i j : Nat} {x y : Str} {ga : MA} {px py pt : Pos} {kt k2 : Nat} {pt2 : Pos} (hc : X.calm = true) (hN : X.N.Nodup) (hi : X.N[i]? = some x) (hj : X.N[j]? = some y) (hij : i ≠ j)
    (hx : X.env.scope.names.lookup x = some .local) (hy : X.env.scope.names.lookup y = some .local) (ha : PA X [a, b] (rdA X.K W ga))
    (hw : swappedStores [.Tuple [.Name x px, .Name y py] kt pt] (.Tuple [a, b] k2 pt2) X.env = pure (some [x, y]))
    (hs : swapsWithSole [.Tuple [.Name x px, .Name y py] kt pt] (.Tuple [a, b] k2 pt2) pos.line X.env = pure false := by rfl) :
    PS X (.Assign [.Tuple [.Name x px, .Name y py] kt pt] (.Tuple [a, b] k2 pt2) pos) (rdS X.K W (sPar [i, j] ga)) := PSi (ps_par hc hN hi hj hij hx hy ha hw hs) fun D σ H ⟨I, m, l, c, R, L, A⟩ => by
  refine ⟨I, m, l, c, R, L, After.mono (AfterS.seq (rep := rA X.K) L A) fun v1 H1 ⟨I1, m1, c1, d1, E1, R1, p1, A1⟩ => ?_⟩
  cases p1 with
  | nil => exact A1.elim
  | cons h t =>
    cases t with
    | nil => exact A1.elim
    | cons h2 t2 =>
      cases t2 with
      | cons h3 t3 => exact A1.elim
      | nil => exact ⟨_, _, rfl, A1 I1 m1 H1 _ (Ext.refl _ _ _) R1 (((L.ext E1).set i h).set j h2)⟩
/-! ### what is walked -/
abbrev MI := Ls → Cs → R (List D)
/-- the items that an iterator gives, as trees -/
def Walks (K : PySem.W.Frag) (I : Hp) (m : List Addr) (J : It) (ds : List D) : Prop := ∀ (i : Nat) (I' H : Hp) (m' : List Addr) (c : Cs), Same I I' → Pre m m' → Rel K I' H m' c →
  (∀ d, ds[i]? = some d → J.go i H ∧ ∀ x H', J.yld i H x H' → ∃ I'', Ext I' m' H I'' m' H' ∧ Rel K I'' H' m' c ∧ Rep K I'' m' x d) ∧ (ds.length ≤ i → J.stop i H)
theorem Walks.ext {K : PySem.W.Frag} {I I1 H H1 : Hp} {m m1 : List Addr} {J : It} {ds : List D} (w : Walks K I m J ds) (e : Ext I m H I1 m1 H1) : Walks K I1 m1 J ds := fun i I' H m' c s p => w i I' H m' c (e.same.trans s) (e.pre.trans p)
def rI' (K : PySem.W.Frag) : Hp → List Addr → It → List D → Prop := fun I m J ds => Walks K I m J ds
def rdI (K : PySem.W.Frag) (W : WX) (f : MI) : TI := rd (rI' K) K W f
theorem PIi {tg it : Expr} {t t' : TI} (h : PI X tg it t) (w : ∀ σ H R, t' σ H R → t σ H R) : PI X tg it t' := ⟨fun pins s σ H R I q => h.run pins s σ H R I (w σ H R q)⟩
def iLst (a : ME) : MI := fun l c => (a l c).bind fun x c1 => match x with
  | .lst ds => .ok ds c1
  | .ro ds => .ok ds c1
  | _ => .stuck
theorem walks_list {K : PySem.W.Frag} {I : Hp} {m : List Addr} {a : Addr} {vs : List V} {ds : List D} (h : SqL K I a vs) (r : Reps K I m vs ds) : Walks K I m (Itl K a) ds := fun i I' H m' c s p R => by
  have hs : SqL K H a vs := R.same.seq (s.seq h)
  refine ⟨fun d hd => ?_, fun hl => ⟨vs, hs, by rw [r.length]; exact hl⟩⟩
  obtain ⟨v, hv, pv⟩ := r.get hd
  refine ⟨⟨vs, v, hs, hv⟩, fun x H' y => ?_⟩
  obtain ⟨e, y⟩ := y
  subst e
  have ev : x = v := by
    have z := y vs hs
    rw [hv] at z
    exact (Option.some.inj z).symm
  subst ev
  exact ⟨I', Ext.refl _ _ _, R, pv.mono s p⟩
end
end L2.Mi

namespace L2.Mi
open PySem PySem.Spec PyProof.Rows L2

/-! ### what is walked -/
section
variable {X : Cx} {W : WX} {tg e : Expr} {pos : Pos} {fa : ME} {ga : MA}
theorem mi_lst (h : PE X e (rdE X.K W fa)) : PI X tg e (rdI X.K W (iLst fa)) := PIi (pi_list h) fun σ H Q ⟨I, m, l, c, R, L, A⟩ =>
  ⟨I, m, l, c, R, L, After.mono (After.bind (rep := rD X.K) A) fun v1 H1 ⟨I1, m1, c1, d1, E1, R1, p1, A1⟩ => by
    cases p1 with
    | @lst a vs ds h r => exact ⟨a, rfl, ⟨vs, SqL.of (R1.same _ _ h)⟩, A1.here R1 (walks_list (SqL.of h) r)⟩
    | @ro a vs ds h r => exact ⟨a, rfl, ⟨vs, R1.same.seq h⟩, A1.here R1 (walks_list h r)⟩
    | _ => exact A1.elim⟩
def iTup' (a : ME) : MI := fun l c => (a l c).bind fun x c1 => match x with
  | .tup ds => .ok ds c1
  | _ => .stuck
theorem walks_tup {K : PySem.W.Frag} {I : Hp} {m : List Addr} {a : Addr} {vs : List V} {ds : List D} (h : SqT K I a vs) (r : Reps K I m vs ds) : Walks K I m (Itt K a) ds := fun i I' H m' c s p R => by
  have hs : SqT K H a vs := sqT_same R.same (sqT_same s h)
  refine ⟨fun d hd => ?_, fun hl => ⟨vs, hs, by rw [r.length]; exact hl⟩⟩
  obtain ⟨v, hv, pv⟩ := r.get hd
  refine ⟨⟨vs, v, hs, hv⟩, fun x H' y => ?_⟩
  obtain ⟨e, y⟩ := y
  subst e
  have ev : x = v := by
    have z := y vs hs
    rw [hv] at z
    exact (Option.some.inj z).symm
  subst ev
  exact ⟨I', Ext.refl _ _ _, R, pv.mono s p⟩
theorem mi_tup (h : PE X e (rdE X.K W fa)) : PI X tg e (rdI X.K W (iTup' fa)) := PIi (pi_tup h) fun σ H Q ⟨I, m, l, c, R, L, A⟩ =>
  ⟨I, m, l, c, R, L, After.mono (After.bind (rep := rD X.K) A) fun v1 H1 ⟨I1, m1, c1, d1, E1, R1, p1, A1⟩ => by
    cases p1 with
    | @tup a vs ds h r => exact ⟨a, rfl, ⟨vs, sqT_same R1.same h⟩, A1.here R1 (walks_tup h r)⟩
    | _ => exact A1.elim⟩
/-- the chrs of a text -/
def chrs (s : Str) : List D := s.cps.toList.map fun k => .str ⟨#[k]⟩
def iStr' (a : ME) : MI := fun l c => (a l c).bind fun x c1 => match x with
  | .str s => .ok (chrs s) c1
  | _ => .stuck
theorem walks_str {K : PySem.W.Frag} {I : Hp} {m : List Addr} {s : Str} : Walks K I m (Its s) (chrs s) := fun i I' H m' c _ _ R => by
  have hl : (chrs s).length = s.cps.size := by simp [chrs]
  refine ⟨fun d hd => ?_, fun h => by rw [hl] at h; exact h⟩
  have hi : i < s.cps.size := by rw [← hl]; exact (List.getElem?_eq_some_iff.mp hd).1
  refine ⟨hi, fun x H' y => ?_⟩
  obtain ⟨e, k, hk, ex⟩ := y
  subst e; subst ex
  refine ⟨I', Ext.refl _ _ _, R, ?_⟩
  have e2 : d = .str ⟨#[k]⟩ := by
    unfold chrs at hd
    rw [List.getElem?_map, Array.getElem?_toList, hk] at hd
    exact (Option.some.inj hd).symm
  rw [e2]
  exact .str _
/-- range(n), range(a, b) -/
def rangeL (lo : Int) (n : Nat) : List D := (List.range n).map fun i => .int (lo + (i : Nat))
theorem walks_rng {K : PySem.W.Frag} {I : Hp} {m : List Addr} {lo : Int} {n : Nat} : Walks K I m (Itr lo n) (rangeL lo n) := fun i I' H m' c _ _ R => by
  refine ⟨fun d hd => ?_, fun h => by simp [rangeL] at h; exact h⟩
  have hi : i < n := by have := (List.getElem?_eq_some_iff.mp hd).1; simpa [rangeL] using this
  refine ⟨hi, fun x H' y => ?_⟩
  obtain ⟨e, ex⟩ := y
  subst e; subst ex
  refine ⟨I', Ext.refl _ _ _, R, ?_⟩
  have e2 : d = .int (lo + (i : Nat)) := by
    unfold rangeL at hd
    rw [List.getElem?_map, List.getElem?_range hi] at hd
    exact (Option.some.inj hd).symm
  rw [e2]
  exact .int _
def small62 (i : Int) : Prop := -(2 ^ 62) ≤ i ∧ i < 2 ^ 62
instance : ∀ i, Decidable (small62 i) := fun i => inferInstanceAs (Decidable (-(2 ^ 62) ≤ i ∧ i < 2 ^ 62))
def iR1 (t : MA) : MI := fun l c => (t l c).bind fun xs c1 => match xs with
  | [.int j] => if small62 j then .ok (rangeL 0 j.toNat) c1 else .stuck
  | _ => .stuck
def iR2 (t : MA) : MI := fun l c => (t l c).bind fun xs c1 => match xs with
  | [.int i, .int j] => if small62 i ∧ small62 j then .ok (rangeL i (j - i).toNat) c1 else .stuck
  | _ => .stuck
theorem mi_r1 {it : Expr} (h : PI X tg it (iRng1 (rdA X.K W ga))) : PI X tg it (rdI X.K W (iR1 ga)) := PIi h fun σ H Q ⟨I, m, l, c, R, L, A⟩ =>
  ⟨I, m, l, c, R, L, After.mono (After.bind (rep := rA X.K) A) fun v1 H1 ⟨I1, m1, c1, d1, E1, R1, p1, A1⟩ => by
    cases p1 with
    | nil => exact A1.elim
    | cons h t =>
      cases t with
      | cons h2 t2 => cases h <;> exact A1.elim
      | nil =>
        cases h with
        | int j =>
          have A2 : After (rI' X.K) X.K I1 m1 H1 (fun cls dd H' => W cls dd σ H') Q (if small62 j then .ok (rangeL 0 j.toNat) c1 else .stuck) := A1
          by_cases hj : small62 j
          · rw [if_pos hj] at A2
            exact ⟨j, rfl, hj.1, hj.2, A2.here R1 walks_rng⟩
          · rw [if_neg hj] at A2
            exact A2.elim
        | _ => exact A1.elim⟩
end

/-! ### for -/
/-- the turns of a loop -/
def forD (g : MG) (f : MS) : List D → Ls → Cs → RS
  | [], l, c => .go (.nx l) c
  | d :: ds, l, c => (g d l c).seq l fun l1 c1 => match f l1 c1 with
    | .go (.nx l2) c2 => forD g f ds l2 c2
    | .go (.ct l2) c2 => forD g f ds l2 c2
    | .go (.bk l2) c2 => .go (.nx l2) c2
    | r => r
def sFor (it : MI) (g : MG) (f : MS) : MS := fun l c => (it l c).seq l fun ds c1 => forD g f ds l c1
theorem ms_for {X : Cx} {W : WX} {tg iter : Expr} {body : List Stmt} {pos : Pos} {fi : MI} {g : MG} {f : MS} (hp : PassesOwn (model X.prog X.w) X.A X.env X.xe) (hc : X.calm = true) (hi : PI X tg iter (rdI X.K W fi)) (hg : PG X tg (rdG X.K W g)) (hb : PSs X body (rdS X.K W f))
    (hs : ∀ x, foldedSetIterable iter X.env x = pure x := by intro _; rfl) : PS X (.For tg iter body [] pos) (rdS X.K W (sFor fi g f)) := PSi (ps_for hp hc hi hg hb hs) fun D σ H ⟨I, m, l, c, R, L, A⟩ => by
  refine ⟨I, m, l, c, R, L, After.mono (AfterS.seq (rep := rI' X.K) L A) fun J H1 ⟨I1, m1, c1, ds, E1, R1, w1, A1⟩ => ?_⟩
  refine ⟨fun i n σ H => ∃ I' m' l' c', n = ds.length - i ∧ Ext I1 m1 H1 I' m' H ∧ Rel X.K I' H m' c' ∧ Locs X.K I' m' σ l' ∧ AfterS X.K I' m' H W D (forD g f (ds.drop i) l' c'), ⟨_, I1, m1, l, c1, rfl, Ext.refl _ _ _, R1, L.ext E1, A1⟩, ?_⟩
  rintro i n σ' H' ⟨I', m', l', c', rfl, E', R', L', A'⟩
  obtain ⟨wg, ws⟩ := w1 i I' H' m' c' E'.same E'.pre R'
  cases q : ds[i]? with
  | none =>
    have hi : ds.length ≤ i := List.getElem?_eq_none_iff.mp q
    rw [List.drop_eq_nil_of_le hi] at A'
    exact .inl ⟨ws hi, A' I' m' H' σ' (Ext.refl _ _ _) R' L'⟩
  | some d =>
    have hi : i < ds.length := (List.getElem?_eq_some_iff.mp q).1
    have hd : ds.drop i = d :: ds.drop (i + 1) := by
      rw [List.drop_eq_getElem_cons hi, (List.getElem?_eq_some_iff.mp q).2]
    rw [hd] at A'
    obtain ⟨go, yl⟩ := wg d q
    refine .inr ⟨go, fun σ2 H2 => ∃ I2 m2 l2 c2, Ext I1 m1 H1 I2 m2 H2 ∧ Rel X.K I2 H2 m2 c2 ∧ Locs X.K I2 m2 σ2 l2 ∧ AfterS X.K I2 m2 H2 W D (forD g f (ds.drop (i + 1)) l2 c2),
      fun σ2 H2 ⟨I2, m2, l2, c2, e2, r2, L2, a2⟩ => ⟨ds.length - (i + 1), by omega, I2, m2, l2, c2, rfl, e2, r2, L2, a2⟩, fun x H3 y => ?_⟩
    obtain ⟨I3, E3, R3, p3⟩ := yl x H3 y
    have A3 := AfterS.ext E3 A'
    refine ⟨I3, m', l', c', d, R3, L'.ext E3, p3, After.mono (AfterS.seq (rep := rL X.K) (L'.ext E3) A3) fun σ4 H4 ⟨I4, m4, c4, l4, E4, R4, L4, A4⟩ => ?_⟩
    refine ⟨I4, m4, l4, c4, R4, L4, ?_⟩
    have EE := (E'.trans E3).trans E4
    have A5 : AfterS X.K I4 m4 H4 W D (match f l4 c4 with
      | .go (.nx l2) c2 => forD g f (ds.drop (i + 1)) l2 c2
      | .go (.ct l2) c2 => forD g f (ds.drop (i + 1)) l2 c2
      | .go (.bk l2) c2 => .go (.nx l2) c2
      | r => r) := A4
    cases qf : f l4 c4 with
    | stuck => rw [qf] at A5; exact A5
    | exc x l' c' => rw [qf] at A5; exact A5
    | go fl c5 =>
      rw [qf] at A5
      cases fl with
      | nx l5 => exact fun I6 m6 H6 σ6 e6 r6 L6 => ⟨I6, m6, l5, c5, EE.trans e6, r6, L6, AfterS.ext e6 A5⟩
      | ct l5 => exact fun I6 m6 H6 σ6 e6 r6 L6 => ⟨I6, m6, l5, c5, EE.trans e6, r6, L6, AfterS.ext e6 A5⟩
      | bk l5 => exact A5
      | rt d => exact A5
/-! ### while: at most n turns are followed -/
/-! ### list comprehensions -/
def R.nox {α : Type} (r : R α) : R α := match r with
  | .exc _ _ => .stuck
  | r => r
@[simp] theorem R.nox_ok {α : Type} (a : α) (c : Cs) : (R.ok a c).nox = .ok a c := rfl
theorem After.nox {α β : Type} {rep : Hp → List Addr → β → α → Prop} {K : PySem.W.Frag} {I H : Hp} {m : List Addr} {W W' : XK} {Q : β → Hp → Prop} {r : R α} (a : After rep K I m H W Q r.nox) : After rep K I m H W' Q r := by
  cases r with
  | stuck => exact a
  | ok d c => exact a
  | exc x c => exact a.elim
/-- .. where what follows is wanted from an earlier place -/
theorem After.bindAt {α β γ δ : Type} {rep : Hp → List Addr → β → α → Prop} {rep' : Hp → List Addr → δ → γ → Prop} {K : PySem.W.Frag} {I I1 H H1 : Hp} {m m1 : List Addr} {W : XK} {Q : δ → Hp → Prop} {r : R α} {f : α → Cs → R γ}
    (a : After rep' K I m H W Q (r.bind f)) (e : Ext I m H I1 m1 H1) : After rep K I1 m1 H1 W (fun v H2 => ∃ I2 m2 c2 x, Ext I1 m1 H1 I2 m2 H2 ∧ Rel K I2 H2 m2 c2 ∧ rep I2 m2 v x ∧ After rep' K I m H W Q (f x c2)) r := by
  cases r with
  | stuck => exact a
  | ok d c => exact fun I' m' H' v e' r' p => ⟨I', m', c, d, e', r', p, a⟩
  | exc x c => exact After.ext (rep := rep') (r := (.exc x c)) e a
def compD (g : MG) (t : MT) (e : ME) (lw : Ls) : List D → List D → Cs → R (List D)
  | [], acc, c => .ok acc c
  | d :: ds, acc, c => (g d lw c).nox.bind fun l1 c1 => (t l1 c1).nox.bind fun k c2 => match k with
    | true => (e l1 c2).nox.bind fun x c3 => if acc.length < sizeLine then compD g t e lw ds (acc ++ [x]) c3 else .stuck
    | false => compD g t e lw ds acc c2
def wipeL (l : Ls) : List Nat → Ls
  | [] => l
  | v :: vs => (wipeL l vs).set v none
def mLc (it : MI) (js : List Nat) (g : MG) (t : MT) (e : ME) : ME := fun l c => (it l c).bind fun ds c1 => (compD g t e (wipeL l js) ds [] c1).bind fun xs c2 => .ok (.lst xs) c2
def tYesM : MT := fun _ c => .ok true c
theorem locs_wipe {K : PySem.W.Frag} {I : Hp} {m : List Addr} {σ : St} {l : Ls} (L : Locs K I m σ l) : ∀ js : List Nat, Locs K I m (wipe σ js) (wipeL l js)
  | [] => L
  | j :: js => by
    have q := locs_wipe L js
    refine ⟨by unfold wipe wipeL; rw [List.length_set, List.length_set, q.len], fun i d h => ?_⟩
    unfold wipeL at h
    unfold wipe
    by_cases hi : j = i
    · subst hi
      by_cases hl : j < (wipeL l js).length
      · rw [List.getElem?_set_self hl] at h; cases h
      · rw [List.getElem?_eq_none (by simpa using hl)] at h; cases h
    · rw [List.getElem?_set_ne hi] at h ⊢
      exact q.at_ i d h
/-- another object is laid, or changed, that is none of ours -/
theorem Rel.side {K : PySem.W.Frag} {I H : Hp} {m : List Addr} {c : Cs} {p : Addr} {vs ws : List V} (r : Rel K I H m c) (hH : H p = none ∨ H p = some (.lst vs)) (hI : I p = none) (hm : p ∉ m) : Rel K I (upd H p (.lst ws)) m c := by
  refine ⟨fun b o e => ?_, r.len, r.nd, fun k a x h1 h2 => ?_, r.tabs.upH (hH.elim nt_none fun z => nt_some z ⟨(fun _ z => nomatch z), (fun _ z => nomatch z)⟩)⟩
  · rw [upd_ne (ne_of_none e hI)]
    exact r.same _ _ e
  · have na : a ≠ p := fun e => hm (e ▸ List.mem_of_getElem? h1)
    have q := r.cell k a x h1 h2
    cases x with
    | lst es =>
      obtain ⟨q1, us, q2, q3⟩ := q
      exact ⟨q1, us, by rw [upd_ne na]; exact q2, q3⟩
    | dct es =>
      obtain ⟨q1, us, q2, q3⟩ := q
      exact ⟨q1, us, by rw [upd_ne na]; exact q2, q3⟩
    | ins C es =>
      obtain ⟨q1, dx, us, q2, q3, q4, q5, q6⟩ := q
      have nd : dx ≠ p := by
        rcases hH with z | z
        · exact ne_of_none q4 z
        · exact ne_of q4 z (by intro y; cases y)
      exact ⟨q1, dx, us, q2, q3, by rw [upd_ne nd]; exact q4, q5.imp fun _ z => ⟨z.1, by rw [upd_ne na]; exact z.2⟩, q6⟩
    | frz d => exact q
/-- it becomes one that never changes -/
theorem Rel.adopt {K : PySem.W.Frag} {I H : Hp} {m : List Addr} {c : Cs} {p : Addr} {vs : List V} (r : Rel K I H m c) (hH : H p = some (.lst vs)) (hI : I p = none) (hm : p ∉ m) : Rel K (upd I p (.lst vs)) H m c := by
  have sI : Same I (upd I p (.lst vs)) := fun b o e => by rw [upd_ne (ne_of_none e hI)]; exact e
  refine ⟨fun b o e => ?_, r.len, r.nd, fun k a x h1 h2 => ?_, r.tabs.upI (nt_some hH ⟨(fun _ z => nomatch z), (fun _ z => nomatch z)⟩)⟩
  · by_cases hb : b = p
    · subst hb
      rw [upd_same] at e
      cases e
      exact hH
    · rw [upd_ne hb] at e
      exact r.same _ _ e
  · have na : a ≠ p := fun e => hm (e ▸ List.mem_of_getElem? h1)
    have q := r.cell k a x h1 h2
    cases x with
    | lst es =>
      obtain ⟨q1, us, q2, q3⟩ := q
      exact ⟨by rw [upd_ne na]; exact q1, us, q2, q3.mono sI (Pre.refl m)⟩
    | dct es =>
      obtain ⟨q1, us, q2, q3⟩ := q
      exact ⟨by rw [upd_ne na]; exact q1, us, q2, q3.mono sI (Pre.refl m)⟩
    | ins C es =>
      obtain ⟨q1, dx, us, q2, q3, q4, q5, q6⟩ := q
      exact ⟨by rw [upd_ne na]; exact q1, dx, us, by rw [upd_ne (ne_of q4 hH (by intro y; cases y))]; exact q2, q3, q4, q5, q6.mono sI (Pre.refl m)⟩
    | frz d => exact ⟨by rw [upd_ne na]; exact q.1, q.2.mono sI (Pre.refl m)⟩
/-- a block's target: it stores at the block's own places alone -/
def Good (g0 : TG) (js : List Nat) : Prop := ∀ (v : V) (σ : St) (H : Hp) (Q : St → Hp → Prop), g0 v (wipe σ js) H Q → g0 v (wipe σ js) H fun σ2 H2 => wipe σ2 js = wipe σ js ∧ Q σ2 H2
theorem wipe_get (σ : St) (i : Nat) : ∀ js : List Nat, (wipe σ js)[i]? = if i ∈ js then (if i < σ.length then some none else none) else σ[i]?
  | [] => by simp [wipe]
  | j :: js => by
    unfold wipe
    by_cases hj : j = i
    · subst hj
      by_cases hl : j < σ.length
      · rw [List.getElem?_set_self (by rw [wipe_length]; exact hl)]
        simp [hl]
      · rw [List.getElem?_eq_none (by rw [List.length_set, wipe_length]; omega)]
        simp [hl]
    · rw [List.getElem?_set_ne hj, wipe_get σ i js]
      have : i ∈ j :: js ↔ i ∈ js := by simp [Ne.symm hj]
      simp [this]
theorem wipe_again (σ : St) (js : List Nat) : wipe (wipe σ js) js = wipe σ js := by
  apply List.ext_getElem?
  intro i
  rw [wipe_get, wipe_length, wipe_get]
  by_cases h : i ∈ js <;> simp [h]
theorem wipe_set (σ : St) (js : List Nat) {i : Nat} (h : i ∈ js) (x : Option V) : wipe (σ.set i x) js = wipe σ js := by
  apply List.ext_getElem?
  intro k
  rw [wipe_get, wipe_get, List.length_set]
  by_cases hk : k ∈ js
  · simp [hk]
  · have : i ≠ k := fun e => hk (e ▸ h)
    simp [hk, List.getElem?_set_ne this]
theorem good_name {i : Nat} {js : List Nat} (h : i ∈ js) : Good (gName i) js := fun v σ H Q q => ⟨by rw [wipe_set _ _ h, wipe_again], q⟩
def W0 : WX := fun _ _ _ _ => False
theorem takesW0 {X : Cx} : Takes X W0 := fun u s' ⟨_, _, _, _, _, _, _, _, _, _, _, _, _, _, _, _, z⟩ => z.elim
theorem lc_read {K : PySem.W.Frag} {W : WX} {fi : MI} {g : MG} {ft : MT} {fe : ME} {js : List Nat} {g0 : TG} (good : Good g0 js) (rg : ∀ v σ H Q, rdG K W0 g v σ H Q → g0 v σ H Q) {σ : St} {H : Hp} {Q : VK} (h : rdE K W (mLc fi js g ft fe) σ H Q) :
    tLc (rdI K W fi) g0 (rdT K W0 ft) (rdE K W0 fe) js σ H Q := by
  obtain ⟨I, m, l, c, R, L, A⟩ := h
  refine ⟨I, m, l, c, R, L, After.mono (After.bind (rep := rI' K) A) fun J H1 ⟨I1, m1, c1, ds, E1, R1, w1, A1⟩ => ?_⟩
  intro Dn hD
  have nI := R1.same.free hD
  have nm := R1.fresh hD
  refine ⟨fun i n H => ∃ I' m' c' acc vs, n = ds.length - i ∧ Ext I1 m1 H1 I' m' H ∧ Rel K I' H m' c' ∧ Reps K I' m' vs acc ∧ H Dn = some (.lst vs) ∧ I' Dn = none ∧ Dn ∉ m' ∧
    After (rD K) K I1 m1 H1 (fun cls dd H' => W cls dd σ H') Q ((compD g ft fe (wipeL l js) (ds.drop i) acc c').bind fun xs c2 => .ok (.lst xs) c2),
    ⟨_, I1, m1, c1, [], [], rfl, ⟨Same.refl _, Pre.refl _, fun b o h1 hT h2 h3 => ⟨by rw [upd_ne (ne_of_none h1 hD)]; exact h1, h2, h3⟩⟩, R1.side (vs := []) (.inl hD) nI nm, .nil, upd_same, nI, nm, A1⟩, ?_⟩
  rintro i n H' ⟨I', m', c', acc, vs, rfl, E', R', p', hH', hI', hm', A'⟩
  obtain ⟨wg, ws⟩ := w1 i I' H' m' c' E'.same E'.pre R'
  cases q : ds[i]? with
  | none =>
    have hi : ds.length ≤ i := List.getElem?_eq_none_iff.mp q
    rw [List.drop_eq_nil_of_le hi] at A'
    refine .inl ⟨ws hi, ?_⟩
    have sI : Same I' (upd I' Dn (.lst vs)) := fun b o e => by rw [upd_ne (ne_of_none e hI')]; exact e
    refine A' (upd I' Dn (.lst vs)) m' H' (.ref Dn) ⟨E'.same.trans sI, E'.pre, fun b o h1 hT h2 h3 => ?_⟩ (R'.adopt hH' hI' hm') (.lst upd_same (p'.mono sI (Pre.refl _)))
    obtain ⟨q1, q2, q3⟩ := E'.fr b o h1 hT h2 h3
    exact ⟨q1, by rw [upd_ne (ne_of_none h1 hD)]; exact q2, q3⟩
  | some d =>
    have hi : i < ds.length := (List.getElem?_eq_some_iff.mp q).1
    have hd : ds.drop i = d :: ds.drop (i + 1) := by
      rw [List.drop_eq_getElem_cons hi, (List.getElem?_eq_some_iff.mp q).2]
    rw [hd] at A'
    obtain ⟨go, yl⟩ := wg d q
    refine .inr ⟨go, fun H2 => ∃ I2 m2 c2 acc2 vs2, Ext I1 m1 H1 I2 m2 H2 ∧ Rel K I2 H2 m2 c2 ∧ Reps K I2 m2 vs2 acc2 ∧ H2 Dn = some (.lst vs2) ∧ I2 Dn = none ∧ Dn ∉ m2 ∧
      After (rD K) K I1 m1 H1 (fun cls dd H' => W cls dd σ H') Q ((compD g ft fe (wipeL l js) (ds.drop (i + 1)) acc2 c2).bind fun xs c2 => .ok (.lst xs) c2),
      fun H2 ⟨I2, m2, c2, acc2, vs2, e2, r2, pp2, h2, i2, n2, a2⟩ => ⟨ds.length - (i + 1), by omega, I2, m2, c2, acc2, vs2, rfl, e2, r2, pp2, h2, i2, n2, a2⟩, fun x H3 y => ?_⟩
    obtain ⟨I3, E3, R3, p3⟩ := yl x H3 y
    have Lw := ((locs_wipe L js).ext E1).ext (E'.trans E3)
    have A3 : After (rD K) K I1 m1 H1 (fun cls dd H' => W cls dd σ H') Q (((g d (wipeL l js) c').nox.bind fun l1 c1 => (ft l1 c1).nox.bind fun k c2 => match k with
      | true => (fe l1 c2).nox.bind fun x c3 => if acc.length < sizeLine then compD g ft fe (wipeL l js) (ds.drop (i + 1)) (acc ++ [x]) c3 else .stuck
      | false => compD g ft fe (wipeL l js) (ds.drop (i + 1)) acc c2).bind fun xs c2 => .ok (.lst xs) c2) := A'
    have asc : ∀ {α β γ : Type} (r : Mi.R α) (f : α → Cs → Mi.R β) (h : β → Cs → Mi.R γ), (r.bind f).bind h = r.bind fun a c => (f a c).bind h := fun r f h => by cases r <;> rfl
    rw [asc] at A3
    refine good x σ H3 _ (rg _ _ _ _ ⟨I3, m', wipeL l js, c', d, R3, Lw, p3, After.mono (After.nox (After.bindAt (rep := rL K) A3 (E'.trans E3))) fun σ4 H4 ⟨I4, m4, c4, l4, E4, R4, L4, A4⟩ => ?_⟩)
    rw [asc] at A4
    have EE := (E'.trans E3).trans E4
    refine ⟨I4, m4, l4, c4, R4, L4, After.mono (After.nox (After.bindAt (rep := rB) A4 EE)) fun b H5 ⟨I5, m5, c5, b5, E5, R5, p5, A5⟩ => ?_⟩
    cases (show b = b5 from p5)
    have F5 := (E3.trans E4).trans E5
    cases b with
    | false =>
      obtain ⟨f1, f2, f3⟩ := F5.fr _ _ hH' ⟨(fun _ z => nomatch z), (fun _ z => nomatch z)⟩ hI' hm'
      exact iteF ⟨I5, m5, c5, acc, vs, EE.trans E5, R5, p'.ext F5, f1, f2, f3, A5⟩
    | true =>
      have A6 : After (rD K) K I1 m1 H1 (fun cls dd H' => W cls dd σ H') Q (((fe l4 c5).nox.bind fun x c3 => if acc.length < sizeLine then compD g ft fe (wipeL l js) (ds.drop (i + 1)) (acc ++ [x]) c3 else .stuck).bind fun xs c2 => .ok (.lst xs) c2) := A5
      rw [asc] at A6
      have L4' : Locs K I4 m4 σ4 l4 := L4
      refine iteT ⟨I5, m5, l4, c5, R5, L4'.ext E5, After.mono (After.nox (After.bindAt (rep := rD K) A6 (EE.trans E5))) fun z H7 ⟨I7, m7, c7, d7, E7, R7, p7, A7⟩ => ?_⟩
      have F7 := F5.trans E7
      obtain ⟨f1, f2, f3⟩ := F7.fr _ _ hH' ⟨(fun _ z => nomatch z), (fun _ z => nomatch z)⟩ hI' hm'
      by_cases hz : acc.length < sizeLine
      · have A8 : After (rD K) K I1 m1 H1 (fun cls dd H' => W cls dd σ H') Q ((if acc.length < sizeLine then compD g ft fe (wipeL l js) (ds.drop (i + 1)) (acc ++ [d7]) c7 else .stuck).bind fun xs c2 => .ok (.lst xs) c2) := A7
        rw [if_pos hz] at A8
        refine ⟨vs, f1, by rw [p'.length]; exact hz, I7, m7, c7, acc ++ [d7], vs ++ [z], ?_, R7.side (.inr f1) f2 f3, (p'.ext F7).append (.cons p7 .nil), upd_same, f2, f3, A8⟩
        have G := (EE.trans E5).trans E7
        refine ⟨G.same, G.pre, fun b o h1 hT h2 h3 => ?_⟩
        obtain ⟨q1, q2, q3⟩ := G.fr b o h1 hT h2 h3
        exact ⟨by rw [upd_ne (ne_of_none h1 hD)]; exact q1, q2, q3⟩
      · have A8 : After (rD K) K I1 m1 H1 (fun cls dd H' => W cls dd σ H') Q ((if acc.length < sizeLine then compD g ft fe (wipeL l js) (ds.drop (i + 1)) (acc ++ [d7]) c7 else .stuck).bind fun xs c2 => .ok (.lst xs) c2) := A7
        rw [if_neg hz] at A8
        exact A8.elim
end L2.Mi

namespace L2.Mi
open PySem PySem.Spec PyProof.Rows L2

section
variable {K : PySem.W.Frag}
/-! ### isinstance, of built-in types -/
def tyD (d : D) (c : Cs) : Option String := match d with
  | .non => some "NoneType"
  | .bl _ => some "bool"
  | .int _ => some "int"
  | .str _ => some "str"
  | .lst _ => some "list"
  | .ro _ => some "list"
  | .tup _ => some "tuple"
  | .dct _ => some "dict"
  | .ref k => match c[k]? with
    | some (.lst _) => some "list"
    | some (.dct _) => some "dict"
    | some (.frz (.lst _)) => some "list"
    | _ => none
  | _ => none
def tyNames : List String := ["NoneType", "bool", "int", "str", "list", "tuple", "dict"]
def isT (t n : String) : Bool := t == n || (t == "bool" && n == "int")
theorem kit_tab : ∀ t ∈ tyNames, ∀ n ∈ tyNames, kitB t n = some (isT t n) := by decide +kernel
theorem tyD_mem {d : D} {c : Cs} {t : String} (h : tyD d c = some t) : t ∈ tyNames := by
  unfold tyD at h
  split at h <;> first
    | (cases h; decide)
    | (split at h <;> first | (cases h; decide) | cases h)
    | cases h
theorem tyL {I H : Hp} {m : List Addr} {a : Addr} {vs : List V} (s : Same I H) (h : SqL K I a vs) : TyX K H (.ref a) (.type "list") := by
  rcases s.seq h with (h | ⟨o, h⟩) | ⟨o, its, n, h1, h2, _⟩
  · exact .base (.lst h)
  · exact .base (.frz h)
  · exact .kList h1 h2
theorem tyT {I H : Hp} {m : List Addr} {a : Addr} {vs : List V} (s : Same I H) (h : SqT K I a vs) : TyX K H (.ref a) (.type "tuple") := by
  rcases sqT_same s h with (h | ⟨o, h⟩) | ⟨o, its, n, h1, h2, _⟩
  · exact .base (.tup h)
  · exact .fTuple h
  · exact .kTuple h1 h2
theorem tyD_is {I H : Hp} {m : List Addr} {c : Cs} {v : V} {d : D} {t : String} (R : Rel K I H m c) (p : Rep K I m v d) (h : tyD d c = some t) : TyX K H v (.type t) := by
  cases p with
  | non => cases h; exact .base .non
  | bl b => cases h; exact .base (.bl b)
  | int i => cases h; exact .base (.int i)
  | str s => cases h; exact .base (.str s)
  | lst q r => cases h; exact .base (.lst (R.same _ _ q))
  | ro q r => cases h; exact tyL (m := m) R.same q
  | tup q r => cases h; exact tyT (m := m) R.same q
  | dct q r => cases h; exact .base (.dK (R.same _ _ q))
  | @ref k a q =>
    have h : (match c[k]? with
      | some (.lst _) => some "list"
      | some (.dct _) => some "dict"
      | some (.frz (.lst _)) => some "list"
      | _ => none) = some t := h
    cases e : c[k]? with
    | none => rw [e] at h; cases h
    | some x =>
      rw [e] at h
      have hc := R.cell k a x q e
      cases x with
      | lst ds => cases h; obtain ⟨_, vs, h1, _⟩ := hc; exact .base (.lst h1)
      | dct ds => cases h; obtain ⟨_, vs, h1, _⟩ := hc; exact .base (.dK h1)
      | frz d =>
        cases d with
        | lst ds =>
          cases h
          obtain ⟨_, hr⟩ := hc
          cases hr with
          | lst h1 h2 => exact .base (.lst (R.same _ _ h1))
        | _ => cases h
      | _ => cases h
  | _ => cases h
/-- the classes that are asked: one, or a tuple of them -/
def clsL : List D → Option (List String)
  | [] => some []
  | .ty n :: r => match clsL r with
    | some ns => some (n :: ns)
    | none => none
  | _ :: _ => none
def isiAny (t : String) (ns : List String) : Bool := ns.any fun n => isT t n
def isiD : List D → Cs → R D
  | [x, .ty n], c => match tyD x c with
    | some t => if n ∈ tyNames then .ok (.bl (isT t n)) c else .stuck
    | none => .stuck
  | [x, .tup cs], c => match tyD x c with
    | some t => match clsL cs with
      | some ns => if (∀ n ∈ ns, n ∈ tyNames) then .ok (.bl (isiAny t ns)) c else .stuck
      | none => .stuck
    | none => .stuck
  | _, _ => .stuck
/-- .. of a tuple of classes that stands anywhere -/
def rIsiQ (K : PySem.W.Frag) : List V → Hp → VK → Prop := fun xs H Q => ∃ (x : V) (tp : Addr) (cs : List V) (t : Value) (us : List Value) (b : Bool), xs = [x, .ref tp] ∧ SqT K H tp cs ∧ Paired ClsV cs us ∧ TyX K H x t ∧ PySem.W.kitAny K t us = some b ∧ Q (.bl b) H
theorem call_isiQ {X : Cx} : CallR X (.builtin "isinstance") (rIsiQ X.K) := fun pins s σ H xs us Q I r h => by
  obtain ⟨x, tp, cs, t, ws, b, rfl, hT, k, ty, e, q⟩ := h
  obtain ⟨u1, u2, rfl, r1, r2⟩ := vals2 r
  cases (show u2 = Value.ref tp from r2)
  obtain ⟨P, Z, p, hx⟩ := kit_of I r1 ty
  obtain ⟨its, rv, ⟨o, h1, h2, n, h3⟩, _⟩ := I.tuple hT
  cases ClsV.all k rv
  obtain ⟨oc, od, dt, sl⟩ := o
  cases h2
  cases h3
  exact PySem.W.kia_tup Z I.kIn p h1 e hx fun tk => ⟨.bl b, H, I.tok tk, rfl, q⟩
def rIsiA (K : PySem.W.Frag) : List V → Hp → VK → Prop := fun xs H Q => rIsi K xs H Q ∨ rIsiQ K xs H Q
theorem call_isiA {X : Cx} : CallR X (.builtin "isinstance") (rIsiA X.K) := call_isi.or call_isiQ
theorem kitAny_tab (K : PySem.W.Frag) {t : String} (ht : t ∈ tyNames) : ∀ {ns : List String}, (∀ n ∈ ns, n ∈ tyNames) → PySem.W.kitAny K (.type t) (ns.map Value.type) = some (isiAny t ns)
  | [], _ => rfl
  | n :: ns, h => by
    have h1 := kit_tab t ht n (h n List.mem_cons_self)
    have h2 := kitAny_tab K ht (ns := ns) fun k hk => h k (List.mem_cons_of_mem _ hk)
    have e : isiAny t (n :: ns) = (isT t n || isiAny t ns) := rfl
    refine kitAny_cons (kit_ty h1) (fun hb => ?_) (fun hb => by rw [e, hb]; rfl)
    rw [h2, e, hb]
    rfl
theorem cls_paired {I : Hp} {m : List Addr} : ∀ {vs : List V} {ds : List D} {ns : List String}, Reps K I m vs ds → clsL ds = some ns → Paired ClsV vs (ns.map Value.type)
  | _, _, _, .nil, e => by cases e; exact .nil
  | _, _, _, .cons (d := d) (ds := ds) h t, e => by
    cases h with
    | ty n =>
      unfold clsL at e
      cases q : clsL ds with
      | none => rw [q] at e; cases e
      | some ks => rw [q] at e; cases e; exact .cons (.ty n) (cls_paired t q)
    | _ => simp [clsL] at e
theorem cs_isi : CallS K (rIsiA K) isiD := fun I H m c vs ds W Q R p A => by
  cases p with
  | nil => exact A.elim
  | @cons v _ d _ h t =>
    cases t with
    | nil => exact A.elim
    | @cons v2 _ d2 _ h2 t2 =>
      cases t2 with
      | cons _ _ => cases h2 <;> exact A.elim
      | nil =>
        cases h2 with
        | ty n =>
          have A2 : After (rD K) K I m H W Q (match tyD d c with
            | some t => if n ∈ tyNames then .ok (.bl (isT t n)) c else .stuck
            | none => .stuck) := A
          cases e : tyD d c with
          | none => rw [e] at A2; exact A2.elim
          | some t =>
            rw [e] at A2
            by_cases hn : n ∈ tyNames
            · have A3 : After (rD K) K I m H W Q (if n ∈ tyNames then .ok (.bl (isT t n)) c else .stuck) := A2
              rw [if_pos hn] at A3
              exact .inl ⟨v, .ty n, .type t, .type n, _, rfl, .ty n, tyD_is R h e, kit_ty (kit_tab t (tyD_mem e) n hn), A3.here R (.bl _)⟩
            · have A3 : After (rD K) K I m H W Q (if n ∈ tyNames then .ok (.bl (isT t n)) c else .stuck) := A2
              rw [if_neg hn] at A3
              exact A3.elim
        | @tup tp ws cs hs hr =>
          have A2 : After (rD K) K I m H W Q (match tyD d c with
            | some t => match clsL cs with
              | some ns => if (∀ n ∈ ns, n ∈ tyNames) then .ok (.bl (isiAny t ns)) c else .stuck
              | none => .stuck
            | none => .stuck) := A
          cases e : tyD d c with
          | none => rw [e] at A2; exact A2.elim
          | some t =>
            rw [e] at A2
            cases e2 : clsL cs with
            | none =>
              have A3 : After (rD K) K I m H W Q (match clsL cs with
                | some ns => if (∀ n ∈ ns, n ∈ tyNames) then .ok (.bl (isiAny t ns)) c else .stuck
                | none => .stuck) := A2
              rw [e2] at A3
              exact A3.elim
            | some ns =>
              have A3 : After (rD K) K I m H W Q (match clsL cs with
                | some ns => if (∀ n ∈ ns, n ∈ tyNames) then .ok (.bl (isiAny t ns)) c else .stuck
                | none => .stuck) := A2
              rw [e2] at A3
              by_cases hn : ∀ n ∈ ns, n ∈ tyNames
              · have A4 : After (rD K) K I m H W Q (if (∀ n ∈ ns, n ∈ tyNames) then .ok (.bl (isiAny t ns)) c else .stuck) := A3
                rw [if_pos hn] at A4
                have hq := A4.here R (Rep.bl _)
                exact .inr ⟨v, tp, ws, .type t, ns.map Value.type, _, rfl, sqT_same R.same hs, cls_paired hr e2, tyD_is R h e, kitAny_tab K (tyD_mem e) hn, hq⟩
              · have A4 : After (rD K) K I m H W Q (if (∀ n ∈ ns, n ∈ tyNames) then .ok (.bl (isiAny t ns)) c else .stuck) := A3
                rw [if_neg hn] at A4
                exact A4.elim
        | _ => exact A.elim
end
end L2.Mi

namespace L2.Mi
open PySem PySem.Spec PyProof.Rows L2

section
variable {K : PySem.W.Frag}
theorem one_arg {I H : Hp} {m : List Addr} {c : Cs} {W : XK} {Q : VK} {vs : List V} {ds : List D} {G : List D → Cs → R D} (g : D → Cs → R D) (h0 : ∀ c, G [] c = .stuck) (h1 : ∀ x c, G [x] c = g x c) (h2 : ∀ x y r c, G (x :: y :: r) c = .stuck)
    (p : Reps K I m vs ds) (A : After (rD K) K I m H W Q (G ds c)) : ∃ v d, vs = [v] ∧ ds = [d] ∧ Rep K I m v d ∧ After (rD K) K I m H W Q (g d c) := by
  cases p with
  | nil => rw [h0] at A; exact A.elim
  | cons h t =>
    cases t with
    | nil => rw [h1] at A; exact ⟨_, _, rfl, rfl, h, A⟩
    | cons h' t' => rw [h2] at A; exact A.elim
def on1 (g : D → Cs → R D) : List D → Cs → R D
  | [x], c => g x c
  | _, _ => .stuck
theorem on1_arg {I H : Hp} {m : List Addr} {c : Cs} {W : XK} {Q : VK} {vs : List V} {ds : List D} {g : D → Cs → R D} (p : Reps K I m vs ds) (A : After (rD K) K I m H W Q (on1 g ds c)) : ∃ v d, vs = [v] ∧ ds = [d] ∧ Rep K I m v d ∧ After (rD K) K I m H W Q (g d c) :=
  one_arg g (fun _ => rfl) (fun _ _ => rfl) (fun _ _ _ _ => rfl) p A

/-! ### repr -/
/-! ### all, any of a list of bools -/
def blsOf : List D → Option (List Bool)
  | [] => some []
  | .bl b :: r => match blsOf r with
    | some bs => some (b :: bs)
    | none => none
  | _ :: _ => none
theorem bls_reps {I : Hp} {m : List Addr} : ∀ {vs : List V} {ds : List D} {bs : List Bool}, Reps K I m vs ds → blsOf ds = some bs → vs = bs.map V.bl
  | _, _, _, .nil, e => by cases e; rfl
  | _, _, _, .cons (d := d) (ds := ds) h t, e => by
    cases h with
    | bl b =>
      unfold blsOf at e
      cases q : blsOf ds with
      | none => rw [q] at e; cases e
      | some ks => rw [q] at e; cases e; rw [bls_reps t q]; rfl
    | _ => simp [blsOf] at e
def allP (f : List Bool → Bool) (d : D) (c : Cs) : R D := match d with
  | .lst ds => match blsOf ds with
    | some bs => .ok (.bl (f bs)) c
    | none => .stuck
  | _ => .stuck
def allD : List D → Cs → R D := on1 (allP fun bs => bs.all id)
theorem all_read {I H : Hp} {m : List Addr} {c : Cs} {W : XK} {Q : VK} {vs : List V} {ds : List D} {f : List Bool → Bool} (R : Rel K I H m c) (p : Reps K I m vs ds) (A : After (rD K) K I m H W Q (on1 (allP f) ds c)) : ∃ (a : Addr) (bs : List Bool), vs = [V.ref a] ∧ SqL K H a (bs.map V.bl) ∧ Q (.bl (f bs)) H := by
  obtain ⟨v, d, rfl, rfl, p, A⟩ := on1_arg p A
  cases p with
  | @lst a ws es h r =>
    have A2 : After (rD K) K I m H W Q (match blsOf es with
      | some bs => .ok (.bl (f bs)) c
      | none => .stuck) := A
    cases q : blsOf es with
    | none => rw [q] at A2; exact A2.elim
    | some bs =>
      rw [q] at A2
      exact ⟨a, bs, rfl, by rw [← bls_reps r q]; exact SqL.of (R.same _ _ h), A2.here R (.bl _)⟩
  | _ => exact A.elim
theorem cs_all : CallS K (rAll K) allD := fun I H m c vs ds W Q R p A => all_read R p A
/-! ### methods of texts: of none, of one argument -/
def strsOf : List D → Option (List Str)
  | [] => some []
  | .str b :: r => match strsOf r with
    | some bs => some (b :: bs)
    | none => none
  | _ :: _ => none
theorem strs_reps {I : Hp} {m : List Addr} : ∀ {vs : List V} {ds : List D} {bs : List Str}, Reps K I m vs ds → strsOf ds = some bs → vs = bs.map V.str
  | _, _, _, .nil, e => by cases e; rfl
  | _, _, _, .cons (d := d) (ds := ds) h t, e => by
    cases h with
    | str b =>
      unfold strsOf at e
      cases q : strsOf ds with
      | none => rw [q] at e; cases e
      | some ks => rw [q] at e; cases e; rw [strs_reps t q]; rfl
    | _ => simp [strsOf] at e
def joinL (a : Str) (ds : List D) (c : Cs) : R D := match strsOf ds with
  | some ys => if (ys.map (·.length)).sum + ys.length * a.length ≤ 16777216 then .ok (.str (Txt.join a ys)) c else .stuck
  | none => .stuck
def joinD : D → D → Cs → R D
  | .str a, .lst ds, c => joinL a ds c
  | .str a, .tup ds, c => joinL a ds c
  | _, _, _ => .stuck
/-- a text's method of one argument: what is asked of the values -/
def M1S (K : PySem.W.Frag) (r : V → List V → Hp → VK → Prop) (g : D → D → Cs → R D) : Prop := ∀ (I H : Hp) (m : List Addr) (c : Cs) (v1 v2 : V) (d1 d2 : D) (W : XK) (Q : VK),
  Rel K I H m c → Rep K I m v1 d1 → Rep K I m v2 d2 → After (rD K) K I m H W Q (g d1 d2 c) → r v1 [v2] H Q
/-- the receiver is looked at first: it must be a text -/
def mM1 (g : D → D → Cs → R D) (a b : ME) : ME := fun l c => (a l c).bind fun x c1 => match x with
  | .str s => (b l c1).bind fun y c2 => g (.str s) y c2
  | _ => .stuck
theorem m1_read {W : WX} {fa fb : ME} {r : V → List V → Hp → VK → Prop} {g : D → D → Cs → R D} {σ : St} {H : Hp} {Q : VK} (hs : M1S K r g) (h : rdE K W (mM1 g fa fb) σ H Q) : tM1 r (rdE K W fa) (rdE K W fb) σ H Q := by
  obtain ⟨I, m, l, c, R, L, A⟩ := h
  refine ⟨I, m, l, c, R, L, After.mono (After.bind (rep := rD K) A) fun v1 H1 ⟨I1, m1, c1, d1, E1, R1, p1, A1⟩ => ?_⟩
  cases p1 with
  | str s =>
    refine ⟨⟨s, rfl⟩, I1, m1, l, c1, R1, L.ext E1, After.mono (After.bind (rep := rD K) (show After (rD K) K I1 m1 H1 (fun cls dd H' => W cls dd σ H') Q ((fb l c1).bind fun y c2 => g (.str s) y c2) from A1)) fun v2 H2 ⟨I2, m2, c2, d2, E2, R2, p2, A2⟩ => ?_⟩
    exact hs _ _ _ _ _ _ _ _ _ _ R2 (Rep.str s) p2 A2
  | _ => exact A1.elim
theorem me_m1 {X : Cx} {W : WX} {e : Expr} {fa fb : ME} {r : V → List V → Hp → VK → Prop} {g : D → D → Cs → R D} (h : PE X e (tM1 r (rdE X.K W fa) (rdE X.K W fb))) (hs : M1S X.K r g) : PE X e (rdE X.K W (mM1 g fa fb)) := PEi h fun _ _ _ q => m1_read hs q
theorem m1_join : M1S K (fun x xs H Q => ∃ a p, ∃ ys : List Str, x = .str a ∧ xs = [.ref p] ∧ (SqL K H p (ys.map V.str) ∨ SqT K H p (ys.map V.str)) ∧ (ys.map (·.length)).sum + ys.length * a.length ≤ 16777216 ∧ Q (.str (Txt.join a ys)) H) joinD :=
  fun I H m c v1 v2 d1 d2 W Q R p1 p2 A => by
    cases p1 with
    | str a =>
      have go : ∀ {p : Addr} {vs : List V} {ds : List D}, v2 = .ref p → (SqL K H p vs ∨ SqT K H p vs) → Reps K I m vs ds → After (rD K) K I m H W Q (joinL a ds c) → _ := fun {p vs ds} e hq r A => by
        unfold joinL at A
        cases q : strsOf ds with
        | none => rw [q] at A; exact A.elim
        | some ys =>
          rw [q] at A
          by_cases hz : (ys.map (·.length)).sum + ys.length * a.length ≤ 16777216
          · have A2 : After (rD K) K I m H W Q (if (ys.map (·.length)).sum + ys.length * a.length ≤ 16777216 then .ok (.str (Txt.join a ys)) c else .stuck) := A
            rw [if_pos hz] at A2
            exact (show ∃ a' p, ∃ ys : List Str, V.str a = .str a' ∧ [v2] = [.ref p] ∧ (SqL K H p (ys.map V.str) ∨ SqT K H p (ys.map V.str)) ∧ (ys.map (·.length)).sum + ys.length * a'.length ≤ 16777216 ∧ Q (.str (Txt.join a' ys)) H from
              ⟨a, p, ys, rfl, by rw [e], by rw [← strs_reps r q]; exact hq, hz, A2.here R (.str _)⟩)
          · have A2 : After (rD K) K I m H W Q (if (ys.map (·.length)).sum + ys.length * a.length ≤ 16777216 then .ok (.str (Txt.join a ys)) c else .stuck) := A
            rw [if_neg hz] at A2
            exact A2.elim
      cases p2 with
      | lst h r => exact go rfl (.inl (SqL.of (R.same _ _ h))) r A
      | tup h r => exact go rfl (.inr (sqT_same R.same h)) r A
      | _ => exact A.elim
    | _ => cases p2 <;> exact A.elim
end

/-! ### own defs -/
/-- the def at f does what g says -/
structure GFn (P : Program) (w : World) (K : PySem.W.Frag) (mg : Str → Option Value) (base : Heap) (k : Nat) (f : Addr) (fd : FuncData) (ps : List Str) (g : List D → Cs → R D) : Prop where
  len : ∀ ds c, g ds c ≠ .stuck → ds.length = ps.length
  run : ∀ (A : Around) (outer : List Env) (s : Shared) (H : Hp) (args : Args) (us : List Value) (vs : List V) (Q : VK) (E : XK) (I : Hp) (m : List Addr) (c : Cs) (ds : List D), Room k A → A.guards = some [] → Env0 P w K mg base A outer s H →
    BindsTo s fd args (ps.zip us) → Vals vs us → Rel K I H m c → Reps K I m vs ds → After (rD K) K I m H E Q (g ds c) → codeAny (model P w) A (.call (.ref f) args) (CR (CX P w) outer P w H s Q E) s
theorem GFn.mono {P : Program} {w : World} {K : PySem.W.Frag} {mg : Str → Option Value} {base : Heap} {j k : Nat} {f : Addr} {fd : FuncData} {ps : List Str} {g : List D → Cs → R D} (F : GFn P w K mg base j f fd ps g) (h : j ≤ k) : GFn P w K mg base k f fd ps g :=
  ⟨F.len, fun A outer s H args us vs Q E I m c ds hr => F.run A outer s H args us vs Q E I m c ds (hr.mono h)⟩
/-- a body, run from the arguments: n names, a of them parameters -/
def mFun (n a : Nat) (b : MS) : List D → Cs → R D := fun ds c => if ds.length = a then (match b (ds.map some ++ List.replicate (n - a) none) c with
  | .go (.rt d) c' => .ok d c'
  | .go (.nx _) c' => .ok .non c'
  | .exc x _ c' => .exc x c'
  | _ => .stuck) else .stuck
theorem after_nonstuck {α β : Type} {rep : Hp → List Addr → β → α → Prop} {K : PySem.W.Frag} {I H : Hp} {m : List Addr} {W : XK} {Q : β → Hp → Prop} {r : R α} (a : After rep K I m H W Q r) : r ≠ .stuck := fun e => by
  rw [e] at a
  exact a
theorem locs_start {K : PySem.W.Frag} {I : Hp} {m : List Addr} {N : List Str} : ∀ {vs : List V} {ds : List D}, Reps K I m vs ds → Locs K I m (start N vs) (ds.map some ++ List.replicate (N.length - ds.length) none) := fun {vs ds} r => by
  refine ⟨by unfold start; simp [r.length], fun i d h => ?_⟩
  by_cases hi : i < ds.length
  · rw [List.getElem?_append_left (by simpa using hi), List.getElem?_map] at h
    cases q : ds[i]? with
    | none => rw [q] at h; cases h
    | some e =>
      rw [q] at h
      cases h
      obtain ⟨v, h1, h2⟩ := r.get q
      refine ⟨v, ?_, h2⟩
      unfold start
      rw [List.getElem?_append_left (by rw [List.length_map, r.length]; exact hi), List.getElem?_map, h1]
      rfl
  · rw [List.getElem?_append_right (by simpa using hi), List.getElem?_replicate] at h
    split at h <;> cases h
/-- THE RULE: a def by its body -/
theorem gfn_ofE {P : Program} {w : World} {K : PySem.W.Frag} {mg : Str → Option Value} {base : Heap} {k : Nat} {x qual : Str} {st : Stmt} {f : Addr} {fd : FuncData} {N ps : List Str} {b : MS} (F : Fun K x qual st f fd) (S : FnScope N ps (defScope st))
    (hb : ∀ (cdv : Value), fd.code = cdv → ∀ (A : Around) (outer : List Env) (s : Shared) (H : Hp) (E : XK), Room k (A.deeper (envOfC qual (defScope st) s.heap.objs.size f cdv)) → A.guards = some [] →
      PSs (cxOf (CX P w) P w K mg base N qual (defScope st) f cdv A outer s H E) (defBody st) (rdS K (fun cls d _ H' => E cls d H') b)) : GFn P w K mg base (k + 1) f fd ps (mFun N.length ps.length b) := by
  obtain ⟨oc, od, kV, doc, pm, an, cdv, ct, osl, rfl, lk, hcd⟩ := F.ex
  have len : ∀ ds c, mFun N.length ps.length b ds c ≠ .stuck → ds.length = ps.length := fun ds c h => by
    by_cases hl : ds.length = ps.length
    · exact hl
    · exact absurd (show mFun N.length ps.length b ds c = .stuck from if_neg hl) h
  refine ⟨len, fun A outer s H args us vs Q E I m c ds hr hg e0 hbd rv R p a => ?_⟩
  have hl := len ds c (after_nonstuck a)
  have hlv : vs.length = ps.length := p.length.trans hl
  have KX : K.In s.heap := e0.mod.kin.keeps fun b o e => (e0.bs b o e).1
  have lim : s.heap.NoLimit := e0.mod.nolimit.keeps fun b o e => (e0.bs b o e).1
  have hkind : ∀ y ∈ ps.zip us, (defScope st).names.lookup y.1 = some .local ∨ ((defScope st).names.lookup y.1 = some .cell ∧ ((cellsFrom (s.heap.objs.size + 1) (defScope st).names []).lookup y.1).isSome = true) := fun ⟨n, v⟩ hy => by
    rcases S.par n (List.of_mem_zip hy).1 with q | q
    · exact Or.inl q
    · exact Or.inr ⟨q, PySem.W.cellsFrom_some _ _ _ (Or.inl q)⟩
  refine codeAny_call_function hr.depth (KX _ _ lk) rfl S.co S.gen rfl (PySem.W.codeRec_of KX hcd) (hbd _ _ _ _ ?_)
  refine wpAny_newFunctionEnv_cells S.kind hkind fun env he s1 y => ?_
  subst he
  refine ⟨lim.keeps y.toInCall.keep, codeAny_func ?_⟩
  have J := inv_start (CX := CX P w) (E := E) (cd := cdv) (qual := qual) (f := f) S hr.hd e0 hlv rv y
  have a2 : After (rD K) K I m H E Q (match b (ds.map some ++ List.replicate (N.length - ps.length) none) c with
    | .go (.rt d) c' => .ok d c'
    | .go (.nx _) c' => .ok .non c'
    | .exc x _ c' => .exc x c'
    | _ => .stuck) := by
    have e : mFun N.length ps.length b ds c = _ := if_pos hl
    rw [e] at a
    exact a
  have hst : rdS K (fun cls d _ H' => E cls d H') b { nx := fun _ H' => Q .non H', rt := Q } (start N vs) H := by
    refine ⟨I, m, ds.map some ++ List.replicate (N.length - ps.length) none, c, R, by rw [← hl]; exact locs_start p, ?_⟩
    cases q : b (ds.map some ++ List.replicate (N.length - ps.length) none) c with
    | stuck => rw [q] at a2; exact a2.elim
    | exc x l' c' => rw [q] at a2; exact fun I' m' H' σ' cls dd e' r' _ px => a2 I' m' H' cls dd e' r' px
    | go fl c' =>
      rw [q] at a2
      cases fl with
      | nx l' => exact fun I' m' H' σ' e' r' _ => a2 I' m' H' .non e' r' Rep.non
      | rt d => exact fun I' m' H' v e' r' pv => a2 I' m' H' v e' r' pv
      | bk l' => exact a2.elim
      | ct l' => exact a2.elim
  refine wpAny_mono ((hb cdv rfl A outer s H E (hr.deeper _) hg).run [] s1 (start N vs) H _ J hst) (fun fl s' hs => ?_) fun e s' hs => hs
  have fin : ∀ {σ' : St} {H' : Hp} {v : V} {u : Value}, Inv (cxOf (CX P w) P w K mg base N qual (defScope st) f cdv A outer s H E) [] σ' H' s' → RelV v u → Q v H' → CE outer P w H s Q u s' :=
    fun {σ' H' v u} Z rv q => ⟨v, H', Z.os, Z.bare, Z.base, Z.hok, rv, q⟩
  cases fl with
  | ret u =>
    obtain ⟨v, σ', H', Z, rv, q⟩ := hs
    exact fin Z rv q
  | next =>
    obtain ⟨σ', H', Z, q⟩ := hs
    exact fin (v := V.non) (u := Value.none) Z rfl q
  | brk =>
    obtain ⟨_, _, _, q⟩ := hs
    exact False.elim q
  | cont =>
    obtain ⟨_, _, _, q⟩ := hs
    exact False.elim q
/-- THE RULE: a def by its body -/
theorem gfn_of {P : Program} {w : World} {K : PySem.W.Frag} {mg : Str → Option Value} {base : Heap} {k : Nat} {x qual : Str} {st : Stmt} {f : Addr} {fd : FuncData} {N ps : List Str} {b : MS} (F : Fun K x qual st f fd) (S : FnScope N ps (defScope st))
    (hb : ∀ (cdv : Value) (A : Around) (outer : List Env) (s : Shared) (H : Hp) (E : XK), Room k (A.deeper (envOfC qual (defScope st) s.heap.objs.size f cdv)) → A.guards = some [] →
      PSs (cxOf (CX P w) P w K mg base N qual (defScope st) f cdv A outer s H E) (defBody st) (rdS K (fun cls d _ H' => E cls d H') b)) : GFn P w K mg base (k + 1) f fd ps (mFun N.length ps.length b) := gfn_ofE F S fun cdv _ => hb cdv
section
variable {X : Cx} {W : WX} {k : Nat} {f : Addr} {fd : FuncData} {ps : List Str} {g : List D → Cs → R D} {x : Str} {p pos : Pos} {e : Expr} {es : List Expr} {ga : MA}
/-- the callee runs, from a body -/
theorem run_g {pins : List (Addr × Obj)} {σ : St} {H : Hp} {s : Shared} {Q : VK} {us : List Value} {vs : List V} {I : Hp} {m : List Addr} {c : Cs} {ds : List D} (F : GFn X.prog X.w X.K X.mg X.base k f fd ps g) (hr : Room k X.A) (hgd : X.A.guards = some []) (hb : Binds X.K fd ps []) (tk : Takes X W)
    (J : Inv X pins σ H s) (r : Vals vs us) (R : Rel X.K I H m c) (p : Reps X.K I m vs ds) (a : After (rD X.K) X.K I m H (fun cls d H' => W cls d σ H') Q (g ds c)) : wpAny (model X.prog X.w) X.A (call (.ref f) us) (EP X pins σ Q) X.xe s := by
  have hl : us.length = ps.length := by rw [← r.length, p.length]; exact F.len ds c (after_nonstuck a)
  have hb2 : BindsTo s fd ⟨us, []⟩ (ps.zip us) := by
    have z := hb s us J.kIn (by rw [List.append_nil]; exact hl)
    rw [List.append_nil] at z
    exact z
  refine wpAny_call (codeAny_mono (F.run X.A X.stack s H ⟨us, []⟩ us vs Q (fun cls d H' => W cls d σ H') I m c ds hr hgd J.env0 hb2 r R p a) fun res s' hq => ?_)
  cases res with
  | error e => exact tk e s' (XE.of_call J (fun _ _ _ h => h) hq)
  | ok fl =>
    cases fl with
    | ret u => exact J.after hq
    | next => exact False.elim hq
    | brk => exact False.elim hq
    | cont => exact False.elim hq
theorem me_call (F : GFn X.prog X.w X.K X.mg X.base k f fd ps g) (hr : Room k X.A) (hgd : X.A.guards = some []) (hg : Gl X x) (hm : X.mg x = some (.ref f)) (hk : PySem.W.keepIn X.K (.ref f) = true) (hb : Binds X.K fd ps []) (tk : Takes X W)
    (ha : PA X (e :: es) (rdA X.K W ga)) (hdb : (x == ("__debug__" : Str)) = false := by decide) (he : starEach (e :: es) X.env = (false, eval e X.env) :: starEach es X.env := by rfl) (hpl : (backTo pos (starEach es X.env)).any (·.1) = false := by rfl) :
    PE X (.Call (.Name x p) (e :: es) [] pos) (rdE X.K W (mCB g ga)) := by
  refine ⟨fun pins s σ H Q J ⟨I, m, l, c, R, L, A⟩ => ?_⟩
  refine wpAny_Call_Name_kw (ld_glob J hg hm ?_ hdb)
  refine PySem.W.callWith_K (h₀ := X.base) J.ok.mod.kin hk (thn (ha.run pos pins s σ H _ J ⟨I, m, l, c, R, L, After.bind (rep := rA X.K) A⟩) fun us s1 ⟨vs, H1, J1, r, I1, m1, c1, ds, E1, R1, p1, A1⟩ => ⟨J1.kIn, ?_⟩) he hpl
  exact run_g F hr hgd hb tk J1 r R1 p1 A1
end

/-! ### the law's end -/
theorem tabs_all {q : Nat} (h : q ∈ tabsL) : q ∈ tabsA := by
  obtain ⟨p, hp, e⟩ := List.mem_map.mp h
  exact List.mem_map.mpr ⟨p, List.mem_append_left _ hp, e⟩
theorem lams_all {p : Nat × Nat × PySem.Str} (h : p ∈ lamL) : p.2.1 ∈ tabsA := List.mem_map.mpr ⟨(p.1, p.2.1), List.mem_append_right _ (List.mem_map.mpr ⟨p, h, rfl⟩), rfl⟩
theorem law_callG {P : Program} {w : World} {K : PySem.W.Frag} {mg mb : Str → Option Value} {k : Nat} {fa a : Addr} {fd : FuncData} {x : Str} {g : List D → Cs → R D} {s₁ : Shared} {vs : List Value} {ns : List Int}
    (KX : K.In s₁.heap) (hns : s₁.heap.Ns mainGlobals mg) (hb : s₁.heap.Ns builtinsNs mb) (hbb : ∀ x : Str, x ≠ "__name__" → mb x = bootBuiltins x) (hlim : s₁.heap.NoLimit) (hgen : s₁.gens = #[])
    (tE : ∀ p ∈ allL, s₁.heap.get? p.2 = some (PySem.W.tabObj #[])) (tK : ∀ p ∈ allL, K.lookup p.2 = none) (tC : ∀ p ∈ allL, PySem.W.CodeHd s₁.heap p.1 p.2)
    (hbm : ∃ (bm : Addr) (ob : Obj), mg "__builtins__" = some (.ref bm) ∧ bm ≠ builtinsNs ∧ s₁.heap.get? bm = some ob ∧ ob.cls = .type "module" ∧ ob.dict = some builtinsNs ∧ ob.data = .plain)
    (ha : s₁.heap.get? a = some { cls := .type "list", data := .seq vs.toArray }) (hi : IntsAre vs ns) (hl : ns.length ≤ sizeLine) (hr : Room k callerA)
    (F : ∀ base : Heap, K.In base → base.Ns mainGlobals mg → (∀ p ∈ allL, GxR.TabB base mg p.1 p.2) → GFn P w K mg base k fa fd [x] g) (hbind : ∀ (s : Shared) (u : Value), BindsTo s fd ⟨[u], []⟩ [(x, u)])
    (hsp : ∀ H : Hp, (∀ q ∈ tabsA, H q = some (.tbl #[])) → SqL K H a (ns.map V.int) → ∃ (I : Hp) (m : List Addr) (c : Cs) (ds : List D), Rel K I H m c ∧ Reps K I m [.ref a] ds ∧ After (rD K) K I m H (fun _ _ _ => False) (fun v _ => v = .bl true) (g ds c)) :
    codeAny (model P w) callerA (.call (.ref fa) ⟨[.ref a], []⟩) (fun r s' => r = .ok (.ret (.bool true)) ∧ OldK s₁.heap s'.heap ∧ s'.os = s₁.os ∧ AllBare s'.gens) s₁ := by
  have rv := vals_ints hi
  have mT : ∀ q ∈ tabsA, ∃ p ∈ allL, p.2 = q := fun q hq => by
    obtain ⟨p, hp, e⟩ := List.mem_map.mp hq
    exact ⟨p, hp, e⟩
  have tT : ∀ q ∈ tabsA, s₁.heap.get? q = some (PySem.W.tabObj #[]) := fun q hq => by
    obtain ⟨p, hp, rfl⟩ := mT q hq
    exact tE p hp
  have naT : a ∉ tabsA := fun z => by
    have q := tT a z
    rw [ha] at q
    exact absurd (congrArg Obj.data (Option.some.inj q)) (by intro z; cases z)
  have core : ∀ H : Hp, (∀ b o, H b = some o → (b = a ∧ ∃ ob xs, o = .frz ob (.lst xs)) ∨ (b ∈ tabsA ∧ o = .tbl #[])) → (∀ q ∈ tabsA, H q = some (.tbl #[])) → SqL K H a (ns.map V.int) → HOk P w H s₁.heap → (H a ≠ none → K.lookup a = none) →
      codeAny (model P w) callerA (.call (.ref fa) ⟨[.ref a], []⟩) (fun r s' => r = .ok (.ret (.bool true)) ∧ OldK s₁.heap s'.heap ∧ s'.os = s₁.os ∧ AllBare s'.gens) s₁ := fun H hO hQ hS hok hK => by
    have free_ : ∀ {b : Addr} {o : Obj}, s₁.heap.get? b = some o → (∀ vs n, o.data ≠ .seq vs n) → o.data ≠ .fields #[] → H b = none := fun {b o} e h1 h2 => by
      cases q : H b with
      | none => rfl
      | some u =>
        rcases hO b u q with ⟨rfl, _⟩ | ⟨z, _⟩
        · rw [ha] at e
          cases e
          exact absurd rfl (h1 _ _)
        · rw [tT b z] at e
          cases e
          exact absurd rfl h2
    have dictFree : ∀ {b : Addr} {o : Obj} {es : Array DictEntry} {ep : Nat}, s₁.heap.get? b = some o → o.data = .dict es ep → H b = none := fun {b o es ep} e d => free_ e (fun vs n z => by rw [d] at z; cases z) (fun z => by rw [d] at z; cases z)
    have toBase : ∀ {b : Addr} {m : Str → Option Value}, s₁.heap.Ns b m → (hidT s₁.heap H).Ns b m := fun {b m} ⟨o, es, ep, e, d, r⟩ => ⟨o, es, ep, hidT_get e (dictFree e d), d, r⟩
    have inB : K.In (hidT s₁.heap H) := fun b o e => hidT_get (KX b o e) (by
      cases q : H b with
      | none => rfl
      | some u =>
        rcases hO b u q with ⟨rfl, _⟩ | ⟨z, _⟩
        · rw [hK (by rw [q]; exact nofun)] at e
          cases e
        · obtain ⟨p, hp, rfl⟩ := mT b z
          rw [tK p hp] at e
          cases e)
    have md : Mod K mg (hidT s₁.heap H) := ⟨inB, toBase hns, ⟨mb, toBase hb, hbb⟩, hlim.imp fun _ h => ⟨toBase h.1, h.2⟩⟩
    have noFr : ∀ b ∈ frs [], H b = none := fun b z => absurd (show b ∈ ([] : List Addr) from z) List.not_mem_nil
    have e0 : Env0 P w K mg (hidT s₁.heap H) callerA [] s₁ H := ⟨rfl, md, fun b o e => of_hidT e, Nat.le_of_eq (hidT_size _ _), trivial, noFr, hok, .of_eq hgen⟩
    have tb : ∀ p ∈ allL, GxR.TabB (hidT s₁.heap H) mg p.1 p.2 := fun p hp => by
      have e2 := tE p hp
      refine ⟨?_, ?_, ?_⟩
      · obtain ⟨o, us, file, tf, fl, tg, inF, text, tt, f1, f2, f3, f4, more⟩ := tC p hp
        refine ⟨o, us, file, tf, fl, tg, inF, text, tt, hidT_get f1 (free_ f1 (fun vs n z => by rw [f3] at z; cases z) fun z => ?_), f2, f3, f4, more⟩
        rw [f3] at z
        cases z
        exact absurd f4 (by simp)
      · obtain ⟨bm, ob, b1, b2, b3, b4, b5, b6⟩ := hbm
        have n1 : bm ≠ mainGlobals := fun q => by
          obtain ⟨o, es, ep, e, hd, _⟩ := hns
          rw [q, e] at b3
          rw [Option.some.inj b3, b6] at hd
          cases hd
        have n2 : bm ≠ p.2 := fun q => by
          rw [q, e2] at b3
          rw [← Option.some.inj b3] at b6
          cases b6
        exact ⟨bm, ob, b1, b2, n1, n2, hidT_get b3 (free_ b3 (fun vs n z => by rw [b6] at z; cases z) fun z => by rw [b6] at z; cases z), b4, b5, b6⟩
      · intro z
        obtain ⟨o, es, ep, e, hd, _⟩ := hns
        rw [z, e2] at e
        rw [← Option.some.inj e] at hd
        cases hd
    obtain ⟨I, m, c, ds, R, p, A⟩ := hsp H hQ hS
    refine codeAny_mono ((F _ inB (toBase hns) tb).run callerA [] s₁ H ⟨[.ref a], []⟩ [.ref a] [.ref a] (fun v _ => v = .bl true) (fun _ _ _ => False) I m c ds hr rfl e0 (hbind s₁ (.ref a)) (.cons rfl .nil) R p A) fun r s' h => ?_
    cases r with
    | error e =>
      obtain ⟨_, _, _, _, _, _, _, _, _, _, _, _, z⟩ := h
      exact z.elim
    | ok fl =>
      cases fl with
      | next => exact False.elim h
      | brk => exact False.elim h
      | cont => exact False.elim h
      | ret u =>
        obtain ⟨v, H', os, bare, un, hok', r', rfl⟩ := h
        obtain rfl : u = Value.bool true := r'
        have old : ∀ b o, b ∉ tabsA → s₁.heap.get? b = some o → s'.heap.get? b = some o := fun b o nb e => by
          cases q : H b with
          | none => exact un.keep b o e q (fun z => absurd (show b ∈ ([] : List Addr) from z) List.not_mem_nil) List.not_mem_nil
          | some u =>
            rcases hO b u q with ⟨_, ob, xs, rfl⟩ | ⟨z, _⟩
            · have z1 := (hok b _ q).1
              have z2 := (hok' b _ (un.frzs b ob _ q)).1
              rw [z1] at e
              cases e
              exact z2
            · exact absurd z nb
        have grew : ∀ q ∈ tabsA, ∃ more : Array Value, s'.heap.get? q = some (PySem.W.tabObj more) := fun q hq => by
          obtain ⟨more, z⟩ := un.tbls q #[] (hQ q hq)
          exact ⟨_, hok' q _ z⟩
        refine ⟨rfl, ⟨fun b o e => ?_, fun b o e => ?_⟩, os, bare⟩
        · by_cases hbT : b ∈ tabsA
          · obtain ⟨p, hp, rfl⟩ := mT b hbT
            obtain ⟨more, hm⟩ := grew _ hbT
            have e2 := tE p hp
            rw [e2] at e
            have e3 := (Option.some.inj e).symm
            subst e3
            exact .inr (.inl ⟨((tC p hp).tab e2).isCodeTable, rfl, #[], more, rfl, by rw [Array.empty_append]; exact hm⟩)
          · exact .inl (old b o hbT e)
        · by_cases hbT : b ∈ tabsA
          · obtain ⟨more, hm⟩ := grew b hbT
            exact ⟨_, hm⟩
          · exact ⟨o, old b o hbT e⟩
  cases hk : K.lookup a with
  | some o =>
    have e := KX a o hk
    rw [ha] at e
    cases e
    have only : ∀ (b : Addr) (o : HO), (if b ∈ tabsA then some (HO.tbl #[]) else none) = some o → b ∈ tabsA ∧ o = .tbl #[] := fun b o e => by
      by_cases hbT : b ∈ tabsA
      · rw [if_pos hbT] at e
        exact ⟨hbT, (Option.some.inj e).symm⟩
      · rw [if_neg hbT] at e
        cases e
    refine core (fun b => if b ∈ tabsA then some (.tbl #[]) else none) (fun b o e => .inr (only b o e)) (fun q hq => if_pos hq) (Or.inr ⟨_, vs.toArray, _, hk, rfl, rfl, rfl, by rw [List.size_toArray, hi.length]; exact hl, rv⟩) (fun b u z => ?_) fun z => absurd (if_neg naT) z
    obtain ⟨hbT, rfl⟩ := only b u z
    exact tT b hbT
  | none =>
    have only : ∀ (b : Addr) (o : HO), (if b ∈ tabsA then some (HO.tbl #[]) else if b = a then some (HO.frz { cls := .type "list", data := .seq vs.toArray } (.lst (ns.map V.int))) else none) = some o → (b = a ∧ o = .frz { cls := .type "list", data := .seq vs.toArray } (.lst (ns.map V.int))) ∨ (b ∈ tabsA ∧ o = .tbl #[]) := fun b o e => by
      by_cases hbT : b ∈ tabsA
      · rw [if_pos hbT] at e
        exact .inr ⟨hbT, (Option.some.inj e).symm⟩
      · rw [if_neg hbT] at e
        by_cases hb : b = a
        · rw [if_pos hb] at e
          exact .inl ⟨hb, (Option.some.inj e).symm⟩
        · rw [if_neg hb] at e
          cases e
    refine core (fun b => if b ∈ tabsA then some (.tbl #[]) else if b = a then some (.frz { cls := .type "list", data := .seq vs.toArray } (.lst (ns.map V.int))) else none) (fun b o e => (only b o e).imp_left fun z => ⟨z.1, _, _, z.2⟩) (fun q hq => if_pos hq) (Or.inl (Or.inr ⟨_, (if_neg naT).trans (if_pos rfl)⟩)) (fun b o e => ?_) fun _ => hk
    rcases only b o e with ⟨rfl, rfl⟩ | ⟨hbT, rfl⟩
    · exact ⟨ha, by rw [List.length_map]; exact hl, vs, _, rv, ha⟩
    · exact tT b hbT
theorem law_g {l : PySem.W.OpenLaw} {n k : Nat} {q : Program} {loose : List Str} {XP : (Str → Option Value) → Heap → Prop} {YP : World → Heap → Prop} {d : DefRec} {K : Params → PySem.W.Frag} {x : Str} {g : Params → List D → Cs → R D}
    (hn : l.most = some n) (hn2 : n ≤ sizeLine) (hdf : d.params.defaults = []) (hr : Room k callerA) (hY : ∀ (w : World) (h : Heap), YP w h → (K w.params).In h)
    (hT : ∀ (w : World) (h : Heap), YP w h → (∀ p ∈ allL, h.get? p.2 = some (PySem.W.tabObj #[])) ∧ (∀ p ∈ allL, (K w.params).lookup p.2 = none) ∧ ∀ p ∈ allL, PySem.W.CodeHd h p.1 p.2)
    (F : ∀ (w : World) (mg : Str → Option Value) (fa : Addr) (h : Heap), (K w.params).In h → h.Ns mainGlobals mg → mg d.name = some (.ref fa) →
      ∃ fd : FuncData, (∀ (s : Shared) (u : Value), BindsTo s fd ⟨[u], []⟩ [(x, u)]) ∧ ∀ base : Heap, (K w.params).In base → base.Ns mainGlobals mg → (∀ p ∈ allL, GxR.TabB base mg p.1 p.2) → GFn l.prog w (K w.params) mg base k fa fd [x] (g w.params))
    (hg : ∀ (pm : Params) (ns : List Int), ns.length ≤ n → ∃ c, g pm [.ro (ns.map D.int)] [] = .ok (.bl true) c) :
    PySem.W.WalkO q loose XP YP l.row.toRowW d [] (fun f vs => PySem.call f vs) := by
  refine Att.attach_call hn hdf fun w s₀ s₁ mg mb fa o pm cd doc a vs ns G Y ho hd hcd hmg hobj hints hlen hgen => ?_
  have KX := hY w _ Y
  obtain ⟨t1, t2, t3⟩ := hT w _ Y
  obtain ⟨fd, hb, hF⟩ := F w mg fa _ KX G.T.g hmg
  have reps : ∀ (H : Hp) (ns : List Int), Reps (K w.params) H [] (ns.map V.int) (ns.map D.int) := fun H ns => by
    induction ns with
    | nil => exact .nil
    | cons z zs ih => exact .cons (.int z) ih
  obtain ⟨c, ec⟩ := hg w.params ns hlen
  refine law_callG KX G.T.g G.T.b G.T.builtins G.T.nolimit hgen t1 t2 t3 G.T.bmain hobj hints (Nat.le_trans hlen hn2) hr hF hb fun H hQ hS => ?_
  have hI : ∀ (b : Addr) (o : HO), (if b ∈ tabsA then none else H b) = some o → b ∉ tabsA ∧ H b = some o := fun b o e => by
    by_cases hbT : b ∈ tabsA
    · rw [if_pos hbT] at e; cases e
    · rw [if_neg hbT] at e; exact ⟨hbT, e⟩
  have hS2 : SqL (K w.params) (fun b => if b ∈ tabsA then none else H b) a (ns.map V.int) := by
    have go : ∀ o, H a = some o → (∀ ps, o ≠ .tbl ps) → (if a ∈ tabsA then none else H a) = some o := fun o e n => by
      rw [if_neg (fun z => n #[] (by have := hQ a z; rw [e] at this; exact Option.some.inj this))]
      exact e
    rcases hS with (h | ⟨o, h⟩) | h
    · exact .inl (.inl (go _ h (fun _ z => nomatch z)))
    · exact .inl (.inr ⟨o, go _ h (fun _ z => nomatch z)⟩)
    · exact .inr h
  exact ⟨fun b => if b ∈ tabsA then none else H b, [], [], [.ro (ns.map D.int)], ⟨fun b o e => (hI b o e).2, rfl, fun _ _ _ h => (nomatch h), fun _ _ _ h => (nomatch h), ⟨fun q hq => ⟨⟨#[], hQ q (tabs_all hq), trivial⟩, if_pos (tabs_all hq), List.not_mem_nil⟩, fun p hp => ⟨.nil (hQ _ (lams_all hp)), if_pos (lams_all hp), List.not_mem_nil⟩⟩⟩, .cons (.ro hS2 (reps _ ns)) .nil, by rw [ec]; exact fun I' m' H' v _ _ p => by cases p; rfl⟩
end L2.Mi

namespace L2.Mi
open PySem PySem.Spec PyProof.Rows L2

section
variable {X : Cx} {W : WX} {a b c e : Expr} {es : List Expr} {pos : Pos} {fa fb fc : ME} {f g : D → D → Cs → R D} {ga : MA}
/-- a call of a built-in -/
theorem me_cb {r : List V → Hp → VK → Prop} {G : List D → Cs → R D} (h : PE X e (tCB r (rdA X.K W ga))) (hs : CallS X.K r G) : PE X e (rdE X.K W (mCB G ga)) := PEi h fun _ _ _ q => cb_read hs q
theorem mt_chain {op op' : CmpOp} {r r' : R2} (ho : OpR X (compareOp op) r) (hs : OpS X.K r f) (ho' : OpR X (compareOp op') r') (hs' : OpS X.K r' g) (ha : PE X a (rdE X.K W fa)) (hb : PE X b (rdE X.K W fb)) (hc : PE X c (rdE X.K W fc))
    (hm : lastMarks [op, op'] [b, c] = false := by with_unfolding_all rfl) : PT X (.Compare a [op, op'] [b, c] pos) (rdT X.K W (mT (mChain f g fa fb fc))) := PTi (pt_chain ho ho' ha hb hc hm) fun σ H Q ⟨I, m, l, c, R, L, A0⟩ => by
  have A : After (rD X.K) X.K I m H (fun cls dd H' => W cls dd σ H') (fun x H' => ∃ k, x = .bl k ∧ Q k H') (mChain f g fa fb fc l c) := After.mono (After.bind (rep := rD X.K) A0) fun v1 H1 ⟨I1, m1, c1, d1, E1, R1, p1, A1⟩ => by
    cases p1 with
    | bl k => exact ⟨k, rfl, A1.here R1 rfl⟩
    | _ => exact A1.elim
  refine ⟨I, m, l, c, R, L, After.mono (After.bind (rep := rD X.K) A) fun v1 H1 ⟨I1, m1, c1, d1, E1, R1, p1, A1⟩ => ?_⟩
  refine ⟨I1, m1, l, c1, R1, L.ext E1, After.mono (After.bind (rep := rD X.K) A1) fun v2 H2 ⟨I2, m2, c2, d2, E2, R2, p2, A2⟩ => ?_⟩
  refine hs _ _ _ _ _ _ _ _ _ _ R2 (Rep.ext p1 E2) p2 (After.mono (After.bind (rep := rD X.K) A2) fun v3 H3 ⟨I3, m3, c3, d3, E3, R3, p3, A3⟩ => ?_)
  cases p3 with
  | bl k =>
    refine ⟨k, rfl, ?_⟩
    cases k with
    | false =>
      rw [if_neg Bool.false_ne_true]
      exact A3.here R3 (Rep.bl false)
    | true =>
      rw [if_pos rfl]
      refine ⟨I3, m3, l, c3, R3, ((L.ext E1).ext E2).ext E3, After.mono (After.bind (rep := rD X.K) A3) fun v4 H4 ⟨I4, m4, c4, d4, E4, R4, p4, A4⟩ => ?_⟩
      exact hs' _ _ _ _ _ _ _ _ _ _ R4 (Rep.ext (Rep.ext p2 E3) E4) p4 A4
  | _ => exact A3.elim
/-- a display that will be changed: a cell -/
def mLstM (t : MA) : ME := fun l c => (t l c).bind fun xs c1 => fits xs.length (.ok (.ref c1.length) (c1 ++ [.lst xs]))
theorem me_lstM (h : PA X es (rdA X.K W ga)) : PE X (.List es pos) (rdE X.K W (mLstM ga)) :=
  PEi (pe_lst h) fun σ H Q ⟨I, m, l, c, R, L, A⟩ => ⟨I, m, l, c, R, L, After.mono (After.bind (rep := rA X.K) A) fun v1 H1 ⟨I1, m1, c1, d1, E1, R1, p1, A1⟩ => by
    obtain ⟨z, A2⟩ := A1.fits
    have p1 : Reps X.K I1 m1 v1 d1 := p1
    refine ⟨by rw [p1.length]; exact z, fun p np => ?_⟩
    obtain ⟨R2, E2⟩ := R1.push np p1
    refine A2 _ _ _ _ E2 R2 (Rep.ref ?_)
    rw [← R1.len, List.getElem?_append_right (Nat.le_refl _), Nat.sub_self]
    rfl⟩
/-- a local list's cell, whose list does not change from here on -/
def frzD (d : D) (c : Cs) : R D := match d with
  | .ref k => match c[k]? with
    | some (.lst ds) => .ok (.lst ds) (c.set k (.frz (.lst ds)))
    | _ => .stuck
  | _ => .stuck
def mFrz (a : ME) : ME := fun l c => (a l c).bind fun d c1 => frzD d c1
theorem me_frz (h : PE X e (rdE X.K W fa)) : PE X e (rdE X.K W (mFrz fa)) := PEi h fun σ H Q ⟨I, m, l, c, R, L, A⟩ =>
  ⟨I, m, l, c, R, L, After.mono (After.bind (rep := rD X.K) A) fun v1 H1 ⟨I1, m1, c1, d1, E1, R1, p1, A1⟩ => by
    cases p1 with
    | @ref k a hk =>
      have A2 : After (rD X.K) X.K I1 m1 H1 (fun cls dd H' => W cls dd σ H') Q (match c1[k]? with
        | some (.lst ds) => .ok (.lst ds) (c1.set k (.frz (.lst ds)))
        | _ => .stuck) := A1
      cases q : c1[k]? with
      | none => rw [q] at A2; exact A2.elim
      | some x =>
        rw [q] at A2
        cases x with
        | lst ds =>
          obtain ⟨I2, R2, E2, p2⟩ := R1.freeze hk q
          exact A2 I2 m1 H1 _ E2 R2 p2
        | _ => exact A2.elim
    | _ => exact A1.elim⟩
/-- y = [.. for ..] -/
theorem ms_setT {i : Nat} {s : Stmt} {t : TE} (h : PS X s (tAsg t (gName i))) (w : ∀ σ H Q, rdE X.K W fa σ H Q → t σ H Q) : PS X s (rdS X.K W (sSet i fa)) := PSi h fun D σ H ⟨I, m, l, c, R, L, A⟩ =>
  w σ H _ ⟨I, m, l, c, R, L, After.mono (AfterS.seq (rep := rD X.K) L A) fun v1 H1 ⟨I1, m1, c1, d1, E1, R1, p1, A1⟩ => A1 I1 m1 H1 _ (Ext.refl _ _ _) R1 ((L.ext E1).set i p1)⟩
theorem mts_nil : PTs X [] (rdT X.K W tYesM) := ⟨fun pins s σ H Q J ⟨I, m, l, c, R, L, A⟩ => pts_nil.run pins s σ H Q J (show tYes σ H Q from A.here R rfl)⟩
theorem mts_one {t : MT} (h : PT X c (rdT X.K W t)) : PTs X [c] (rdT X.K W t) := pts_one h
theorem rg_name {K : PySem.W.Frag} {i : Nat} : ∀ v σ H Q, rdG K W (gN i) v σ H Q → gName i v σ H Q := fun v σ H Q ⟨I, m, l, c, d, R, L, p, A⟩ => A.here R (L.set i p)
/-! ### dicts that are written -/
theorem Rel.sideO {K : PySem.W.Frag} {I H : Hp} {m : List Addr} {c : Cs} {p : Addr} {o : HO} (r : Rel K I H m c) (hH : ∀ x, H p ≠ some (.own x)) (hT : Nt H p) (hI : I p = none) (hm : p ∉ m) : Rel K I (upd H p o) m c := by
  refine ⟨fun b u e => ?_, r.len, r.nd, fun k a x h1 h2 => ?_, r.tabs.upH hT⟩
  · rw [upd_ne (ne_of_none e hI)]
    exact r.same _ _ e
  · have na : a ≠ p := fun e => hm (e ▸ List.mem_of_getElem? h1)
    have q := r.cell k a x h1 h2
    cases x with
    | lst es => exact ⟨q.1, q.2.imp fun us z => ⟨by rw [upd_ne na]; exact z.1, z.2⟩⟩
    | dct es => exact ⟨q.1, q.2.imp fun us z => ⟨by rw [upd_ne na]; exact z.1, z.2⟩⟩
    | ins C es =>
      obtain ⟨q1, dx, us, q2, q3, q4, q5, q6⟩ := q
      exact ⟨q1, dx, us, q2, q3, by rw [upd_ne fun e => hH _ (e ▸ q4)]; exact q4, q5.imp fun _ z => ⟨z.1, by rw [upd_ne na]; exact z.2⟩, q6⟩
    | frz d => exact q
theorem me_dict0 : PE X (.Dict [] [] pos) (rdE X.K W (mC (.dct []))) := PEi pe_dnewK fun σ H Q ⟨I, m, l, c, R, L, A⟩ => fun p np => After.new A R np (.dct upd_same .nil)
def mDict1 (k : Key) (a : ME) : ME := fun l c => (a l c).bind fun d c1 => .ok (.dct [(k, d)]) c1
end
/-! ### words for the printed text -/
structure Own (K : PySem.W.Frag) (mg : Str → Option Value) (x : Str) (st : Stmt) (ps : List Str) where
  a : Addr
  fd : FuncData
  mgf : mg x = some (.ref a)
  F : Fun K x x st a fd
  b : Binds K fd ps []
theorem u100 {A : Around} {k : Nat} (hr : Room k A) : A.units + 100 < cLine := by have := hr.un; omega
theorem bt_len : bootBuiltins "len" = some (.builtin "len") := by decide +kernel
theorem bt_isinstance : bootBuiltins "isinstance" = some (.builtin "isinstance") := by decide +kernel
theorem bt_repr : bootBuiltins "repr" = some (.builtin "repr") := by decide +kernel
theorem bt_all : bootBuiltins "all" = some (.builtin "all") := by decide +kernel
theorem bt_max : bootBuiltins "max" = some (.builtin "max") := by decide +kernel
theorem bt_min : bootBuiltins "min" = some (.builtin "min") := by decide +kernel
theorem bt_int : bootBuiltins "int" = some (.type "int") := by decide +kernel
theorem bt_bool : bootBuiltins "bool" = some (.type "bool") := by decide +kernel
theorem bt_str : bootBuiltins "str" = some (.type "str") := by decide +kernel
theorem bt_list : bootBuiltins "list" = some (.type "list") := by decide +kernel
theorem bt_tuple : bootBuiltins "tuple" = some (.type "tuple") := by decide +kernel
end L2.Mi

namespace L2.Mi
open PySem PySem.Spec PyProof.Rows L2

/-! ### match x: case [a, b] if ..: -/
def seqOf (d : D) (c : Cs) : Option (List D) := match d with
  | .lst xs => some xs
  | .tup xs => some xs
  | .ro xs => some xs
  | .ref k => match c[k]? with
    | some (.lst xs) => some xs
    | _ => none
  | _ => none
def notSeq : List String := ["NoneType", "bool", "int", "str", "dict"]
def pairOf (d : D) (c : Cs) : Option (Option (D × D)) := match seqOf d c with
  | some [x, y] => some (some (x, y))
  | some _ => some none
  | none => match tyD d c with
    | some t => if t ∈ notSeq then some none else none
    | none => none
theorem flag_not : ∀ {t : String}, t ∈ notSeq → flagOfType true (.type t) = pure false := by
  intro t h
  simp only [notSeq, List.mem_cons, List.not_mem_nil, or_false] at h
  rcases h with rfl | rfl | rfl | rfl | rfl
  · exact flag_seq_None
  · exact flag_seq_bool
  · exact flag_seq_int
  · exact flag_seq_str
  · exact flag_seq_dict
theorem ty_is {X : Cx} {pins : List (Addr × Obj)} {σ : St} {H : Hp} {s : Shared} {x : V} {u : Value} {t : String} (I : Inv X pins σ H s) (rx : RelV x u) (ty : TyX X.K H x (.type t)) (ht : t ∈ notSeq) : s.TypeIs u t := by
  generalize e : Value.type t = tt at ty
  cases ty with
  | base b =>
    cases b with
    | non => cases e; cases (show u = Value.none from rx); rfl
    | bl y => cases e; cases (show u = Value.bool y from rx); rfl
    | int i => cases e; obtain ⟨t, q⟩ := (show ∃ t, u = Value.int i t from rx); cases q; rfl
    | str y => cases e; obtain ⟨t, q⟩ := (show ∃ t, u = Value.str y t from rx); cases q; rfl
    | dK ea => 
      cases e
      cases (show u = Value.ref _ from rx)
      obtain ⟨_, _, vs, _, o, es, ep, h1, h2, _⟩ := (show ObjOk X.prog X.w H s.heap _ (.dK _) from I.hok _ _ ea)
      exact ⟨o, h1, h2.1⟩
    | dT ea =>
      cases e
      cases (show u = Value.ref _ from rx)
      obtain ⟨_, _, xs, _, o, es, ep, h1, h2, _⟩ := (show ObjOk X.prog X.w H s.heap _ (.dT _) from I.hok _ _ ea)
      exact ⟨o, h1, h2.1⟩
    | flt y => cases e; simp [notSeq] at ht
    | lst ea => cases e; simp [notSeq] at ht
    | frz ea => cases e; simp [notSeq] at ht
    | tup ea => cases e; simp [notSeq] at ht
    | ins => cases e
  | kDict e1 c => cases e; cases (show u = Value.ref _ from rx); exact ⟨_, I.kIn _ _ e1, c⟩
  | fDict ea =>
    cases e
    cases (show u = Value.ref _ from rx)
    obtain ⟨_, _, _, vs, _, o, es, ep, h1, h2, _⟩ := (show ObjOk X.prog X.w H s.heap _ (.frz _ (.dK _)) from I.hok _ _ ea)
    exact ⟨o, h1, h2.1⟩
  | _ => cases e; simp [notSeq] at ht
section
variable {prog : Program} {w : World} {A : Around} {E : Value → Shared → Prop} {s : Shared}
theorem unpackItems_list {t : Addr} {items : Array Value} {Q : List Value → Shared → Prop} (hh : A.handled = none) (ht : s.heap.IsList t items)
    (hQ : ∀ h', Heap.ExtBut s.heap.objs.size s.heap h' → Q items.toList { s with heap := h' }) : wpAny (model prog w) A (unpackItems (.ref t) items.size none) Q E s := by
  have hlt : t ≠ s.heap.objs.size := by obtain ⟨o, ho, _⟩ := ht; exact Nat.ne_of_lt (Heap.lt_size ho)
  unfold unpackItems
  refine wpAny_bind ?_
  · unfold notIterableAtAll
    refine wpAny_bind (wpAny_specialOf ht.typeIs slot_list_iter.lookup ?_)
    refine wpAny_pure ?_
    simp only [Bool.false_eq_true, if_false]
    refine wpAny_bind (wpAny_holding (wpAny_pyIter_list ht ?_))
    refine wpAny_bind (wpAny_holding (PySem.W.kun_draw hlt items.size 0 _ _ ⟨_, Heap.get?_push_size _ rfl, rfl, rfl⟩ (ht.push _) (by omega) fun h₁ hit₁ hs₁ => ?_))
    have hall : List.take items.size (List.drop 0 items.toList) = items.toList := by
      rw [List.drop_zero]; exact List.take_of_length_le (by simp)
    rw [hall]
    rw [if_neg (by simp)]
    have ht₁ : h₁.IsList t items := (ht.push _).extBut hs₁.extBut hlt
    refine wpAny_bind (wpAny_holding (wpAny_pyNext_list_end hh hit₁ ht₁ (by simp) fun h₂ he₂ => ?_))
    simp only [Option.isSome_none, Bool.false_eq_true, if_false]
    refine wpAny_pure (hQ h₂ fun b o hb e => he₂ b o hb (hs₁.extBut b o hb (Heap.get?_push_of_some _ e)))
end
/-- what a match with one case [a, b] asks -/
def tMatch2 (K : PySem.W.Frag) (te : TE) (i j : Nat) (tg : TT) (tb : TS) : TS := fun D σ H => te σ H fun x H1 =>
  (∃ a xs, x = .ref a ∧ (SqL K H1 a xs ∨ SqT K H1 a xs) ∧ (xs.length ≠ 2 → D.nx σ H1) ∧ ∀ y z, xs = [y, z] → tg ((σ.set i (some y)).set j (some z)) H1 fun b H2 => match b with
    | true => tb D ((σ.set i (some y)).set j (some z)) H2
    | false => D.nx ((σ.set i (some y)).set j (some z)) H2) ∨
  ∃ t, TyX K H1 x (.type t) ∧ t ∈ notSeq ∧ D.nx σ H1
theorem ps_match2 {X : Cx} {e g : Expr} {body : List Stmt} {n1 n2 : Str} {p0 p1 p2 p3 : Pos} {i j : Nat} {te : TE} {tg : TT} {tb : TS} (hN : X.N.Nodup) (hi : X.N[i]? = some n1) (hj : X.N[j]? = some n2)
    (hx : Loc X.env.scope n1) (hy : Loc X.env.scope n2) (hc : X.calm = true) (he : PE X e te) (hg : PT X g tg) (hb : PSs X body tb)
    (hf1 : X.fn n1 = true ∨ X.env.scope.names.lookup n1 = some .local := by first | exact .inl rfl | exact .inr rfl | assumption)
    (hf2 : X.fn n2 = true ∨ X.env.scope.names.lookup n2 = some .local := by first | exact .inl rfl | exact .inr rfl | assumption) :
    PS X (.Match e [⟨.MatchSequence [.MatchAs none (some n1) p1, .MatchAs none (some n2) p2] p3, some g, body⟩] p0) (tMatch2 X.K te i j tg tb) := by
  refine ⟨fun pins s σ H D I h => ?_⟩
  refine wpAny_Match (thn (he.run pins s σ H _ I h) fun v s1 ⟨x, H1, I1, r1, q1⟩ => ?_)
  refine wpAny_matchCases_cons ?_
  rcases q1 with ⟨a, xs, rfl, hs, hn, hq⟩ | ⟨t, ty, ht, q⟩
  · cases (show v = Value.ref a from r1)
    have go : ∀ (s2 : Shared) (its : List Value), Vals xs its → xs.length = 2 → Inv X pins σ H1 s2 →
        wpAny (model X.prog X.w) X.A (matchEach [.MatchAs none (some n1) p1, .MatchAs none (some n2) p2] X.env its) (fun r s₁ => match r with
          | none => wpAny (model X.prog X.w) X.A (matchCases [] X.env (.ref a) false) (SP X pins D) X.xe s₁
          | some bs => wpAny (model X.prog X.w) X.A (assignInOrder (bs.map fun (n, _) => bindName X.env n) (bs.map (·.2))) (fun _ s₂ =>
              match some g with
              | none => wpAny (model X.prog X.w) X.A (execs body X.env) (SP X pins D) X.xe s₂
              | some g => wpAny (model X.prog X.w) X.A (isTrue g X.env (eval g X.env))
                  (fun ok s₃ => if ok then wpAny (model X.prog X.w) X.A (execs body X.env) (SP X pins D) X.xe s₃ else wpAny (model X.prog X.w) X.A (matchCases [] X.env (.ref a) false) (SP X pins D) X.xe s₃) X.xe s₂) X.xe s₁) X.xe s2 := by
      intro s2 its rv hl I2
      obtain ⟨y, z, rfl⟩ : ∃ y z, xs = [y, z] := by
        match xs, hl with
        | [y, z], _ => exact ⟨y, z, rfl⟩
      obtain ⟨u1, u2, rfl, r1, r2⟩ := vals2 rv
      refine wpAny_matchEach_cons (wpAny_matchPattern_Capture ?_)
      refine wpAny_matchEach_cons (wpAny_matchPattern_Capture ?_)
      refine wpAny_matchEach_nil ?_
      show wpAny _ _ (assignInOrder [bindName X.env n1, bindName X.env n2] [u1, u2]) _ _ _
      refine wpAny_assignInOrder_more (wpAny_bindName (store_ok I2 hN hi hx r1 (fun s3 I3 => ?_) hf1))
      refine wpAny_assignInOrder_more (wpAny_bindName (store_ok I3 hN hj hy r2 (fun s4 I4 => ?_) hf2))
      refine wpAny_assignInOrder_none ?_
      refine thn (hg.run pins s4 _ H1 _ I4 (hq y z rfl)) fun b s5 ⟨H5, I5, q5⟩ => ?_
      cases b with
      | true => exact hb.run pins s5 _ H5 D I5 q5
      | false => exact wpAny_matchCases_nil ⟨_, H5, I5, q5⟩
    rcases hs with hs | hs
    · obtain ⟨its, rv, pl, hz⟩ := I1.list hs
      have hf : ((its.toArray.size : Nat) : Int) < 2 ^ 63 := by
        have := rv.length
        rw [sizeLine_eq] at hz
        simp only [List.size_toArray]
        omega
      by_cases hl : xs.length = 2
      · refine matchSeq_list_hit pl.isList hf (by simp [← rv.length, hl]) ?_
        have e2 : ([Pattern.MatchAs none (some n1) p1, .MatchAs none (some n2) p2] : List Pattern).length = its.toArray.size := by simp [← rv.length, hl]
        rw [e2]
        refine unpackItems_list (I1.ok.hd hc) pl.isList fun h' hx' => ?_
        refine go _ _ (by simpa using rv) hl ?_
        exact I1.kept (t' := s1.toks + 1 + 1) fun b o e => hx' b o (Nat.ne_of_lt (Heap.lt_size e)) e
      · refine matchSeq_list_miss pl.isList hf (by simp [← rv.length, hl]) ?_
        exact wpAny_matchCases_nil ⟨_, _, I1.tok _, hn hl⟩
    · obtain ⟨its, rv, pl, hz⟩ := I1.tuple hs
      have hf : ((its.toArray.size : Nat) : Int) < 2 ^ 63 := by
        have := rv.length
        rw [sizeLine_eq] at hz
        simp only [List.size_toArray]
        omega
      by_cases hl : xs.length = 2
      · refine matchSeq_tuple_hit pl hf (by simp [← rv.length, hl]) ?_
        have e2 : ([Pattern.MatchAs none (some n1) p1, .MatchAs none (some n2) p2] : List Pattern).length = its.toArray.size := by simp [← rv.length, hl]
        rw [e2]
        refine unpackItems_tuple (I1.ok.hd hc) pl fun h' hx' => ?_
        refine go _ _ (by simpa using rv) hl ?_
        exact I1.kept (t' := s1.toks + 1 + 1) fun b o e => hx' b o (Nat.ne_of_lt (Heap.lt_size e)) e
      · refine matchSeq_tuple_miss pl hf (by simp [← rv.length, hl]) ?_
        exact wpAny_matchCases_nil ⟨_, _, I1.tok _, hn hl⟩
  · refine wpAny_matchPattern_Sequence (wpAny_collectionFlag (ty_is I1 r1 ty ht) (flag_not ht) ?_)
    exact wpAny_matchCases_nil ⟨_, _, I1, q⟩
def sMatch2 (fe : ME) (i j : Nat) (tg : MT) (f : MS) : MS := fun l c => (fe l c).seq l fun d c1 => match pairOf d c1 with
  | none => .stuck
  | some none => .go (.nx l) c1
  | some (some (x, y)) => (tg ((l.set i (some x)).set j (some y)) c1).seq ((l.set i (some x)).set j (some y)) fun b c2 => match b with
    | true => f ((l.set i (some x)).set j (some y)) c2
    | false => .go (.nx ((l.set i (some x)).set j (some y))) c2
theorem seq_at {K : PySem.W.Frag} {I H : Hp} {m : List Addr} {c : Cs} {v : V} {d : D} {ds : List D} (R : Rel K I H m c) (p : Rep K I m v d) (h : seqOf d c = some ds) : ∃ a xs, v = .ref a ∧ (SqL K H a xs ∨ SqT K H a xs) ∧ Reps K I m xs ds := by
  cases p with
  | lst q r => cases h; exact ⟨_, _, rfl, .inl (R.same.seq (.inl (.inl q))), r⟩
  | ro q r => cases h; exact ⟨_, _, rfl, .inl (R.same.seq q), r⟩
  | tup q r => cases h; exact ⟨_, _, rfl, .inr (sqT_same R.same q), r⟩
  | @ref k a q =>
    have h : (match c[k]? with
      | some (.lst xs) => some xs
      | _ => none) = some ds := h
    cases e : c[k]? with
    | none => rw [e] at h; cases h
    | some x =>
      rw [e] at h
      cases x with
      | lst es =>
        cases h
        obtain ⟨_, vs, h1, h2⟩ := R.cell k a _ q e
        exact ⟨a, vs, rfl, .inl (.inl (.inl h1)), h2⟩
      | _ => cases h
  | _ => cases h
theorem ms_match2 {X : Cx} {W : WX} {e g : Expr} {body : List Stmt} {n1 n2 : Str} {p0 p1 p2 p3 : Pos} {i j : Nat} {fe : ME} {tg : MT} {f : MS} (hN : X.N.Nodup) (hi : X.N[i]? = some n1) (hj : X.N[j]? = some n2)
    (hx : Loc X.env.scope n1) (hy : Loc X.env.scope n2) (hc : X.calm = true) (he : PE X e (rdE X.K W fe)) (hg : PT X g (rdT X.K W tg)) (hb : PSs X body (rdS X.K W f))
    (hf1 : X.fn n1 = true ∨ X.env.scope.names.lookup n1 = some .local := by first | exact .inl rfl | exact .inr rfl | assumption)
    (hf2 : X.fn n2 = true ∨ X.env.scope.names.lookup n2 = some .local := by first | exact .inl rfl | exact .inr rfl | assumption) :
    PS X (.Match e [⟨.MatchSequence [.MatchAs none (some n1) p1, .MatchAs none (some n2) p2] p3, some g, body⟩] p0) (rdS X.K W (sMatch2 fe i j tg f)) :=
  PSi (ps_match2 hN hi hj hx hy hc he hg hb hf1 hf2) fun D σ H ⟨I, m, l, c, R, L, A⟩ =>
    ⟨I, m, l, c, R, L, After.mono (AfterS.seq (rep := rD X.K) L A) fun v1 H1 ⟨I1, m1, c1, d1, E1, R1, p1, A1⟩ => by
      have L1 := L.ext E1
      have A1 : AfterS X.K I1 m1 H1 W D (match pairOf d1 c1 with
        | none => .stuck
        | some none => .go (.nx l) c1
        | some (some (x, y)) => (tg ((l.set i (some x)).set j (some y)) c1).seq ((l.set i (some x)).set j (some y)) fun b c2 => match b with
          | true => f ((l.set i (some x)).set j (some y)) c2
          | false => .go (.nx ((l.set i (some x)).set j (some y))) c2) := A1
      cases hs : seqOf d1 c1 with
      | some ds =>
        obtain ⟨a, xs, rfl, h1, h2⟩ := seq_at R1 p1 hs
        refine .inl ⟨a, xs, rfl, h1, fun hl => ?_, fun y z e => ?_⟩
        · have hp : pairOf d1 c1 = some none := by
            unfold pairOf
            rw [hs]
            match ds, h2.length with
            | [], _ => rfl
            | [_], _ => rfl
            | [_, _], e => exact absurd e hl
            | _ :: _ :: _ :: _, _ => rfl
          rw [hp] at A1
          exact A1 I1 m1 H1 σ (Ext.refl _ _ _) R1 L1
        · subst e
          cases h2 with
          | @cons v1 vs1 dy ds1 hy1 ht1 =>
          cases ht1 with
          | @cons v2 vs2 dz ds2 hz1 ht2 =>
          cases ht2
          have hp : pairOf d1 c1 = some (some (dy, dz)) := by unfold pairOf; rw [hs]
          rw [hp] at A1
          have L2 := (L1.set i hy1).set j hz1
          refine ⟨I1, m1, _, c1, R1, L2, After.mono (AfterS.seq (rep := rB) L2 A1) fun b H2 ⟨I2, m2, c2, b2, E2, R2, p2, A2⟩ => ?_⟩
          cases (show b = b2 from p2)
          cases b with
          | true => exact ⟨I2, m2, _, c2, R2, L2.ext E2, A2⟩
          | false => exact A2 I2 m2 H2 _ (Ext.refl _ _ _) R2 (L2.ext E2)
      | none =>
        cases ht : tyD d1 c1 with
        | none =>
          have hp : pairOf d1 c1 = none := by unfold pairOf; rw [hs]; simp only [ht]
          rw [hp] at A1
          exact A1.elim
        | some t =>
          by_cases hm : t ∈ notSeq
          · have hp : pairOf d1 c1 = some none := by unfold pairOf; rw [hs]; simp only [ht, if_pos hm]
            rw [hp] at A1
            exact .inr ⟨t, tyD_is R1 p1 ht, hm, A1 I1 m1 H1 σ (Ext.refl _ _ _) R1 L1⟩
          · have hp : pairOf d1 c1 = none := by unfold pairOf; rw [hs]; simp only [ht, if_neg hm]
            rw [hp] at A1
            exact A1.elim⟩
end L2.Mi

namespace L2.Mi
open PySem PySem.Spec PyProof.Rows L2

section
variable {K : PySem.W.Frag}
/-! ### tuple(x), list(x), int(x), str(n), bool(x) -/
def lstOf (d : D) (c : Cs) : Option (List D) := match d with
  | .lst xs => some xs
  | .ro xs => some xs
  | .ref k => match c[k]? with
    | some (.lst xs) => some xs
    | _ => none
  | _ => none
theorem lst_at {I H : Hp} {m : List Addr} {c : Cs} {v : V} {d : D} {ds : List D} (R : Rel K I H m c) (p : Rep K I m v d) (h : lstOf d c = some ds) : ∃ a xs, v = .ref a ∧ SqL K H a xs ∧ Reps K I m xs ds := by
  cases p with
  | lst q r => cases h; exact ⟨_, _, rfl, R.same.seq (.inl (.inl q)), r⟩
  | ro q r => cases h; exact ⟨_, _, rfl, R.same.seq q, r⟩
  | @ref k a q =>
    have h : (match c[k]? with
      | some (.lst xs) => some xs
      | _ => none) = some ds := h
    cases e : c[k]? with
    | none => rw [e] at h; cases h
    | some x =>
      rw [e] at h
      cases x with
      | lst es =>
        cases h
        obtain ⟨_, vs, h1, h2⟩ := R.cell k a _ q e
        exact ⟨a, vs, rfl, .inl (.inl h1), h2⟩
      | _ => cases h
  | _ => cases h
/-- list(x), a new list that stays as it is -/
def listP (d : D) (c : Cs) : R D := match seqOf d c with
  | some xs => .ok (.lst xs) c
  | none => .stuck
def listD : List D → Cs → R D := on1 listP
abbrev rList (K : PySem.W.Frag) : List V → Hp → VK → Prop := fun xs H Q => ∃ p ys, xs = [.ref p] ∧ (SqL K H p ys ∨ SqT K H p ys) ∧ ∀ l, H l = none → Q (.ref l) (upd H l (.lst ys))
theorem cs_list : CallS K (rList K) listD := fun I H m c vs ds W Q R p A => by
  obtain ⟨v, d, rfl, rfl, pd, A⟩ := on1_arg p A
  have A2 : After (rD K) K I m H W Q (match seqOf d c with
    | some xs => .ok (.lst xs) c
    | none => .stuck) := A
  cases e : seqOf d c with
  | none => rw [e] at A2; exact A2.elim
  | some xs =>
    rw [e] at A2
    obtain ⟨a, ys, rfl, h1, h2⟩ := seq_at R pd e
    exact ⟨a, ys, rfl, h1, fun l nl => A2.new R nl (.lst upd_same (h2.mono (same_upd R.same nl) (Pre.refl _)))⟩
def intP (d : D) (c : Cs) : R D := match d with
  | .int i => .ok (.int i) c
  | .bl k => .ok (.int (if k then 1 else 0)) c
  | .str a => match PySem.intText? a with
    | some n => if a.length ≤ 640 then .ok (.int n) c else .stuck
    | none => .stuck
  | _ => .stuck
def intFD : List D → Cs → R D := on1 intP
def rIntF : List V → Hp → VK → Prop := fun xs H Q => ((∃ i, xs = [.int i] ∧ Q (.int i) H) ∨ ∃ k, xs = [.bl k] ∧ Q (.int (if k then 1 else 0)) H) ∨ ∃ a n, xs = [.str a] ∧ PySem.intText? a = some n ∧ a.length ≤ 640 ∧ Q (.int n) H
theorem call_intF {X : Cx} : CallR X (.type "int") rIntF := call_int1.or call_int_str
theorem cs_intF : CallS K rIntF intFD := fun I H m c vs ds W Q R p A => by
  obtain ⟨v, d, rfl, rfl, pd, A⟩ := on1_arg p A
  cases pd with
  | int i => exact .inl (.inl ⟨i, rfl, A.here R (.int i)⟩)
  | bl k => exact .inl (.inr ⟨k, rfl, A.here R (.int _)⟩)
  | str a =>
    have A2 : After (rD K) K I m H W Q (match PySem.intText? a with
      | some n => if a.length ≤ 640 then .ok (.int n) c else .stuck
      | none => .stuck) := A
    cases e : PySem.intText? a with
    | none => rw [e] at A2; exact A2.elim
    | some n =>
      rw [e] at A2
      by_cases hl : a.length ≤ 640
      · have A3 : After (rD K) K I m H W Q (if a.length ≤ 640 then .ok (.int n) c else .stuck) := A2
        rw [if_pos hl] at A3
        exact .inr ⟨a, n, rfl, e, hl, A3.here R (.int n)⟩
      · have A3 : After (rD K) K I m H W Q (if a.length ≤ 640 then .ok (.int n) c else .stuck) := A2
        rw [if_neg hl] at A3
        exact A3.elim
  | _ => exact A.elim
def strP (d : D) (c : Cs) : R D := match d with
  | .int i => if i.natAbs.log2 < 1920 then .ok (.str (toString i)) c else .stuck
  | _ => .stuck
def strFD : List D → Cs → R D := on1 strP
abbrev rStrF : List V → Hp → VK → Prop := fun xs H Q => ∃ i, xs = [.int i] ∧ i.natAbs.log2 < 1920 ∧ Q (.str (toString i)) H
theorem cs_strF : CallS K rStrF strFD := fun I H m c vs ds W Q R p A => by
  obtain ⟨v, d, rfl, rfl, pd, A⟩ := on1_arg p A
  cases pd with
  | int i =>
    have A2 : After (rD K) K I m H W Q (if i.natAbs.log2 < 1920 then .ok (.str (toString i)) c else .stuck) := A
    by_cases hl : i.natAbs.log2 < 1920
    · rw [if_pos hl] at A2
      exact ⟨i, rfl, hl, A2.here R (.str _)⟩
    · rw [if_neg hl] at A2
      exact A2.elim
  | _ => exact A.elim
end
/-! ### what stands at the module's top -/
section
variable {X : Cx} {W : WX} {pos : Pos} {x : Str}
def IsC (K : PySem.W.Frag) (mg : Str → Option Value) (x : Str) (d : D) : Prop := ∃ u v, mg x = some u ∧ RelV v u ∧ ∀ I m, Rep K I m v d
theorem me_const {d : D} (hg : Gl X x) (h : IsC X.K X.mg x d) (hd : (x == ("__debug__" : Str)) = false := by decide) : PE X (.Name x pos) (rdE X.K W (mC d)) := by
  obtain ⟨u, v, h1, h2, h3⟩ := h
  exact me_c (pe_glob hg h1 h2 hd) h3
theorem isc_str {K : PySem.W.Frag} {mg : Str → Option Value} {i : Str} {t : Tok} (h : mg x = some (.str i t)) : IsC K mg x (.str i) := ⟨_, .str i, h, ⟨_, rfl⟩, fun _ _ => .str i⟩
/-- a tuple of the written part, and what stands in it -/
inductive KV' (K : PySem.W.Frag) : Value → D → Prop where
  | int (i : Int) (t : Tok) : KV' K (.int i t) (.int i)
  | str (i : Str) (t : Tok) : KV' K (.str i t) (.str i)
theorem KV'.get {K : PySem.W.Frag} {u : Value} {d : D} (h : KV' K u d) : ∃ v, RelV v u ∧ ∀ I m, Rep K I m v d := by
  cases h with
  | int i t => exact ⟨.int i, ⟨_, rfl⟩, fun _ _ => .int i⟩
  | str i t => exact ⟨.str i, ⟨_, rfl⟩, fun _ _ => .str i⟩
theorem kvs_get {K : PySem.W.Frag} : ∀ {us : List Value} {ds : List D}, Paired (KV' K) us ds → ∃ vs, Vals vs us ∧ ∀ I m, Reps K I m vs ds
  | _, _, .nil => ⟨[], .nil, fun _ _ => .nil⟩
  | _, _, .cons h t => by
    obtain ⟨v, h1, h2⟩ := h.get
    obtain ⟨vs, t1, t2⟩ := kvs_get t
    exact ⟨v :: vs, .cons h1 t1, fun I m => .cons (h2 I m) (t2 I m)⟩
theorem isc_tup {K : PySem.W.Frag} {mg : Str → Option Value} {a : Addr} {od : Option Addr} {its : Array Value} {n : Nat} {sl : Array (Option Value)} {ds : List D} (h : mg x = some (.ref a)) (hl : K.lookup a = some ⟨.type "tuple", od, .seq its n, sl⟩) (hz : its.size ≤ sizeLine)
    (hp : Paired (KV' K) its.toList ds) : IsC K mg x (.tup ds) := by
  obtain ⟨vs, r1, r2⟩ := kvs_get hp
  exact ⟨_, .ref a, h, rfl, fun I m => .tup (.inr ⟨_, its, n, hl, rfl, rfl, hz, r1⟩) (r2 I m)⟩
end
end L2.Mi

namespace L2.Mi
open PySem PySem.Spec PyProof.Rows L2 PySem.SeqAt PySem.AutoSeq1

/-! ### a dict and a text are never equal -/
theorem str_eq_declines_dict (b : Str) (u : Tok) (l : Addr) (c : Value) (es : Array DictEntry) (n : Nat) (dd : Option Addr) (sl : Array (Option Value)) :
    Meets (Builtin.«str.__eq__» ⟨[.str b u, .ref l], []⟩) (fun _ R s => s.heap.get? l = some { cls := c, dict := dd, data := .dict es n, slots := sl } ∧ R (.ok (.ret .notImplemented)) s) :=
  .of_wp fun prog w A R s h => by obtain ⟨hp, g, d, tk, os⟩ := s; obtain ⟨hl, h⟩ := h; wp_walk using wpAny_loadPart' hl, wpAny_load hl; exact ⟨_, rfl, h⟩
theorem rc_dict_str {prog : Program} {w : World} {A : Around} {E Q : Value → Shared → Prop} {s : Shared} {l : Addr} {es : Array DictEntry} {n : Nat} {dd : Option Addr} {sl : Array (Option Value)} (b : Str) (u : Tok)
    (ho : s.heap.get? l = some { cls := .type "dict", dict := dd, data := .dict es n, slots := sl }) (hu : A.units < cLine) (h : Q (.bool false) s) : wpAny (model prog w) A (richCompare .Eq (.ref l) (.str b u)) Q E s := by
  have tl : s.TypeIs (.ref l) "dict" := ⟨_, ho, rfl⟩
  refine rc_eq_decline_or (k := false) tl (typeIs_str s b u) (by decide) F.sub_str_dict F.slot_dict_eq F.slot_str_eq_refl
    (fun Q' hq => wpAny_call_entry F.slot_dict_eq tl F.entry_dict_eq ?_ (F.args_dict_eq_2 _ _))
    (fun _ hq => call_meets F.slot_str_eq_refl (typeIs_str s b u) F.entry_str_eq (F.args_str_eq_2 _ _) (str_eq_declines_dict b u l (.type "dict") es n dd sl) ⟨ho, hq⟩)
    (fun _ hq => wpAny_of_eq (rfl : isSame (.ref l) (.str b u) = pure false) hq) (.inr hu) h
  show wpAny _ _ (Builtin.Dict.dictSlotArgs "__eq__" ⟨[.ref l, .str b u], []⟩ >>= _) _ _ s
  refine wpAny_bind ?_
  unfold Builtin.Dict.dictSlotArgs
  refine wpAny_bind (wpAny_notOrdered_dict tl ?_)
  show wpAny _ _ (pure (Value.ref l, Value.str b u)) _ _ s
  refine wpAny_pure ?_
  refine wpAny_bind (wpAny_isInstance (T := "str") (typeIs_str s b u) F.sub_str_dict ?_)
  simp only [Bool.not_false, if_true]
  exact wpAny_bind (wpAny_rule (wpAny_pure ⟨_, rfl, hq⟩))
def rDs : R2 := fun x y H Q => ∃ a kvs b, x = .ref a ∧ H a = some (.dK kvs) ∧ y = .str b ∧ Q (.bl false) H
theorem op_ds {X : Cx} (hu : X.A.units + 64 < cLine) : OpR X (compareOp .Eq) rDs := by
  intro pins s σ H x y v u Q I rx ry h
  obtain ⟨a, kvs, b, rfl, ha, rfl, q⟩ := h
  cases (show v = Value.ref a from rx)
  obtain ⟨t, rfl⟩ := ry
  obtain ⟨_, _, vs, _, ⟨cls, dd, data, sl⟩, es, ep, h1, h2, h3, _⟩ := (show ObjOk X.prog X.w H s.heap a (.dK kvs) from I.hok a _ ha)
  have h2 := h2.1
  simp only at h2 h3
  subst h2 h3
  exact rc_dict_str b t h1 (by omega) ⟨.bl false, H, I, rfl, q⟩
section
variable {K : PySem.W.Frag}
def rEqB (K : PySem.W.Frag) : R2 := fun x y H Q => rEqA K x y H Q ∨ rDs x y H Q
theorem op_eqB {X : Cx} (hu : X.A.units + 64 < cLine) : OpR X (compareOp .Eq) (rEqB X.K) := (op_eqA hu).or (op_ds hu)
def eqE : D → D → Cs → R D
  | .dct _, .str _, c => .ok (.bl false) c
  | d, e, c => eqD d e c
theorem os_eqE : OpS K (rEqB K) eqE := fun I H m c v1 v2 d1 d2 W Q R p1 p2 A => by
  have gen : After (rD K) K I m H W Q (eqD d1 d2 c) → rEqB K v1 v2 H Q := fun A => .inl (os_eq I H m c v1 v2 d1 d2 W Q R p1 p2 A)
  cases p1 with
  | dct h r => cases p2 with
    | str s => exact .inr ⟨_, _, s, rfl, R.same _ _ h, rfl, A.here R (.bl _)⟩
    | _ => exact gen A
  | _ => exact gen A
end
end L2.Mi

namespace L2.Mi
open PySem PySem.Spec PyProof.Rows L2

/-! ### data with dicts, read and shown -/
def kP : Key → PyData
  | .inl i => .int i
  | .inr s => .str s
mutual
inductive Rx (h : Heap) : Value → PyData → Prop
  | non : Rx h .none .none
  | bl (b : Bool) : Rx h (.bool b) (.bool b)
  | int (i : Int) (t : Tok) : Rx h (.int i t) (.int i)
  | str (x : Str) (t : Tok) : Rx h (.str x t) (.str x)
  | lst {a : Addr} {o : Obj} {vs : Array Value} {n : Nat} {xs : List PyData} (h1 : h.get? a = some o) (h2 : o.cls = .type "list") (h3 : o.data = .seq vs n) (h4 : Rxs h vs.toList xs) : Rx h (.ref a) (.list xs)
  | tup {a : Addr} {o : Obj} {vs : Array Value} {n : Nat} {xs : List PyData} (h1 : h.get? a = some o) (h2 : o.cls = .type "tuple") (h3 : o.data = .seq vs n) (h4 : Rxs h vs.toList xs) : Rx h (.ref a) (.tuple xs)
  | dct {a : Addr} {o : Obj} {es : Array DictEntry} {n : Nat} {kvs : List (PyData × PyData)} (h1 : h.get? a = some o) (h2 : o.cls = .type "dict") (h3 : o.data = .dict es n) (hs : (a == sysModules) = false)
      (h4 : Rxs h (es.toList.map (·.key)) (kvs.map (·.1))) (h5 : Rxs h (es.toList.map (·.val)) (kvs.map (·.2))) : Rx h (.ref a) (.dict kvs)
inductive Rxs (h : Heap) : List Value → List PyData → Prop
  | nil : Rxs h [] []
  | cons {v : Value} {vs : List Value} {d : PyData} {ds : List PyData} (r : Rx h v d) (t : Rxs h vs ds) : Rxs h (v :: vs) (d :: ds)
end
mutual
theorem Rx.reads {h : Heap} : ∀ {v : Value} {d : PyData}, Rx h v d → ∃ as, Reads h v d as
  | _, _, .non => ⟨_, .none⟩
  | _, _, .bl b => ⟨_, .bool b⟩
  | _, _, .int i t => ⟨_, .int i t⟩
  | _, _, .str x t => ⟨_, .str x t⟩
  | _, _, .lst h1 h2 h3 h4 => let ⟨_, r⟩ := Rxs.reads h4; ⟨_, .list h1 h2 h3 r⟩
  | _, _, .tup h1 h2 h3 h4 => let ⟨_, r⟩ := Rxs.reads h4; ⟨_, .tuple h1 h2 h3 r⟩
  | _, _, .dct h1 h2 h3 _ h4 h5 => let ⟨_, r⟩ := Rxs.reads h4; let ⟨_, q⟩ := Rxs.reads h5; ⟨_, .dict h1 h2 h3 r q⟩
theorem Rxs.reads {h : Heap} : ∀ {v : List Value} {d : List PyData}, Rxs h v d → ∃ as, ReadsAll h v d as
  | _, _, .nil => ⟨_, .nil⟩
  | _, _, .cons r t => let ⟨_, r⟩ := Rx.reads r; let ⟨_, q⟩ := Rxs.reads t; ⟨_, .cons r q⟩
end
theorem Rxs.length {h : Heap} : ∀ {v : List Value} {d : List PyData}, Rxs h v d → v.length = d.length
  | _, _, .nil => rfl
  | _, _, .cons _ t => congrArg (· + 1) t.length
section
variable {P : Program} {w : World} {h : Heap}
def Shw (P : Program) (w : World) (h : Heap) (n : Nat) (v : Value) (t : Str) : Prop := ∃ bs, ReadAtMost h n bs ∧ ReprK P w bs h n v t
def Shws (P : Program) (w : World) (h : Heap) (n : Nat) (vs : List Value) (ts : List Str) : Prop := ∃ bs, ReadAtMost h n bs ∧ ReprAllK P w bs h n vs ts
theorem Shws.cons {n m : Nat} {v : Value} {vs : List Value} {t : Str} {ts : List Str} (a : Shw P w h n v t) (b : Shws P w h m vs ts) : Shws P w h (max n m) (v :: vs) (t :: ts) := by
  obtain ⟨b1, r1, k1⟩ := a
  obtain ⟨b2, r2, k2⟩ := b
  refine ⟨b1 ++ b2, (r1.mono (Nat.le_max_left _ _)).append (r2.mono (Nat.le_max_right _ _)), ?_⟩
  exact .cons ((k1.more fun b hb => List.mem_append_left _ hb).level_le (Nat.le_max_left _ _)) (k2.more_le (fun b hb => List.mem_append_right _ hb) (Nat.le_max_right _ _))
/-- a dict's parts: its entries as they are shown, and that it does not stand in itself -/
theorem shw_dct {a : Addr} {o : Obj} {es : Array DictEntry} {n : Nat} {kvs : List (PyData × PyData)} (r : Rx h (.ref a) (.dict kvs)) (h3 : o.data = .dict es n) (k1 : Shws P w h (PyData.depthAll (kvs.map (·.1))) (es.toList.map (·.key)) (PyData.shownAll (kvs.map (·.1))))
    (k2 : Shws P w h (PyData.depthAll (kvs.map (·.2))) (es.toList.map (·.val)) (PyData.shownAll (kvs.map (·.2)))) :
    ∃ bs, ReadAtMost h (PyData.depthKv kvs) bs ∧ a ∉ bs ∧ ReprEntriesK P w bs h (PyData.depthKv kvs) es.toList (PyData.shownKv kvs) := by
  obtain ⟨b1, r1, k1⟩ := k1
  obtain ⟨b2, r2, k2⟩ := k2
  have hb := (r1.mono (PyData.depthAll_keys_le kvs)).append (r2.mono (PyData.depthAll_vals_le kvs))
  obtain ⟨as, rr⟩ := r.reads
  refine ⟨b1 ++ b2, hb, not_mem_of_deeper rr (by simp only [PyData.depth]; omega) hb, ?_⟩
  rw [PyData.shownKv_eq]
  exact ReprEntriesK.of_two _ _ _ (k1.more_le (fun b hb => List.mem_append_left _ hb) (PyData.depthAll_keys_le kvs)) (k2.more_le (fun b hb => List.mem_append_right _ hb) (PyData.depthAll_vals_le kvs))
theorem shw_seq {a : Addr} {xs : List PyData} {d : PyData} {vs : List Value} (r : Rx h (.ref a) d) (hd : d.depth = PyData.depthAll xs + 1) (k : Shws P w h (PyData.depthAll xs) vs (PyData.shownAll xs)) :
    ∃ bs, ReadAtMost h (PyData.depthAll xs) bs ∧ a ∉ bs ∧ ReprAllK P w bs h (PyData.depthAll xs) vs (PyData.shownAll xs) := by
  obtain ⟨bs, hb, hk⟩ := k
  obtain ⟨as, rr⟩ := r.reads
  exact ⟨bs, hb, not_mem_of_deeper rr (by rw [hd]; omega) hb, hk⟩
mutual
theorem Rx.shw : ∀ {v : Value} {d : PyData}, Rx h v d → d.showable = true → d.shown.length ≤ sizeLine → Shw P w h d.depth v d.shown
  | _, _, .non, _, _ => ⟨[], (fun _ h => nomatch h), by simp only [PyData.shown]; exact .of_is ReprIs.none _ _ _⟩
  | _, _, .bl b, _, _ => ⟨[], (fun _ h => nomatch h), by simp only [PyData.shown]; exact .of_is (ReprIs.bool b) _ _ _⟩
  | _, _, .int i t, hs, _ => ⟨[], (fun _ h => nomatch h), by simp only [PyData.shown]; exact .of_is (ReprIs.int t (by simpa [PyData.showable] using hs)) _ _ _⟩
  | _, _, .str x t, _, hz => ⟨[], (fun _ h => nomatch h), by simp only [PyData.shown]; exact .of_is (ReprIs.str x t (by simpa only [PyData.shown] using hz)) _ _ _⟩
  | _, _, .lst (a := a) (vs := vs) (xs := xs) h1 h2 h3 h4, hs, hz => by
    have hz' : (listText (PyData.shownAll xs)).length ≤ sizeLine := by simpa only [PyData.shown] using hz
    have r : Rx h (.ref a) (.list xs) := .lst h1 h2 h3 h4
    obtain ⟨bs, hb, hna, hk⟩ := shw_seq r (by simp only [PyData.depth]) (Rxs.shw h4 (by simpa [PyData.showable] using hs) fun t ht => Nat.le_trans (listText_mem_le ht) hz')
    obtain ⟨as, rr⟩ := r.reads
    refine ⟨a :: bs, ReadAtMost.cons rr (by simp only [PyData.depth]; omega) hb, ?_⟩
    simp only [PyData.depth, PyData.shown]
    obtain ⟨l⟩ := vs
    cases l with
    | nil =>
      have e : xs = [] := List.length_eq_zero_iff.mp h4.length.symm
      subst e
      simp only [PyData.shownAll, listText_nil]
      exact ReprK.listEmpty h1 h2 h3
    | cons x l => exact ReprK.list h1 h2 h3 hna (by simpa using hk.length_eq) (fun i y e => hk.item i y (by simpa using e))
  | _, _, .tup (a := a) (xs := xs) h1 h2 h3 h4, hs, hz => by
    have hz' : (tupleText (PyData.shownAll xs)).length ≤ sizeLine := by simpa only [PyData.shown] using hz
    have r : Rx h (.ref a) (.tuple xs) := .tup h1 h2 h3 h4
    obtain ⟨bs, hb, hna, hk⟩ := shw_seq r (by simp only [PyData.depth]) (Rxs.shw h4 (by simpa [PyData.showable] using hs) fun t ht => Nat.le_trans (tupleText_mem_le ht) hz')
    obtain ⟨as, rr⟩ := r.reads
    refine ⟨a :: bs, ReadAtMost.cons rr (by simp only [PyData.depth]; omega) hb, ?_⟩
    simp only [PyData.depth, PyData.shown]
    exact ReprK.tuple h1 h2 h3 hna hk
  | _, _, .dct (a := a) (es := es) (kvs := kvs) h1 h2 h3 hx h4 h5, hs, hz => by
    have hz' : (dictText (PyData.shownKv kvs)).length ≤ sizeLine := by simpa only [PyData.shown] using hz
    obtain ⟨hs1, hs2⟩ := PyData.showableKv_split kvs (by simpa [PyData.showable] using hs)
    have r : Rx h (.ref a) (.dict kvs) := .dct h1 h2 h3 hx h4 h5
    obtain ⟨bs, hb, hna, hk⟩ := shw_dct r h3 (Rxs.shw h4 hs1 fun t ht => let ⟨p, hp, hl⟩ := PyData.shownKv_key_le kvs t ht; Nat.le_trans hl (Nat.le_trans (dictText_mem_le hp) hz'))
      (Rxs.shw h5 hs2 fun t ht => let ⟨p, hp, hl⟩ := PyData.shownKv_val_le kvs t ht; Nat.le_trans hl (Nat.le_trans (dictText_mem_le hp) hz'))
    obtain ⟨as, rr⟩ := r.reads
    refine ⟨a :: bs, ReadAtMost.cons rr (by simp only [PyData.depth]; omega) hb, ?_⟩
    simp only [PyData.depth, PyData.shown]
    exact ReprK.dict h1 h2 h3 hx hna hk
theorem Rxs.shw : ∀ {v : List Value} {d : List PyData}, Rxs h v d → PyData.showableAll d = true → (∀ t ∈ PyData.shownAll d, t.length ≤ sizeLine) → Shws P w h (PyData.depthAll d) v (PyData.shownAll d)
  | _, _, .nil, _, _ => ⟨[], (fun _ h => nomatch h), by simp only [PyData.shownAll]; exact .nil⟩
  | _, _, .cons (d := d) (ds := ds) r t, hs, hz => by
    have hs' : d.showable = true ∧ PyData.showableAll ds = true := by simpa [PyData.showableAll] using hs
    simp only [PyData.depthAll, PyData.shownAll] at hz ⊢
    exact Shws.cons (Rx.shw r hs'.1 (hz _ (List.mem_cons_self ..))) (Rxs.shw t hs'.2 fun t ht => hz t (List.mem_cons_of_mem _ ht))
end
/-- repr(x), x an object -/
theorem repr_rx {A : Around} {E Q : Value → Shared → Prop} {s : Shared} {a : Addr} {d : PyData} (r : Rx s.heap (.ref a) d) (hs : d.showable = true) (hg : A.guards = some []) (hu : A.units + (d.depth + 1) < cLine)
    (hQ : ∀ h' u tk, (∀ b o, s.heap.get? b = some o → h'.get? b = some o) → Q (.str d.shown u) { s with heap := h', toks := tk }) (hz : d.shown.length ≤ sizeLine) : wpAny (model P w) A (call (.builtin "repr") [.ref a]) Q E s := by
  have fin : ∀ {idr : String}, wpAny (model P w) A.in1 (call (.builtin idr) [.ref a]) (fun v s1 => ∃ h' u tk, (∀ b o, s.heap.get? b = some o → h'.get? b = some o) ∧ v = .str d.shown u ∧ s1 = { s with heap := h', toks := tk }) E s →
      wpAny (model P w) A.in1 (call (.builtin idr) [.ref a]) (fun r s₁ => ∃ x t, r = .str x t ∧ Q r s₁) E s := fun hc =>
    wpAny_mono hc (fun v s1 ⟨h', u, tk, k, e1, e2⟩ => ⟨_, _, e1, by rw [e1, e2]; exact hQ h' u tk k⟩) fun _ _ x => x
  have hu1 : A.in1.units = A.units + 1 := rfl
  cases r with
  | @lst _ o vs n xs h1 h2 h3 h4 =>
    have r : Rx s.heap (.ref a) (.list xs) := .lst h1 h2 h3 h4
    have hz' : (listText (PyData.shownAll xs)).length ≤ sizeLine := by simpa only [PyData.shown] using hz
    obtain ⟨bs, hb, hna, hk⟩ := shw_seq (P := P) (w := w) r (by simp only [PyData.depth]) (Rxs.shw h4 (by simpa [PyData.showable] using hs) fun t ht => Nat.le_trans (listText_mem_le ht) hz')
    simp only [PyData.depth] at hu
    simp only [PyData.shown] at fin
    refine call_repr_slot (by omega) ⟨o, h1, h2⟩ F.slot_list_repr.toG (fin ?_)
    obtain ⟨l⟩ := vs
    cases l with
    | nil =>
      have e : xs = [] := List.length_eq_zero_iff.mp h4.length.symm
      subst e
      refine call_list_repr_empty ⟨o, h1, h2⟩ h1 h3 ⟨s.heap, s.toks, s.toks + 1, fun _ _ e => e, ?_, rfl⟩
      simp only [PyData.shownAll, listText_nil]
    | cons x l => exact call_list_reprK h1 h2 h3 hna (by simpa using hk.length_eq) (fun i y e => hk.item i y (by simpa using e)) (g := []) hg (fun b _ => Clear.nil b) (by omega) (fun _ _ e => e) (fun h' u tk k => ⟨h', u, tk, k, rfl, rfl⟩) hz'
  | @tup _ o vs n xs h1 h2 h3 h4 =>
    have r : Rx s.heap (.ref a) (.tuple xs) := .tup h1 h2 h3 h4
    have hz' : (tupleText (PyData.shownAll xs)).length ≤ sizeLine := by simpa only [PyData.shown] using hz
    obtain ⟨bs, hb, hna, hk⟩ := shw_seq (P := P) (w := w) r (by simp only [PyData.depth]) (Rxs.shw h4 (by simpa [PyData.showable] using hs) fun t ht => Nat.le_trans (tupleText_mem_le ht) hz')
    simp only [PyData.depth] at hu
    simp only [PyData.shown] at fin
    refine call_repr_slot (by omega) ⟨o, h1, h2⟩ F.slot_tuple_repr (fin ?_)
    exact call_tuple_reprK h1 h2 h3 hna hk (g := []) hg (fun b _ => Clear.nil b) (by omega) (fun _ _ e => e) (fun h' u tk k => ⟨h', u, tk, k, rfl, rfl⟩) hz'
  | @dct _ o es n kvs h1 h2 h3 hx h4 h5 =>
    have r : Rx s.heap (.ref a) (.dict kvs) := .dct h1 h2 h3 hx h4 h5
    have hz' : (dictText (PyData.shownKv kvs)).length ≤ sizeLine := by simpa only [PyData.shown] using hz
    obtain ⟨hs1, hs2⟩ := PyData.showableKv_split kvs (by simpa [PyData.showable] using hs)
    obtain ⟨bs, hb, hna, hk⟩ := shw_dct (P := P) (w := w) r h3 (Rxs.shw h4 hs1 fun t ht => let ⟨p, hp, hl⟩ := PyData.shownKv_key_le kvs t ht; Nat.le_trans hl (Nat.le_trans (dictText_mem_le hp) hz'))
      (Rxs.shw h5 hs2 fun t ht => let ⟨p, hp, hl⟩ := PyData.shownKv_val_le kvs t ht; Nat.le_trans hl (Nat.le_trans (dictText_mem_le hp) hz'))
    simp only [PyData.depth] at hu
    simp only [PyData.shown] at fin
    refine call_repr_slot (by omega) ⟨o, h1, h2⟩ F.slot_dict_repr (fin ?_)
    exact call_dict_reprK h1 h2 h3 hx hna hk (g := []) hg (fun b _ => Clear.nil b) (by omega) (fun _ _ e => e) (fun h' u tk k => ⟨h', u, tk, k, rfl, rfl⟩) hz'
end
/-! ### .. at the level of tracked things -/
mutual
inductive Dx (K : PySem.W.Frag) (H : Hp) : V → PyData → Prop
  | non : Dx K H .non .none
  | bl (b : Bool) : Dx K H (.bl b) (.bool b)
  | int (i : Int) : Dx K H (.int i) (.int i)
  | str (x : Str) : Dx K H (.str x) (.str x)
  | lst {a : Addr} {xs : List V} {ds : List PyData} (h : SqL K H a xs) (t : Dxs K H xs ds) : Dx K H (.ref a) (.list ds)
  | tup {a : Addr} {xs : List V} {ds : List PyData} (h : SqT K H a xs) (t : Dxs K H xs ds) : Dx K H (.ref a) (.tuple ds)
  | dct {a : Addr} {xs : List (Key × V)} {ds : List (PyData × PyData)} (h : H a = some (.dK xs)) (t : Dxk K H xs ds) : Dx K H (.ref a) (.dict ds)
inductive Dxs (K : PySem.W.Frag) (H : Hp) : List V → List PyData → Prop
  | nil : Dxs K H [] []
  | cons {v : V} {vs : List V} {d : PyData} {ds : List PyData} (h : Dx K H v d) (t : Dxs K H vs ds) : Dxs K H (v :: vs) (d :: ds)
inductive Dxk (K : PySem.W.Frag) (H : Hp) : List (Key × V) → List (PyData × PyData) → Prop
  | nil : Dxk K H [] []
  | cons {k : Key} {v : V} {vs : List (Key × V)} {d : PyData} {ds : List (PyData × PyData)} (h : Dx K H v d) (t : Dxk K H vs ds) : Dxk K H ((k, v) :: vs) ((kP k, d) :: ds)
end
section
variable {X : Cx} {pins : List (Addr × Obj)} {σ : St} {H : Hp} {s : Shared}
theorem key_rx {h : Heap} {k : Key} {u : Value} (e : keyIs k u = true) : Rx h u (kP k) := by
  rcases keyIs_shape e with ⟨i, t, rfl, rfl⟩ | ⟨x, t, rfl, rfl⟩
  · exact .int i t
  · exact .str x t
mutual
theorem Dx.rx (I : Inv X pins σ H s) : ∀ {v : V} {d : PyData} {u : Value}, Dx X.K H v d → RelV v u → Rx s.heap u d
  | _, _, _, .non, r => by cases r; exact .non
  | _, _, _, .bl b, r => by cases r; exact .bl b
  | _, _, _, .int i, r => by obtain ⟨t, rfl⟩ := r; exact .int i t
  | _, _, _, .str x, r => by obtain ⟨t, rfl⟩ := r; exact .str x t
  | _, _, _, .lst h t, r => by
    cases r
    obtain ⟨its, rv, ⟨o, n, ho, hc, _, hd⟩, _⟩ := I.list h
    exact .lst ho hc hd (by simpa using Dxs.rx I t rv)
  | _, _, _, .tup h t, r => by
    cases r
    obtain ⟨its, rv, ⟨o, ho, hc, n, hd⟩, _⟩ := I.tuple h
    exact .tup ho hc hd (by simpa using Dxs.rx I t rv)
  | _, _, _, .dct (a := a) h t, r => by
    cases r
    obtain ⟨_, hs, vs, rv, o, es, ep, h1, h2, h3, _, h5, _⟩ := (show ObjOk X.prog X.w H s.heap a (.dK _) from I.hok a _ h)
    obtain ⟨k1, k2⟩ := Dxk.rx I t rv h5
    exact .dct h1 h2.1 h3 hs k1 k2
theorem Dxs.rx (I : Inv X pins σ H s) : ∀ {v : List V} {d : List PyData} {u : List Value}, Dxs X.K H v d → Vals v u → Rxs s.heap u d
  | _, _, _, .nil, r => by cases r; exact .nil
  | _, _, _, .cons h t, r => by
    cases r with
    | cons r1 r2 => exact .cons (Dx.rx I h r1) (Dxs.rx I t r2)
theorem Dxk.rx (I : Inv X pins σ H s) : ∀ {v : List (Key × V)} {d : List (PyData × PyData)} {u : List (Key × Value)} {es : List DictEntry}, Dxk X.K H v d → KV v u → Pairs (mixKind X.prog X.w) es u →
    Rxs s.heap (es.map (·.key)) (d.map (·.1)) ∧ Rxs s.heap (es.map (·.val)) (d.map (·.2))
  | _, _, _, _, .nil, r, p => by
    cases r
    cases p
    exact ⟨.nil, .nil⟩
  | _, _, _, _, .cons (k := k) h t, r, p => by
    cases r with
    | cons r1 r2 =>
      cases p with
      | cons p1 p2 p3 =>
        obtain ⟨q1, q2⟩ := Dxk.rx I t r2 p3
        obtain ⟨e1, e2⟩ := r1
        refine ⟨.cons (key_rx (k := k) ?_) q1, .cons ?_ q2⟩
        · have e1 : k = _ := e1
          rw [e1]
          exact p1
        · have q := Dx.rx I h e2
          rw [← p2] at q
          exact q
end
end
/-! ### repr and == of what a computation holds, cells looked through -/
def mapO {α β : Type} (f : α → Option β) : List α → Option (List β)
  | [] => some []
  | x :: xs => match f x with
    | some y => match mapO f xs with
      | some ys => some (y :: ys)
      | none => none
    | none => none
def toPyC : Nat → Cs → D → Option PyData
  | 0, _, _ => none
  | n + 1, c, d => match d with
    | .non => some .none
    | .bl b => some (.bool b)
    | .int i => some (.int i)
    | .str s => some (.str s)
    | .lst xs => (mapO (toPyC n c) xs).map .list
    | .ro xs => (mapO (toPyC n c) xs).map .list
    | .tup xs => (mapO (toPyC n c) xs).map .tuple
    | .dct kvs => (mapO (fun p => (toPyC n c p.2).map fun q => (kP p.1, q)) kvs).map .dict
    | .ref k => match c[k]? with
      | some (.lst xs) => (mapO (toPyC n c) xs).map .list
      | some (.dct kvs) => (mapO (fun p => (toPyC n c p.2).map fun q => (kP p.1, q)) kvs).map .dict
      | some (.frz d) => toPyC n c d
      | _ => none
    | _ => none
section
variable {K : PySem.W.Frag} {I H : Hp} {m : List Addr} {c : Cs}
theorem dxs_of {f : D → Option PyData} (hf : ∀ v d p, Rep K I m v d → f d = some p → Dx K H v p) : ∀ {vs : List V} {ds : List D} {ps : List PyData}, Reps K I m vs ds → mapO f ds = some ps → Dxs K H vs ps
  | _, _, _, .nil, e => by simp [mapO] at e; subst e; exact .nil
  | _, _, _, .cons (d := d) (ds := ds) h t, e => by
    unfold mapO at e
    cases q : f d with
    | none => rw [q] at e; cases e
    | some y =>
      cases q2 : mapO f ds with
      | none => rw [q, q2] at e; cases e
      | some ys => rw [q, q2] at e; cases e; exact .cons (hf _ _ _ h q) (dxs_of hf t q2)
theorem dxk_of {f : D → Option PyData} (hf : ∀ v d p, Rep K I m v d → f d = some p → Dx K H v p) : ∀ {vs : List (Key × V)} {ds : List (Key × D)} {ps : List (PyData × PyData)}, RepK K I m vs ds →
    mapO (fun p => (f p.2).map fun q => (kP p.1, q)) ds = some ps → Dxk K H vs ps
  | _, _, _, .nil, e => by simp [mapO] at e; subst e; exact .nil
  | _, _, _, .cons (k := k) (d := d) (ds := ds) h t, e => by
    unfold mapO at e
    cases q : f d with
    | none => simp only [q, Option.map_none] at e; cases e
    | some y =>
      cases q2 : mapO (fun p : Key × D => (f p.2).map fun q => (kP p.1, q)) ds with
      | none => simp only [q, q2, Option.map_some] at e; cases e
      | some ys => simp only [q, q2, Option.map_some] at e; cases e; exact .cons (hf _ _ _ h q) (dxk_of hf t q2)
theorem dx_of (R : Rel K I H m c) : ∀ (n : Nat) (v : V) (d : D) (p : PyData), Rep K I m v d → toPyC n c d = some p → Dx K H v p
  | 0, _, _, _, _, e => by cases e
  | n + 1, v, d, p, h, e => by
    have ih := dx_of R n
    cases h with
    | non => cases e; exact .non
    | bl b => cases e; exact .bl b
    | int i => cases e; exact .int i
    | str s => cases e; exact .str s
    | lst h r =>
      obtain ⟨ps, e1, rfl⟩ := Option.map_eq_some_iff.mp e
      exact .lst (.inl (.inl (R.same _ _ h))) (dxs_of ih r e1)
    | ro h r =>
      obtain ⟨ps, e1, rfl⟩ := Option.map_eq_some_iff.mp e
      exact .lst (R.same.seq h) (dxs_of ih r e1)
    | tup h r =>
      obtain ⟨ps, e1, rfl⟩ := Option.map_eq_some_iff.mp e
      exact .tup (sqT_same R.same h) (dxs_of ih r e1)
    | dct h r =>
      obtain ⟨ps, e1, rfl⟩ := Option.map_eq_some_iff.mp e
      exact .dct (R.same _ _ h) (dxk_of ih r e1)
    | @ref k a h =>
      have e : (match c[k]? with
        | some (.lst xs) => (mapO (toPyC n c) xs).map .list
        | some (.dct kvs) => (mapO (fun p => (toPyC n c p.2).map fun q => (kP p.1, q)) kvs).map .dict
        | some (.frz d) => toPyC n c d
        | _ => none) = some p := e
      cases q : c[k]? with
      | none => rw [q] at e; cases e
      | some x =>
        rw [q] at e
        have hc := R.cell k a x h q
        cases x with
        | lst xs =>
          obtain ⟨ps, e1, rfl⟩ := Option.map_eq_some_iff.mp e
          obtain ⟨_, vs, h1, h2⟩ := hc
          exact .lst (.inl (.inl h1)) (dxs_of ih h2 e1)
        | dct xs =>
          obtain ⟨ps, e1, rfl⟩ := Option.map_eq_some_iff.mp e
          obtain ⟨_, vs, h1, h2⟩ := hc
          exact .dct h1 (dxk_of ih h2 e1)
        | frz d => exact ih _ _ _ hc.2 e
        | _ => cases e
    | _ => cases e
def rReprX (K : PySem.W.Frag) : List V → Hp → VK → Prop := fun xs H Q => ∃ v d, xs = [v] ∧ Dx K H v d ∧ d.depth ≤ 60 ∧ d.showable = true ∧ d.shown.length ≤ sizeLine ∧ Q (.str d.shown) H
theorem call_reprX {X : Cx} (hg : X.A.guards = some []) (hu : X.A.units + 100 < cLine) : CallR X (.builtin "repr") (rReprX X.K) := fun pins s σ H xs us Q I r h => by
  obtain ⟨v, d, rfl, hd, hs, hw, hz, q⟩ := h
  obtain ⟨u, rfl, rx⟩ := vals1 r
  have hr := Dx.rx I hd rx
  have far : ∀ {a : Addr}, u = .ref a → wpAny (model X.prog X.w) X.A (call (.builtin "repr") [u]) (EP X pins σ Q) X.xe s := fun {a} e => by
    subst e
    exact repr_rx hr hw hg (by omega) (fun h' t tk k => ⟨.str _, H, I.kept k, ⟨t, rfl⟩, q⟩) hz
  cases hd with
  | non => cases (show u = Value.none from rx); exact PySem.P.repr_of_none ⟨.str _, H, I.tok _, ⟨_, rfl⟩, by simpa [PyData.shown] using q⟩
  | bl b => cases (show u = Value.bool b from rx); exact PySem.P.repr_of_bool ⟨.str _, H, I.tok _, ⟨_, rfl⟩, by simpa [PyData.shown] using q⟩
  | int i =>
    obtain ⟨t, rfl⟩ := rx
    exact PySem.P.repr_of_int (by simpa [PyData.showable] using hw) ⟨.str _, H, I.tok _, ⟨_, rfl⟩, by simpa [PyData.shown] using q⟩
  | str x =>
    obtain ⟨t, rfl⟩ := rx
    exact PySem.P.repr_of_str ⟨.str _, H, I.tok _, ⟨_, rfl⟩, by simpa [PyData.shown] using q⟩ (by simpa [PyData.shown] using hz)
  | lst h t => exact far rx
  | tup h t => exact far rx
  | dct h t => exact far rx
def okR (p : PyData) : Bool := decide (p.depth ≤ 60) && p.showable && decide (p.shown.length ≤ sizeLine)
def reprQ (d : D) (c : Cs) : R D := match toPyC 30 c d with
  | some p => if okR p = true then .ok (.str p.shown) c else .stuck
  | none => .stuck
def reprX : List D → Cs → R D := on1 reprQ
theorem cs_reprX : CallS K (rReprX K) reprX := fun I H m c vs ds W Q R p A => by
  obtain ⟨v, d, rfl, rfl, p, A⟩ := on1_arg p A
  unfold reprQ at A
  cases q : toPyC 30 c d with
  | none => rw [q] at A; exact A.elim
  | some y =>
    rw [q] at A
    by_cases h : okR y = true
    · have A2 : After (rD K) K I m H W Q (if okR y = true then .ok (.str y.shown) c else .stuck) := A
      rw [if_pos h] at A2
      simp only [okR, Bool.and_eq_true, decide_eq_true_eq] at h
      exact ⟨v, y, rfl, dx_of R 30 _ _ _ p q, h.1.1, h.1.2, h.2, A2.here R (.str _)⟩
    · have A2 : After (rD K) K I m H W Q (if okR y = true then .ok (.str y.shown) c else .stuck) := A
      rw [if_neg h] at A2
      exact A2.elim
/-- == of data that stands in cells, too -/
def rEqX (neg : Bool) (K : PySem.W.Frag) : R2 := fun x y H Q => ∃ d e, Dx K H x d ∧ Dx K H y e ∧ SeqAt.shaped d = true ∧ SeqAt.shaped e = true ∧ Q (.bl (if neg then !PyData.eqv d e else PyData.eqv d e)) H
theorem op_eqX {X : Cx} (hu : X.A.units + 64 < cLine) : OpR X (compareOp .Eq) (rEqX false X.K) := by
  intro pins s σ H x y v u Q I rx ry h
  obtain ⟨d, e, hd, he, sd, se, q⟩ := h
  obtain ⟨as, r1⟩ := (Dx.rx I hd rx).reads
  obtain ⟨bs, r2⟩ := (Dx.rx I he ry).reads
  exact SeqAt.compareEq_shaped r1 r2 sd se hu ⟨.bl _, H, I, rfl, q⟩
theorem op_neX {X : Cx} (hu : X.A.units + 64 < cLine) : OpR X (compareOp .NotEq) (rEqX true X.K) := by
  intro pins s σ H x y v u Q I rx ry h
  obtain ⟨d, e, hd, he, sd, se, q⟩ := h
  obtain ⟨as, r1⟩ := (Dx.rx I hd rx).reads
  obtain ⟨bs, r2⟩ := (Dx.rx I he ry).reads
  exact SeqAt.compareNe_shaped r1 r2 sd se hu ⟨.bl _, H, I, rfl, q⟩
def eqQ (neg : Bool) (d e : D) (c : Cs) : R D := match toPyC 30 c d with
  | some a => match toPyC 30 c e with
    | some b => if SeqAt.shaped a = true ∧ SeqAt.shaped b = true then .ok (.bl (if neg then !PyData.eqv a b else PyData.eqv a b)) c else .stuck
    | none => .stuck
  | none => .stuck
theorem eqQ_read {W : XK} {Q : VK} {v1 v2 : V} {d1 d2 : D} {neg : Bool} (R : Rel K I H m c) (p1 : Rep K I m v1 d1) (p2 : Rep K I m v2 d2) (A : After (rD K) K I m H W Q (eqQ neg d1 d2 c)) : rEqX neg K v1 v2 H Q := by
  unfold eqQ at A
  cases q1 : toPyC 30 c d1 with
  | none => rw [q1] at A; exact A.elim
  | some a =>
    cases q2 : toPyC 30 c d2 with
    | none => rw [q1, q2] at A; exact A.elim
    | some b =>
      rw [q1, q2] at A
      by_cases hs : SeqAt.shaped a = true ∧ SeqAt.shaped b = true
      · have A2 : After (rD K) K I m H W Q (if SeqAt.shaped a = true ∧ SeqAt.shaped b = true then .ok (.bl (if neg then !PyData.eqv a b else PyData.eqv a b)) c else .stuck) := A
        rw [if_pos hs] at A2
        exact ⟨a, b, dx_of R 30 _ _ _ p1 q1, dx_of R 30 _ _ _ p2 q2, hs.1, hs.2, A2.here R (.bl _)⟩
      · have A2 : After (rD K) K I m H W Q (if SeqAt.shaped a = true ∧ SeqAt.shaped b = true then .ok (.bl (if neg then !PyData.eqv a b else PyData.eqv a b)) c else .stuck) := A
        rw [if_neg hs] at A2
        exact A2.elim
/-- ==, !=: scalars and a dict against a text as before, all else by what the cells hold -/
def eqX : D → D → Cs → R D
  | .int i, .int j, c => .ok (.bl (decide (i = j))) c
  | .str i, .str j, c => .ok (.bl (decide (i = j))) c
  | .bl i, .bl j, c => .ok (.bl (decide (i = j))) c
  | .dct _, .str _, c => .ok (.bl false) c
  | d, e, c => eqQ false d e c
def neX : D → D → Cs → R D
  | .int i, .int j, c => .ok (.bl (!decide (i = j))) c
  | .str i, .str j, c => .ok (.bl (!decide (i = j))) c
  | .bl i, .bl j, c => .ok (.bl (!decide (i = j))) c
  | d, e, c => eqQ true d e c
def rEqY (K : PySem.W.Frag) : R2 := fun x y H Q => rEqB K x y H Q ∨ rEqX false K x y H Q
def rNeY (K : PySem.W.Frag) : R2 := fun x y H Q => rNeA K x y H Q ∨ rEqX true K x y H Q
theorem op_eqY {X : Cx} (hu : X.A.units + 64 < cLine) : OpR X (compareOp .Eq) (rEqY X.K) := (op_eqB hu).or (op_eqX hu)
theorem op_neY {X : Cx} (hu : X.A.units + 64 < cLine) : OpR X (compareOp .NotEq) (rNeY X.K) := (op_neA hu).or (op_neX hu)
theorem os_eqX : OpS K (rEqY K) eqX := fun I H m c v1 v2 d1 d2 W Q R p1 p2 A => by
  have gen : After (rD K) K I m H W Q (eqQ false d1 d2 c) → rEqY K v1 v2 H Q := fun A => .inr (eqQ_read R p1 p2 A)
  cases p1 with
  | int i => cases p2 with
    | int j => exact .inl (os_eqE I H m c _ _ _ _ W Q R (.int i) (.int j) A)
    | _ => exact gen A
  | str i => cases p2 with
    | str j => exact .inl (os_eqE I H m c _ _ _ _ W Q R (.str i) (.str j) A)
    | _ => exact gen A
  | bl i => cases p2 with
    | bl j => exact .inl (os_eqE I H m c _ _ _ _ W Q R (.bl i) (.bl j) A)
    | _ => exact gen A
  | dct h r => cases p2 with
    | str j => exact .inl (os_eqE I H m c _ _ _ _ W Q R (.dct h r) (.str j) A)
    | _ => exact gen A
  | _ => exact gen A
theorem os_neX : OpS K (rNeY K) neX := fun I H m c v1 v2 d1 d2 W Q R p1 p2 A => by
  have gen : After (rD K) K I m H W Q (eqQ true d1 d2 c) → rNeY K v1 v2 H Q := fun A => .inr (eqQ_read R p1 p2 A)
  cases p1 with
  | int i => cases p2 with
    | int j => exact .inl (os_ne I H m c _ _ _ _ W Q R (.int i) (.int j) A)
    | _ => exact gen A
  | str i => cases p2 with
    | str j => exact .inl (os_ne I H m c _ _ _ _ W Q R (.str i) (.str j) A)
    | _ => exact gen A
  | bl i => cases p2 with
    | bl j => exact .inl (os_ne I H m c _ _ _ _ W Q R (.bl i) (.bl j) A)
    | _ => exact gen A
  | _ => exact gen A
end
end L2.Mi

namespace L2.Mi
open PySem PySem.Spec PyProof.Rows L2

section
variable {K : PySem.W.Frag}
/-! ### in, of what stands in a cell -/
def inX (neg : Bool) (d e : D) (c : Cs) : R D := match e with
  | .ref k => match lstOf (.ref k) c with
    | some xs => inL neg d xs c
    | none => .stuck
  | e => inD neg d e c
theorem os_inX {neg : Bool} : OpS K (rInA K neg) (inX neg) := fun I H m c v1 v2 d1 d2 W Q R p1 p2 A => by
  have gen : After (rD K) K I m H W Q (inD neg d1 d2 c) → rInA K neg v1 v2 H Q := fun A => os_in I H m c v1 v2 d1 d2 W Q R p1 p2 A
  cases d2 with
  | ref k =>
    have A2 : After (rD K) K I m H W Q (match lstOf (.ref k) c with
      | some xs => inL neg d1 xs c
      | none => .stuck) := A
    cases e : lstOf (.ref k) c with
    | none => rw [e] at A2; exact A2.elim
    | some ds =>
      rw [e] at A2
      obtain ⟨a, vs, e1, hq, rr⟩ := lst_at R p2 e
      have A3 : After (rD K) K I m H W Q (inL neg d1 ds c) := A2
      unfold inL at A3
      by_cases hf : flatD d1 = true ∧ ds.all flatD = true
      · rw [if_pos hf] at A3
        refine .inr ⟨a, vs, e1, .inl hq, flat_rep p1 hf.1, flat_reps rr hf.2, ?_⟩
        unfold inV
        rw [any_reps p1 hf.1 rr hf.2]
        exact A3.here R (.bl _)
      · rw [if_neg hf] at A3
        exact A3.elim
  | _ => exact gen A
/-! ### s.split(sep): a list of its own -/
/-! ### methods of a list's cell -/
def isL (d : D) (c : Cs) : Bool := (lstOf d c).isSome
def mBM (g : D → List D → Cs → R D) (a : ME) (t : MA) : ME := fun l c => (a l c).bind fun x c1 => if isL x c1 = true then (t l c1).bind fun xs c2 => g x xs c2 else .stuck
def MethS (K : PySem.W.Frag) (r : V → List V → Hp → VK → Prop) (g : D → List D → Cs → R D) : Prop := ∀ (I H : Hp) (m : List Addr) (c : Cs) (v : V) (vs : List V) (d : D) (ds : List D) (W : XK) (Q : VK),
  Rel K I H m c → Rep K I m v d → Reps K I m vs ds → After (rD K) K I m H W Q (g d ds c) → r v vs H Q
theorem me_bm {X : Cx} {W : WX} {e : Expr} {fa : ME} {ga : MA} {r : V → List V → Hp → VK → Prop} {g : D → List D → Cs → R D} (h : PE X e (tBM X.K "list" r (rdE X.K W fa) (rdA X.K W ga))) (hs : MethS X.K r g) : PE X e (rdE X.K W (mBM g fa ga)) :=
  PEi h fun σ H Q ⟨I, m, l, c, R, L, A⟩ => ⟨I, m, l, c, R, L, After.mono (After.bind (rep := rD X.K) A) fun v1 H1 ⟨I1, m1, c1, d1, E1, R1, p1, A1⟩ => by
    have A1 : After (rD X.K) X.K I1 m1 H1 _ Q (if isL d1 c1 = true then (ga l c1).bind fun xs c2 => g d1 xs c2 else .stuck) := A1
    by_cases hl : isL d1 c1 = true
    · rw [if_pos hl] at A1
      obtain ⟨ds, hds⟩ := Option.isSome_iff_exists.mp hl
      obtain ⟨a, xs, e1, h1, _⟩ := lst_at R1 p1 hds
      subst e1
      refine ⟨.inl ⟨rfl, xs, h1⟩, I1, m1, l, c1, R1, L.ext E1, After.mono (After.bind (rep := rA X.K) A1) fun v2 H2 ⟨I2, m2, c2, d2, E2, R2, p2, A2⟩ => ?_⟩
      exact hs I2 H2 m2 c2 _ v2 d1 d2 _ Q R2 (Rep.ext p1 E2) p2 A2
    · rw [if_neg hl] at A1
      exact A1.elim⟩
def appendD : D → List D → Cs → R D := fun d ds c => match d, ds with
  | .ref k, [y] => match c[k]? with
    | some (.lst xs) => if xs.length < sizeLine then .ok .non (c.set k (.lst (xs ++ [y]))) else .stuck
    | _ => .stuck
  | _, _ => .stuck
theorem meth_append : MethS K rAppend appendD := fun I H m c v vs d ds W Q R p ps A => by
  cases d with
  | ref k =>
    cases ps with
    | nil => exact A.elim
    | @cons y ys dy dys h t =>
      cases t with
      | cons _ _ => exact A.elim
      | nil =>
        have A2 : After (rD K) K I m H W Q (match c[k]? with
          | some (.lst xs) => if xs.length < sizeLine then .ok .non (c.set k (.lst (xs ++ [dy]))) else .stuck
          | _ => .stuck) := A
        cases q : c[k]? with
        | none => rw [q] at A2; exact A2.elim
        | some x =>
          rw [q] at A2
          cases x with
          | lst xs =>
            cases p with
            | @ref _ a hm =>
              obtain ⟨_, ws, h1, h2⟩ := R.cell k a _ hm q
              by_cases hz : xs.length < sizeLine
              · have A3 : After (rD K) K I m H W Q (if xs.length < sizeLine then .ok .non (c.set k (.lst (xs ++ [dy]))) else .stuck) := A2
                rw [if_pos hz] at A3
                obtain ⟨R2, E2⟩ := R.put hm q (h2.append (.cons h .nil))
                exact ⟨a, ws, y, rfl, rfl, h1, by rw [h2.length]; exact hz, A3 _ _ _ _ E2 R2 .non⟩
              · have A3 : After (rD K) K I m H W Q (if xs.length < sizeLine then .ok .non (c.set k (.lst (xs ++ [dy]))) else .stuck) := A2
                rw [if_neg hz] at A3
                exact A3.elim
          | _ => exact A2.elim
  | _ => exact A.elim
end
/-! ### if (x := e) op f: -/
section
variable {X : Cx} {W : WX} {a b : Expr} {pos p p2 p3 : Pos} {f g : MS}
def sIfNm (i : Nat) (h : D → D → Cs → R D) (fa fb : ME) (f g : MS) : MS := fun l c => (fa l c).seq l fun x c1 => (fb (l.set i (some x)) c1).seq (l.set i (some x)) fun y c2 => (h x y c2).seq (l.set i (some x)) fun z c3 => match z with
  | .bl true => f (l.set i (some x)) c3
  | .bl false => g (l.set i (some x)) c3
  | _ => .stuck
end
/-! ### defs with defaults -/
section
variable {X : Cx} {W : WX} {k n : Nat} {f : Addr} {fd : FuncData} {ps ks : List Str} {g : List D → Cs → R D} {x : Str} {p pos : Pos} {e : Expr} {es : List Expr} {ga gk : MA}
/-- f(e, ..), defaults fill up -/
def mCBd (g : List D → Cs → R D) (n : Nat) (df : List D) (t : MA) : ME := fun l c => (t l c).bind fun xs c1 => if xs.length = n then g (xs ++ df) c1 else .stuck
/-- f(e, .., k = v, ..) -/
def mCBk (g : List D → Cs → R D) (gd : List D → List D → List D) (n j : Nat) (t tk : MA) : ME := fun l c => (t l c).bind fun xs c1 => (tk l c1).bind fun ys c2 => if xs.length = n ∧ ys.length = j then g (gd xs ys) c2 else .stuck
end
end L2.Mi
namespace L2.Mi
open PySem PySem.Spec PyProof.Rows L2
/-! ### s.index(y), found -/
section
variable {X : Cx} {K : PySem.W.Frag}
end
end L2.Mi

/-! own exceptions whose __init__ says super().__init__(text), self.f = p -/
namespace PySem.Mxe
open PySem PySem.W PySem.Calls PyProof.Rows PySem.Spec
open Builtin Builtin.ObjectAttr
section
variable {prog : Program} {w : World} {A : Around} {E : Value → Shared → Prop} {R : Result → Shared → Prop} {hp : Heap} {g : Array GenState} {d : Drawn} {t : Nat} {os : OsState}
theorem tail_ne {bmB : List Value} (hne : bmB.isEmpty = false) {l : List Value} (e : excTail bmB l = true) : l.isEmpty = false := by
  rcases excTail_cases l e with ⟨c, r, rfl, _⟩ | rfl
  · rfl
  · exact hne
theorem osa {K : W.Frag} {bmB : List Value} {name : Str} {tk : Tok} {v : Value} {x C : Addr} {fv : Array Value} {cd : ClassData} (hpass : ∀ self, refuseLoop self "__setattr__" bmB = pure ()) (hob : bmB.contains (.type "object") = true) (hbe : bmB.isEmpty = false)
    (X : K.In hp) (hx : hp.get? x = some { cls := .ref C, data := .fields fv }) (hcd : W.clsIn K C = some cd) (hm : excTail bmB cd.mro = true) (hh : cd.hasDict = true) (ha : W.findIn K (.ref C) name = some none)
    (hq : ∀ h' tk' dx, (∀ b o, b ≠ x → hp.get? b = some o → h'.get? b = some o) → hp.objs.size ≤ dx → dx ≠ x → h'.get? x = some { cls := .ref C, dict := some dx, data := .fields fv } →
      h'.Ns1 dx (fun y => if y = name then some v else none) → R (.ok (.ret .none)) ⟨h', g, d, tk', os⟩) :
    codeAny (model prog w) A (.call (.builtin "object.__setattr__") ⟨[.ref x, .str name tk, v], []⟩) R ⟨hp, g, d, t, os⟩ := by
  have I : W.InstAt hp x { cls := .ref C, data := .fields fv } C none := ⟨hx, rfl, rfl, trivial⟩
  have SF := PySem.F.store_object
  have ne := tail_ne hbe hm
  have hob : cd.mro.contains (.type "object") = true := (excTail_contains "object" _ hm).trans hob
  have hxs : x ≠ hp.objs.size := Nat.ne_of_lt (Heap.lt_size hx)
  have sub : W.Looks (model prog w) hp (isInstance (.ref x) (.type "object")) true := I.type.andThen (W.looks_mroIn X (by unfold W.mroIn; rw [hcd, Option.bind_some, if_neg (by rw [ne]; decide), hob]))
  refine codeAny_call_builtin SF.slot.plain SF.entry (@W.check_slot (model prog w) _ _ ⟨hp, g, d, t, os⟩ "object.__setattr__" "object" "__setattr__" (.ref x) [.str name tk, v] [] _ SF.kind SF.split sub (SF.args (.ref x) (.str name tk) v) ?_)
  have hmr : W.Looks (model prog w) hp (mroOf (.ref C)) cd.mro := (W.looks_clsIn X hcd).andThen .now
  have L3 : W.Looks (model prog w) hp (storeTaker? none) none := .now
  have hcls : W.Looks (model prog w) hp (classData C) cd := W.looks_clsIn X hcd
  rw [W.osa_eq, refuse_eq]
  refine wpAny_bind (wpAny_bind (I.type.at (wpAny_bind (hmr.at ?_))))
  rw [excTail_pass _ (hpass _) _ hm]
  refine wpAny_pure (wpAny_bind (I.type.at (wpAny_bind ((W.looks_findIn X ha).at (wpAny_bind (L3.at ?_))))))
  show wpAny _ _ (storeInOwnDict (.ref x) (.ref C) (.str name tk) name v false) _ _ _
  obtain ⟨nm, bs, mro, ns, qn, hd, sn, sb, ab, col, del⟩ := cd
  dsimp only at hh
  subst hh
  unfold storeInOwnDict ownDictForStores
  repeat (first | with_reducible refine HandSPX.store_in_new ?_ ?_ | with_reducible refine wpAny_loadPart_at hx ?_ | with_reducible refine hcls.at ?_ | wp_step)
  · exact ⟨_, #[], _, (Heap.get?_update_ne _ _ _ _ hxs.symm).trans (Heap.get?_push_at rfl rfl), rfl, fun e he => absurd he (by simp), fun _ => rfl⟩
  · intro h' tk' hn' hs
    have hx₁ : (hp.push { cls := .type "dict", data := .dict #[] }).get? x = some { cls := .ref C, data := .fields fv } := Heap.get?_push_of_some _ hx
    refine hq h' tk' hp.objs.size (fun b o hb ho => ?_) (Nat.le_refl _) hxs.symm ?_ hn'
    · exact (hs.2 b (Nat.ne_of_lt (Heap.lt_size ho))).trans ((Heap.get?_update_ne _ _ _ _ hb).trans (Heap.get?_push_of_some _ ho))
    · exact (hs.2 x hxs).trans (Heap.get?_update_self _ hx₁ rfl)

/-- what is known of such a class -/
structure XB (B newId i : String) (bmB : List Value) : Prop where
  FB : ExcBaseFacts B newId i bmB
  KF : KxsFacts B i
  pass : ∀ self, refuseLoop self "__setattr__" bmB = pure ()
  ob : bmB.contains (.type "object") = true
  ne : bmB.isEmpty = false
theorem xb_ValueError : XB "ValueError" "ValueError.__new__" "ValueError.__init__" [.type "ValueError", .type "Exception", .type "BaseException", .type "object"] := ⟨PySem.F.excBase_ValueError, kxs_ValueError, fun s => PySem.F.store_ValueError.passes s, by decide +kernel, rfl⟩
/-- the __init__'s text -/
structure XText (prog : Program) (scope : Scope) (par f msg : Str) (body : List Stmt) : Prop where
  kind : scope.kind = .function
  co : scope.isCoroutine = false
  gen : scope.isGenerator = false
  cell : ∀ x ∈ scope.names, x.2 ≠ .cell
  sup : scope.names.lookup ("super" : Str) = some .globalImplicit
  cls : scope.names.lookup ("__class__" : Str) = some .free
  self : scope.names.lookup ("self" : Str) = some .local
  par_ : scope.names.lookup par = some .local
  ne : (par == ("self" : Str)) = false
  dbg : (par == ("__debug__" : Str)) = false
  top : (prog.main.scope.names.lookup ("super" : Str)).isSome = false
  body : ∃ (p0 p1 p2 p3 p4 p5 p6 p7 p8 p9 : Pos) (j : Nat), (p2.endLine == p4.line) = true ∧ body = [.Expr (.Call (.Attribute (.Call (.Name "super" p0) [] [] p1) "__init__" p2) [.Constant (.str msg) j p3] [] p4) p5,
    .Assign [.Attribute (.Name "self" p6) f p7] (.Name par p8) p9]

theorem method_eq {o : Expr} {name msg : Str} {apos pos p : Pos} {j : Nat} {env : Env} (h : (apos.endLine == pos.line) = true) : eval (.Call (.Attribute o name apos) [.Constant (.str msg) j p] [] pos) env = (do
      let ov ← attributeBase o name env (eval o env)
      standAt apos.atName
      let (f, first) ← holding [ov] (getMethod ov name (do return (← importBound o env).getD true))
      callWith pos f first (backTo pos (starEach [.Constant (.str msg) j p] env)) []) := by
  show (do
    let ov ← attributeBase o name env (eval o env)
    standAt apos.atName
    methodCall o name apos pos env ov 1 (backTo pos (starEach [.Constant (.str msg) j p] env)) []) = _
  have e : ∀ ov, methodCall o name apos pos env ov 1 (backTo pos (starEach [.Constant (.str msg) j p] env)) [] = (do
      let (f, first) ← holding [ov] (getMethod ov name (do return (← importBound o env).getD true))
      callWith pos f first (backTo pos (starEach [.Constant (.str msg) j p] env)) []) := fun ov => by
    unfold methodCall methodCallPos
    rw [h, Bool.or_true]
    rfl
  simp only [e]

theorem not_interactive {env : Env} (h : env.scope.kind = .function) : interactive env = false := by unfold interactive; rw [h]; rfl

theorem init_call {K : Frag} {mg mb : Str → Option Value} {s : Shared} {B newId i : String} {bmB bm : List Value} {C e t0 fI cc cda N : Addr} {nm q qual par f msg file : Str} {tf : Tok} {bs : List Value} {sn : List Str} {sub : List Value} {ab : Bool} {col : Option Bool} {dd : Option Addr} {k0 k1 k2 k3 k5 : Option Value}
    {params : Arguments} {body : List Stmt} {scope : Scope} {dV kV doc pm ct oc ccl cl : Value} {an od cdd cld : Option Addr} {osl ccs csl : Array (Option Value)} {vs : Array Value} {ar : Arg} {v : Value}
    (XB : XB B newId i bmB) (XT : XText prog scope par f msg body)
    {hb : Heap} (Xb : K.In hb) (kb : ∀ b o, hb.get? b = some o → s.heap.get? b = some o) (neb : hb.get? e = none) (gl : s.heap.Ns mainGlobals mg) (hm : mg "super" = none) (bl : s.heap.Ns builtinsNs mb) (hmb : mb "super" = bootBuiltins "super") (lim : s.heap.NoLimit) (room : A.depth < recursionLimit)
    (hC : K.lookup C = some (excClassObj nm q C N bs bm true sn sub ab col dd k0 k1 k2 k3 k5 newId)) (ht : excTail bmB bm = true)
    (lf : K.lookup fI = some ⟨oc, od, .func (ksFn "__init__" qual params body scope dV kV doc pm an (.ref cda) ct cc), osl⟩) (hcd : codeIn K (.ref cda) qual = true)
    (lcode : K.lookup cda = some ⟨ccl, cdd, .fields vs, ccs⟩) (hvs : vs[2]? = some (.str file tf)) (hfile : ((prog.main.file : Str) == file) = true)
    (lcell : K.lookup cc = some ⟨cl, cld, .cell (some (.ref C)), csl⟩) (hsub : mroIn K C (.ref C) = some true) (hsup : ks_superIn K C C "__init__" = some (some (.builtin i))) (hB : subIn K (.ref C) (.type B) = some true)
    (noop : nsIn K cStatics "thirdparty.any" = some none) (sa : findIn K (.ref C) "__setattr__" = some (some (.builtin "object.__setattr__"))) (hno : findIn K (.ref C) f = some none)
    (hp : (params.posonlyargs ++ params.args).head? = some ar) (har : ar.arg = "self")
    (bind : BindsTo s (ksFn "__init__" qual params body scope dV kV doc pm an (.ref cda) ct cc) ⟨[.ref e, v], []⟩ [("self", .ref e), (par, v)])
    (he : s.heap.get? e = some (HandSPX.excO C t0))
    (hq : ∀ h' tk' dx t', (∀ b o, b ≠ e → s.heap.get? b = some o → h'.get? b = some o) → s.heap.objs.size ≤ dx → dx ≠ e → h'.get? e = some { HandSPX.excO C t' with dict := some dx } → h'.Ns1 dx (fun y => if y = f then some v else none) →
      R (.ok (.ret .none)) ⟨h', s.gens, s.drawn, tk', s.os⟩) :
    codeAny (model prog w) A (.call (.ref fI) ⟨[.ref e, v], []⟩) R s := by
  obtain ⟨p0, p1, p2, p3, p4, p5, p6, p7, p8, p9, j, hline, rfl⟩ := XT.body
  have X : K.In s.heap := Xb.keeps kb
  have hC1 := X _ _ hC
  have hcl : clsIn K C = some { name := nm, bases := bs, mro := .ref C :: bm, ns := N, qualname := q, hasDict := true, slotNames := sn, subclasses := sub, abstract := ab, collection := col, hasDel := false } := by unfold clsIn; rw [hC] <;> rfl
  have hbin : ∀ y ∈ [(("self" : Str), Value.ref e), (par, v)], scope.names.lookup y.1 = some .local := fun y hy => by
    rcases List.mem_cons.mp hy with rfl | hy
    · exact XT.self
    · rcases List.mem_singleton.mp hy with rfl
      exact XT.par_
  refine ks_codeAny_call_defAt room (X _ _ lf) rfl lim (codeRec_of X hcd) rfl bind XT.cell hbin (fun h1 hns k1 => ?_) XT.co XT.gen XT.kind
  have X1 : K.In h1 := X.keeps k1
  have ns_self : (fun x => List.lookup x [(("self" : Str), Value.ref e), (par, v)].reverse) ("self" : Str) = some (.ref e) := by
    show List.lookup ("self" : Str) [(par, v), (("self" : Str), Value.ref e)] = _
    have z : (("self" : Str) == par) = false := by rw [BEq.comm]; exact XT.ne
    rw [List.lookup_cons, z]
    rfl
  have ns_par : (fun x => List.lookup x [(("self" : Str), Value.ref e), (par, v)].reverse) par = some v := by
    show List.lookup par [(par, v), (("self" : Str), Value.ref e)] = _
    rw [List.lookup_cons, beq_self_eq_true]
  generalize hm0 : (fun x => List.lookup x [(("self" : Str), Value.ref e), (par, v)].reverse) = m0 at hns ns_self ns_par
  obtain ⟨h0, g, d, tk0, os⟩ := s
  dsimp only at X kb gl bl lim he hq hns k1 ⊢
  have he1 : h1.get? e = some (HandSPX.excO C t0) := k1 _ _ he
  refine ks_wpAt_execs_cons (ks_wpAt_Expr_any (ks_wpAt_MethodCall ?_ (method_eq hline)) (not_interactive XT.kind) rfl)
  refine ks_wpAt_super_base XT.sup XT.cls (by decide) rfl (X1 _ _ lf) rfl hp rfl (X1 _ _ lcode) rfl hvs hfile XT.top ?_
  refine ks_loadName_global XT.kind XT.sup (loadGlobal_builtin (gl.keeps k1) hm (bl.keeps k1) (hmb.trans (by decide +kernel : bootBuiltins "super" = some (.type "super"))) ⟨rfl, ?_⟩)
  refine wpAny_loadName_free XT.kind XT.cls rfl ⟨_, X1 _ _ lcell, rfl⟩ ?_
  rw [har]
  refine wpAny_loadName_local XT.kind XT.self hns ns_self ?_
  refine ks_wpAny_isType_cls (X1 _ _ hC) rfl ⟨rfl, ?_⟩
  refine ks_wpAny_call_super (X1 _ _ hC) rfl he1 rfl (fun c z => by cases z) (looks_mroIn X1 hsub) (fun h2 so k2 => ?_)
  have X2 : K.In h2 := X1.keeps k2
  have he2 : h2.get? e = some (HandSPX.excO C t0) := k2 _ _ he1
  have I2 : InstAt h2 e (HandSPX.excO C t0) C none := ⟨he2, rfl, rfl, trivial⟩
  have hI : Looks (model prog w) h2 (isInstance (.ref e) (.type B)) true := I2.type.andThen (looks_subIn X2 hB)
  have hal : alongIn K "__init__" (((Value.ref C :: bm).dropWhile (· != .ref C)).drop 1) = some (some (.builtin i)) := by
    unfold ks_superIn at hsup
    rw [hcl] at hsup
    exact hsup
  refine kxs_getMethod XB.KF so (looks_opaque X2 noop) (l₀ := .ref C :: bm) (fun A Q E s k q => wpAny_bind ((looks_clsIn X2 hcl) A _ E s k (wpAny_pure q))) rfl X2 hal hI (ks_ne X2 I2 hcl) (by decide) ?_
  have kp : ∀ b o, h2.get? b = some o → (h2.push (kxs_mw i e)).get? b = some o := fun b o z => Heap.get?_push_of_some _ z
  have hmw : (h2.push (kxs_mw i e)).get? h2.objs.size = some (kxs_mw i e) := Heap.get?_push_at rfl rfl
  refine kxs_callWith (i := i) (x := e) rfl (evalArgs_plain (spliced_cons (Constant_str (k := j) (pos := p3) (spliced_nil ⟨hmw, ?_⟩))))
  have X3 : K.In (h2.push (kxs_mw i e)) := X2.keeps kp
  have he3 : (h2.push (kxs_mw i e)).get? e = some (HandSPX.excO C t0) := kp _ _ he2
  refine wpAny_call (codeAny_of_tree ?_)
  show wpAny _ _ (callAny (.ref h2.objs.size) ⟨[.str msg _], []⟩) _ _ _
  simp only [callAny]
  refine wpAny_bind (wpAny_load hmw ?_)
  simp only [kxs_mw, show (Value.type "method-wrapper" == Value.type "method" || Value.type "method-wrapper" == Value.type "builtin_function_or_method" || Value.type "method-wrapper" == Value.type "method-wrapper") = true by decide, if_true]
  refine KFB.if_so (by decide) ?_
  refine wpAny_bind (check_bound_init XB.FB.toExcCallFacts (X3 _ _ hC) he3 rfl ?_)
  refine wpAny_bind (wpAny_pure (wpAny_pure ?_))
  refine ⟨plainId_quiet XB.FB.init.plain _, codeAny_builtin XB.FB.initEntry ?_⟩
  refine exc_init_tree (cls := .ref C) (t0 := t0) (dv := none) (c2 := .none) (c3 := .none) (b4 := .bool false) he3 (by rw [sizeLine_eq]; show 1 ≤ _; omega) (fun h4 k4 he4 _ => ?_)
  have kk : ∀ b o, b ≠ e → h0.get? b = some o → h4.get? b = some o := fun b o hb z => k4 b o hb (kp _ _ (k2 _ _ (k1 _ _ z)))
  have Ce : C ≠ e := fun z => by rw [z, he] at hC1; cases hC1
  have X4 : K.In h4 := Xb.keeps fun b o z => kk b o (fun y => by rw [y, neb] at z; cases z) (kb b o z)
  have hns4 : h4.Ns h0.objs.size m0 := by
    obtain ⟨oL, es, ep, hL, r⟩ := hns
    exact ⟨oL, es, ep, k4 _ _ (fun z => absurd (Heap.lt_size he) (by rw [z]; exact Nat.lt_irrefl _)) (kp _ _ (k2 _ _ hL)), r⟩
  refine ks_wpAt_execs_cons (ks_wpAt_Assign_Attr (wpAt_of_wpAny ?_))
  refine wpAny_Name ?_ XT.dbg
  refine wpAny_loadName_local ?kk1 ?kk2 hns4 ns_par ?_
  case kk1 => exact XT.kind
  case kk2 => exact XT.par_
  refine wpAny_Name ?_
  refine wpAny_loadName_local ?kl1 ?kl2 hns4 ns_self ?_
  case kl1 => exact XT.kind
  case kl2 => exact XT.self
  refine PySem.W.set_plain (od := none) X4 ⟨he4, rfl, rfl, trivial⟩ sa ?_
  refine osa XB.pass XB.ob XB.ne X4 he4 hcl (show excTail bmB (.ref C :: bm) = true from ht) rfl hno (fun h5 tk5 dx k5 dn dne hx hn => ?_)
  have hz : h0.objs.size ≤ h4.objs.size := by
    obtain ⟨oL, es, ep, hL, r⟩ := hns4
    exact Nat.le_of_lt (Heap.lt_size hL)
  refine wpAt_of_wpAny (wpAny_execs_nil ?_)
  exact hq h5 tk5 dx _ (fun b o hb z => k5 b o hb (kk b o hb z)) (Nat.le_trans hz dn) dne hx hn
end
end PySem.Mxe

namespace L2.Mi
open PySem PySem.Spec PyProof.Rows L2

/-! ### own exceptions: made and raised -/
/-- the class n has the field f, its __init__ says super().__init__(text); self.f = p -/
structure XOwn (P : Program) (K : PySem.W.Frag) (n f : Str) : Prop where
  ex : ∃ (C fI : Addr), PySem.W.nsIn K mainGlobals n = some (some (.ref C)) ∧
    (∃ (B newId i : String) (bmB bm : List Value) (N : Addr) (nm q : Str) (bs : List Value) (sn : List Str) (sub : List Value) (ab : Bool) (col : Option Bool) (dd : Option Addr) (k0 k1 k2 k3 k5 : Option Value),
      PySem.Mxe.XB B newId i bmB ∧ K.lookup C = some (excClassObj nm q C N bs bm true sn sub ab col dd k0 k1 k2 k3 k5 newId) ∧ PySem.W.excTail bmB bm = true ∧
      PySem.W.ks_superIn K C C "__init__" = some (some (.builtin i)) ∧ PySem.W.subIn K (.ref C) (.type B) = some true) ∧
    PySem.W.findIn K (.ref C) "__init__" = some (some (.ref fI)) ∧ PySem.W.typeIn K (.ref fI) = some (.type "function") ∧
    (∃ (cc cda : Addr) (qual par msg file : Str) (tf : Tok) (params : Arguments) (body : List Stmt) (scope : Scope) (dV kV doc pm ct oc ccl cl : Value) (an od cdd cld : Option Addr) (osl ccs csl : Array (Option Value)) (vs : Array Value) (ar : Arg),
      PySem.Mxe.XText P scope par f msg body ∧ K.lookup fI = some ⟨oc, od, .func (PySem.W.ksFn "__init__" qual params body scope dV kV doc pm an (.ref cda) ct cc), osl⟩ ∧ PySem.W.codeIn K (.ref cda) qual = true ∧
      K.lookup cda = some ⟨ccl, cdd, .fields vs, ccs⟩ ∧ vs[2]? = some (.str file tf) ∧ ((P.main.file : Str) == file) = true ∧ K.lookup cc = some ⟨cl, cld, .cell (some (.ref C)), csl⟩ ∧
      (params.posonlyargs ++ params.args).head? = some ar ∧ ar.arg = "self" ∧
      ∀ (s : Shared) (e v : Value), BindsTo s (PySem.W.ksFn "__init__" qual params body scope dV kV doc pm an (.ref cda) ct cc) ⟨[e, v], []⟩ [("self", e), (par, v)]) ∧
    PySem.W.mroIn K C (.ref C) = some true ∧ PySem.W.findIn K (.ref C) "__setattr__" = some (some (.builtin "object.__setattr__")) ∧ PySem.W.findIn K (.ref C) f = some none ∧
    PySem.W.subIn K (.ref C) (.type "BaseException") = some true ∧ PySem.W.typeIn K (.ref C) = some (.type "type") ∧ PySem.W.keepIn K (.ref C) = true ∧
    PySem.W.findIn K (.ref C) "__getattribute__" = some (some (.builtin "BaseException.__getattribute__")) ∧ PySem.W.findIn K (.ref C) "__getattr__" = some none ∧ PySem.W.hasDictIn K C = true
/-- the module's word for exceptions -/
structure XMod (K : PySem.W.Frag) (mg : Str → Option Value) : Prop where
  sup : mg "super" = none
  nop : PySem.W.nsIn K cStatics "thirdparty.any" = some none

def oneQ (F : V → Hp → Prop) : List V → Hp → Prop := fun ws H => match ws with
  | [v] => F v H
  | _ => False
section
variable {X : Cx} {W : WX} {n x f : Str} {e : Expr} {te : TE} {fa : ME} {p pos : Pos}
theorem pmk_x (T : XOwn X.prog X.K n f) (M : XMod X.K X.mg) (hr : Room 1 X.A) (hg : Gl X n) (hm : ∀ C, PySem.W.nsIn X.K mainGlobals n = some (some (.ref C)) → X.mg n = some (.ref C)) (hev : PE X e te)
    (hdb : (n == ("__debug__" : Str)) = false := by decide) (he : starEach [e] X.env = (false, eval e X.env) :: starEach [] X.env := by rfl) (hpl : (backTo pos (starEach [] X.env)).any (·.1) = false := by rfl) :
    PMk X (.Call (.Name n p) [e] [] pos) (fun σ H Q => te σ H fun v H1 => ∃ C, PySem.W.nsIn X.K mainGlobals n = some (some (.ref C)) ∧ ∀ d, H1 d = none → Q (.ref C) (some d) (upd H1 d (.xd [(f, v)]))) := by
  obtain ⟨C, fI, nC, ⟨B, newId, i, bmB, bm, N, nm, q, bs, sn, sub, ab, col, dd, k0, k1, k2, k3, k5, XB, hC, ht, hsup, hB⟩, iC, tI, ⟨cc, cda, qual, par, msg, file, tf, params, body, scope, dV, kV, doc, pm, ct, oc, ccl, cl, an, od, cdd, cld, osl, ccs, csl, vs, ar, XT, lf, hcd, lcode, hvs, hfile, lcell, hp, har, bind⟩, hsub, sa, hno, exC, tyC, kC, _⟩ := T.ex
  intro pins s σ H Q I h
  refine wpAny_Call_Name_kw (ld_glob I hg (hm C nC) ?_ hdb)
  refine PySem.W.callWith_K (h₀ := X.base) I.ok.mod.kin kC (thn ((pa_cons hev pa_nil he).run pos pins s σ H (oneQ fun v H1 => ∃ C, PySem.W.nsIn X.K mainGlobals n = some (some (.ref C)) ∧ ∀ d, H1 d = none → Q (.ref C) (some d) (upd H1 d (.xd [(f, v)]))) I h) fun us s1 ⟨ws, H1, I1, r1, q1⟩ => ⟨I1.kIn, ?_⟩) he hpl
  show wpAny _ _ (call (.ref C) us) _ _ _
  obtain ⟨v, rfl⟩ : ∃ v, ws = [v] := by
    match ws, q1 with
    | [v], _ => exact ⟨v, rfl⟩
  obtain ⟨u, rfl, rv⟩ := vals1 r1
  obtain ⟨C', nC', q2⟩ : ∃ C, PySem.W.nsIn X.K mainGlobals n = some (some (.ref C)) ∧ ∀ d, H1 d = none → Q (.ref C) (some d) (upd H1 d (.xd [(f, v)])) := q1
  obtain rfl : C' = C := by rw [nC] at nC'; cases nC'; rfl
  obtain ⟨hp1, g, dr, tk, os⟩ := s1
  have hT : ∀ Y : String, bm.contains (.type Y) = bmB.contains (.type Y) := fun Y => PySem.W.excTail_contains Y bm ht
  refine wpAny_call (PySem.HandSPX.call_own XB.FB hT (I1.kIn _ _ hC) (PySem.W.looks_findIn I1.kIn iC) (fun self => PySem.W.bind_fn I1.kIn self tI) (by rw [sizeLine_eq]; show 1 ≤ _; omega) ?_)
  have kk : ∀ b o, hp1.get? b = some o → ((hp1.push (PySem.W.kdv_tup [u])).push (PySem.HandSPX.excO C' hp1.objs.size)).get? b = some o := fun b o z => Heap.get?_push_of_some _ (Heap.get?_push_of_some _ z)
  have hsz : hp1.objs.size ≤ ((hp1.push (PySem.W.kdv_tup [u])).push (PySem.HandSPX.excO C' hp1.objs.size)).objs.size := by
    rw [Heap.size_push, Heap.size_push]
    exact Nat.le_succ_of_le (Nat.le_succ _)
  have hget : ((hp1.push (PySem.W.kdv_tup [u])).push (PySem.HandSPX.excO C' hp1.objs.size)).get? (hp1.objs.size + 1) = some (PySem.HandSPX.excO C' hp1.objs.size) := by heap_get
  have hbk : ∀ b o, X.base.get? b = some o → hp1.get? b = some o := I1.bk
  obtain ⟨mb, hmb, hmb2⟩ := I1.mod.blt
  have bsz : X.base.objs.size ≤ hp1.objs.size := Nat.le_trans I1.ok.bsz I1.sz
  have neb : X.base.get? (hp1.objs.size + 1) = none := Heap.get?_none_of_le (Nat.le_trans bsz (Nat.le_succ _))
  refine PySem.Mxe.init_call XB XT (s := ⟨(hp1.push (PySem.W.kdv_tup [u])).push (PySem.HandSPX.excO C' hp1.objs.size), g, dr, tk, os⟩) I1.mod.kin (fun b o z => kk b o (hbk b o z)) neb ((I1.mod.glob.keeps hbk).keeps kk) M.sup ((hmb.keeps hbk).keeps kk) (hmb2 "super" (by decide)) (I1.nolimit.keeps kk) ?_
    hC ht lf hcd lcode hvs hfile lcell hsub hsup hB M.nop sa hno hp har (bind _ _ _) hget ?_
  · exact (hr.make (k := 0) C' [u] []).depth
  · intro h' tk' dx t' k' dn dne he' hns
    refine ⟨rfl, ?_⟩
    have hn1 : H1 dx = none := I1.hok.fresh (Nat.le_trans hsz dn)
    obtain ⟨G, g1', g2'⟩ := restrict h' fun b => decide (b ≠ hp1.objs.size + 1)
    have gk : ∀ b, b ≠ hp1.objs.size + 1 → G.get? b = h'.get? b := fun b hb => g1' b (decide_eq_true hb)
    have ge : G.get? (hp1.objs.size + 1) = none := g2' _ (by simp)
    have kG : ∀ b o, hp1.get? b = some o → G.get? b = some o := fun b o z => by
      have hb : b ≠ hp1.objs.size + 1 := Nat.ne_of_lt (Nat.lt_succ_of_lt (Heap.lt_size z))
      rw [gk b hb]
      exact k' b o hb (kk b o z)
    have na : H1 (hp1.objs.size + 1) = none := I1.hok.fresh (Nat.le_succ _)
    have J : Inv X pins σ (upd H1 dx (.xd [(f, v)])) ⟨G, g, dr, tk', os⟩ := I1.laid (t' := tk') (a := dx) (o := .xd [(f, v)]) (h' := G) kG (Nat.le_trans hsz dn)
      ⟨_, hns.at fun o z => (gk dx dne).trans z, relO_put (fs := []) rv fun g => True.intro⟩
    refine ⟨hp1.objs.size + 1, _, _, ⟨G, g, dr, tk', os⟩, _, .ref C', some dx, rfl, J, fun b o z => ?_, ge, he', ⟨rfl, rfl⟩, rfl, rfl, ?_, rfl, J.bare, raises_own exC tyC, q2 dx hn1⟩
    · by_cases hb : b = hp1.objs.size + 1
      · rw [hb, ge] at z
        cases z
      · exact (gk b hb).symm.trans z
    · rw [upd_ne (Ne.symm dne)]
      exact na
/-- raise n(e) -/
def sRaise (n f : Str) (a : ME) : MS := fun l c => (a l c).seq l fun d c1 => .exc ⟨n, [(f, d)]⟩ l c1
theorem ms_raise {p2 : Pos} (hc : X.calm = true) (tk : Takes X W) (T : XOwn X.prog X.K n f) (M : XMod X.K X.mg) (hr : Room 1 X.A) (hg : Gl X n) (hm : ∀ C, PySem.W.nsIn X.K mainGlobals n = some (some (.ref C)) → X.mg n = some (.ref C)) (ha : PE X e (rdE X.K W fa))
    (hdb : (n == ("__debug__" : Str)) = false := by decide) (he : starEach [e] X.env = (false, eval e X.env) :: starEach [] X.env := by rfl) (hpl : (backTo pos (starEach [] X.env)).any (·.1) = false := by rfl) :
    PS X (.Raise (some (.Call (.Name n p) [e] [] pos)) none p2) (rdS X.K W (sRaise n f fa)) :=
  PSi (ps_raise hc tk (pmk_x T M hr hg hm ha hdb he hpl)) fun D σ H ⟨I, m, l, c, R, L, A⟩ => ⟨I, m, l, c, R, L, After.mono (AfterS.seq (rep := rD X.K) L A) fun v H1 ⟨I1, m1, c1, d1, E1, R1, p1, A1⟩ => by
    obtain ⟨C, _, nC, _⟩ := T.ex
    refine ⟨C, nC, fun d nd => ?_⟩
    obtain ⟨R2, E2⟩ := alloc (o := .xd [(f, v)]) R1 nd
    exact A1 _ _ _ σ (.ref C) (some d) E2 R2 ((L.ext E1).ext E2) ⟨.inl nC, .inr ⟨d, [(f, v)], rfl, upd_same, .cons (Rep.ext p1 E2) .nil⟩⟩⟩
end

/-! ### try: several clauses, with and without a name -/
inductive HdT where
  | cl (c : Value) (as : Option Nat) (ts : Addr → Value → Option Addr → TS)
  | stop
def wGen (K : PySem.W.Frag) (Wout : WX) (D : Ends) : List HdT → WX
  | [] => Wout
  | .stop :: _ => fun _ _ _ _ => False
  | .cl c none ts :: r => fun cls d σ H => ∃ b, PySem.W.exmOne K cls c = some b ∧ (b = true → ∀ a, H a = none → ts a cls d D σ H) ∧ (b = false → wGen K Wout D r cls d σ H)
  | .cl c (some i) ts :: r => fun cls d σ H => ∃ b, PySem.W.exmOne K cls c = some b ∧ (b = true → ∀ a, H a = none → ts a cls d { nx := fun σ' H' => D.nx (σ'.set i none) H', rt := D.rt, bk := fun σ' H' => D.bk (σ'.set i none) H', ct := fun σ' H' => D.ct (σ'.set i none) H' } (σ.set i (some (.ref a))) H) ∧
    (b = false → wGen K Wout D r cls d σ H)
inductive HdsG (X : Cx) : List ExceptHandler → List HdT → Prop
  | nil : HdsG X [] []
  | stop {hds : List ExceptHandler} : HdsG X hds [.stop]
  | cl {x : Str} {c : Value} {ts : Addr → Value → Option Addr → TS} {b₀ : Stmt} {suite : List Stmt} {np pos' : Pos} {hds : List ExceptHandler} {l : List HdT} (hc : Names X x c)
      (hsu : ∀ (a : Addr) (oe : Obj) (cls : Value) (d : Option Addr) (pn : List (Addr × Obj)), Zc cls d oe → (∃ vs, oe.data = .fields vs) → PSs (X.suite a ((a, oe) :: pn)) (b₀ :: suite) (ts a cls d)) (r : HdsG X hds l) :
      HdsG X (.ExceptHandler (some (.Name x np)) none (b₀ :: suite) pos' :: hds) (.cl c none ts :: l)
  | as {x n : Str} {c : Value} {i : Nat} {ts : Addr → Value → Option Addr → TS} {b₀ : Stmt} {suite : List Stmt} {np pos' : Pos} {hds : List ExceptHandler} {l : List HdT} (hN : X.N.Nodup) (hi : X.N[i]? = some n) (hln : X.env.kindOf n = some .local) (hc : Names X x c)
      (hsu : ∀ (a : Addr) (oe : Obj) (cls : Value) (d : Option Addr) (pn : List (Addr × Obj)), Zc cls d oe → (∃ vs, oe.data = .fields vs) → PSs (X.suite a ((a, oe) :: pn)) (b₀ :: suite) (ts a cls d)) (r : HdsG X hds l) :
      HdsG X (.ExceptHandler (some (.Name x np)) (some n) (b₀ :: suite) pos' :: hds) (.cl c (some i) ts :: l)
section
variable {X : Cx} {body : List Stmt} {h₀ : ExceptHandler} {hds : List ExceptHandler} {l : List HdT} {pos : Pos} {tb : WX → TS} {Wout : WX}
theorem ps_try_gen (hs : X.stack = X.env :: X.outer) (hf : X.env.frame = some X.env.locals) (tk : Takes X Wout)
    (hb : ∀ (W : WX) (pn : List (Addr × Obj)) (xe : Value → Shared → Prop), Takes (X.tr pn xe) W → PassesOwn (model X.prog X.w) X.A X.env xe → PSs (X.tr pn xe) body (tb W))
    (hh : HdsG X (h₀ :: hds) l) : PS X (.Try body (h₀ :: hds) [] [] pos) (fun D σ H => tb (wGen X.K Wout D l) D σ H) := by
  refine ⟨fun pins s σ H D I h => ?_⟩
  have ok := I.ok
  have hfr : X.A.frames = some (X.env :: X.outer) := by rw [ok.frames, hs]
  refine wpAny_Try_except ?_
  refine wpAny_mono ((hb (wGen X.K Wout D l) (X.pn ++ pins) (fun e s₁ => wpAny (model X.prog X.w) X.A (noteFrame e X.env) (fun _ s₂ => wpAny (model X.prog X.w) X.A (setFlight e none) (fun _ s₃ =>
    wpAny (model X.prog X.w) X.A (handleBy e X.env (h₀ :: hds)) (SP X pins D) X.xe s₃) X.xe s₂) X.xe s₁) (fun u s' xx => ?_) PassesOwn.looking).run [] s σ H D (I.toTry _) h) (fun f s1 hsp => ?_) (fun e s1 he => he)
  · -- the catch
    obtain ⟨a, B, sI, pins', σ', H', cls, d, rfl, J', nb, up, sky, na, os, ag, w⟩ := xx
    have J : Inv X pins σ' H' sI := J'.ofTry ok
    have sky' : Sky B (X.env :: X.outer) a (Zc cls d) X.env.locals s'.heap := by rw [← hs]; exact sky
    show wpAny (model X.prog X.w) X.A (noteFrame (.ref a) X.env) _ _ _
    refine Sky.land Zc.steady hfr hf sky' fun h3 fl3 up3 => ?_
    have J3 : Inv X pins σ' H' { s' with heap := h3 } := J.landed nb fl3.1 (up.trans up3) os ag
    obtain ⟨oe3, vs3, he3, hz3, hd3⟩ := fl3.there
    have notFr : ∀ {h : Heap} {o : Obj} {vs : Array Value}, h.FunFrames B (X.env :: X.outer) → h.get? a = some o → o.data = .fields vs → a ∉ frs (X.env :: X.outer) := fun {h o vs} ff e dd hm => by
      obtain ⟨_, o', e', hnf⟩ := ff.mem hm
      rw [e] at e'; cases e'
      exact hnf _ dd
    have nfr := notFr fl3.2.2.1 he3 hd3
    have nL : a ≠ X.env.locals := fun z => nfr (List.mem_filterMap.mpr ⟨X.env, List.mem_cons_self, by rw [hf, z]⟩)
    have nF : a ∉ X.fs := fun hm => by
      obtain ⟨e, he, q⟩ := List.mem_filterMap.mp hm
      exact nfr (List.mem_filterMap.mpr ⟨e, List.mem_cons_of_mem _ he, q⟩)
    have S3 := J3.suite he3 hd3 na nL nF
    have test : ∀ {x : Str} {np : Pos} {c : Value} {Q : Value → Shared → Prop} {E : Value → Shared → Prop}, Names X x c → Q c { s' with heap := h3 } → wpAny (model X.prog X.w) (X.A.mark (some (.ref a))) (eval (.Name x np) X.env) Q E { s' with heap := h3 } := fun {x np c Q E} hc q => by
      obtain ⟨hg, hdbg, hm | ⟨hm, hv, hnn⟩⟩ := hc
      · exact ld_glob (X := X.suite a ((a, oe3) :: (X.pn ++ pins))) S3 hg hm q hdbg
      · exact ld_blt (X := X.suite a ((a, oe3) :: (X.pn ++ pins))) S3 hg hm hv q hnn hdbg
    have go : ∀ {hds' : List ExceptHandler} {l' : List HdT}, HdsG X hds' l' → wGen X.K Wout D l' cls d σ' H' →
        wpAny (model X.prog X.w) X.A (handleBy (.ref a) X.env hds') (SP X pins D) X.xe { s' with heap := h3 } := by
      intro hds' l' hk
      induction hk with
      | stop => intro w; exact w.elim
      | nil =>
        intro w
        refine wpAny_handleBy_nil ?_
        obtain ⟨k1, k2, k3, oe, vs, T, oT, ts', he, hz, hd, h1, hr⟩ := id fl3
        unfold PySem.passOn
        refine wpAny_bind (wpAny_field he hd h1 ?_)
        rw [if_neg (show ¬ ((Value.ref T == Value.none) = true) from by simp)]
        have fin : wpAny (model X.prog X.w) X.A (setFlight (.ref a) X.env.frame) (fun _ s4 => wpAny (model X.prog X.w) X.A (throw (.ref a) : Sem Flow) (SP X pins D) X.xe s4) X.xe { s' with heap := h3 } := by
          rw [hf]
          refine HandSPX.setFlight_upZ fl3 fun h4 hh4 up4 => wpAny_throw (tk _ _ ?_)
          exact ⟨a, B, sI, pins, σ', H', cls, d, rfl, J, nb, (up.trans up3).trans up4, .inr (.inr (by rw [hs]; exact hh4)), na, os, ag, w⟩
        first
          | exact wpAny_bind (wpAny_pure (wpAny_bind fin))
          | exact wpAny_bind fin
      | @cl x c ts b₀ suite np pos' hds2 l2 hc hsu r ih =>
        intro w
        obtain ⟨b, hb1, hyes, hno⟩ := w
        refine wpAny_handleBy_cons (codeAny_handlers_test ?_) (by intro q; cases q)
        have LT : PySem.W.Looks (model X.prog X.w) h3 (typeOf (.ref a)) cls := fun A Q E s k q => wpAny_typeOf_ref (k _ _ he3) (by rw [hz3.1]; exact q)
        have LM := PySem.W.exm_one (M := model X.prog X.w) (J3.kIn) LT hb1
        refine test hc (LM.here ?_)
        cases b with
        | true =>
          refine codeAny_handlers_suite ?_
          refine HandSPX.lands_againZ fl3 fun h4 fl4 up4 => ?_
          have J4 : Inv X pins σ' H' { s' with heap := h4 } := J.landed nb fl4.1 ((up.trans up3).trans up4) os ag
          obtain ⟨oe4, vs4, he4, hz4, hd4⟩ := fl4.there
          have S4 := J4.suite he4 hd4 na nL nF
          refine wpAny_mono ((hsu a oe4 cls d (X.pn ++ pins) hz4 ⟨_, hd4⟩).run [] _ _ H' _ S4 (hyes rfl a na)) (fun f s6 hsp => ?_) (fun _ _ z => False.elim z)
          cases f with
          | next =>
            obtain ⟨σ6, H6, S6, q6⟩ := hsp
            exact ⟨_, _, S6.unsuite ok, q6⟩
          | brk =>
            obtain ⟨σ6, H6, S6, q6⟩ := hsp
            exact ⟨_, _, S6.unsuite ok, q6⟩
          | cont =>
            obtain ⟨σ6, H6, S6, q6⟩ := hsp
            exact ⟨_, _, S6.unsuite ok, q6⟩
          | ret u =>
            obtain ⟨v6, σ6, H6, S6, r6, q6⟩ := hsp
            exact ⟨_, _, _, S6.unsuite ok, r6, q6⟩
        | false =>
          show wpAny _ X.A (handleBy (.ref a) X.env hds2) _ _ _
          exact ih (hno rfl)
      | @as x n c i ts b₀ suite np pos' hds2 l2 hN hi hln hc hsu r ih =>
        intro w
        obtain ⟨b, hb1, hyes, hno⟩ := w
        refine wpAny_handleBy_cons (codeAny_handlers_test ?_) (by intro q; cases q)
        have LT : PySem.W.Looks (model X.prog X.w) h3 (typeOf (.ref a)) cls := fun A Q E s k q => wpAny_typeOf_ref (k _ _ he3) (by rw [hz3.1]; exact q)
        have LM := PySem.W.exm_one (M := model X.prog X.w) (J3.kIn) LT hb1
        refine test hc (LM.here ?_)
        cases b with
        | true =>
          refine codeAny_handlers_suite_as ?_
          refine HandSPX.lands_againZ fl3 fun h4 fl4 up4 => ?_
          have J4 : Inv X pins σ' H' { s' with heap := h4 } := J.landed nb fl4.1 ((up.trans up3).trans up4) os ag
          obtain ⟨oe4, vs4, he4, hz4, hd4⟩ := fl4.there
          have S4 := J4.suite he4 hd4 na nL nF
          refine store_ok (X := X.suite a ((a, oe4) :: (X.pn ++ pins))) (v := .ref a) S4 hN hi (.inl hln) rfl (fun s5 S5 => ?_) (.inr hln)
          refine wpAny_mono ((hsu a oe4 cls d (X.pn ++ pins) hz4 ⟨_, hd4⟩).run [] s5 _ H' _ S5 (hyes rfl a na)) (fun f s6 hsp => ?_) (fun _ _ z => False.elim z)
          have end_ : ∀ {σ6 : St} {H6 : Hp} {Q : Shared → Prop}, Inv (X.suite a ((a, oe4) :: (X.pn ++ pins))) [] σ6 H6 s6 → (∀ s7, Inv X pins (σ6.set i none) H6 s7 → Q s7) →
              wpAny (model X.prog X.w) X.A (do bindName X.env n .none; unbindBehindTheSuite X.env n pos') (fun _ s7 => Q s7) X.xe s6 := fun {σ6 H6 Q} S6 hq => gone_ok (S6.unsuite ok) hN hi hln hq
          cases f with
          | next =>
            obtain ⟨σ6, H6, S6, q6⟩ := hsp
            exact end_ S6 fun s7 J7 => ⟨_, _, J7, q6⟩
          | brk =>
            obtain ⟨σ6, H6, S6, q6⟩ := hsp
            exact end_ S6 fun s7 J7 => ⟨_, _, J7, q6⟩
          | cont =>
            obtain ⟨σ6, H6, S6, q6⟩ := hsp
            exact end_ S6 fun s7 J7 => ⟨_, _, J7, q6⟩
          | ret u =>
            obtain ⟨v6, σ6, H6, S6, r6, q6⟩ := hsp
            exact end_ S6 fun s7 J7 => ⟨_, _, _, J7, r6, q6⟩
        | false =>
          show wpAny _ X.A (handleBy (.ref a) X.env hds2) _ _ _
          exact ih (hno rfl)
    exact go hh w
  · cases f with
    | next =>
      obtain ⟨σ', H', J', q⟩ := hsp
      exact wpAny_execs_nil ⟨σ', H', J'.ofTry ok, q⟩
    | brk =>
      obtain ⟨σ', H', J', q⟩ := hsp
      exact ⟨σ', H', J'.ofTry ok, q⟩
    | cont =>
      obtain ⟨σ', H', J', q⟩ := hsp
      exact ⟨σ', H', J'.ofTry ok, q⟩
    | ret u =>
      obtain ⟨v, σ', H', J', r, q⟩ := hsp
      exact ⟨v, σ', H', J'.ofTry ok, r, q⟩
end

/-! ### try over values -/
def clothErrs : List Str := ["InvalidInteger", "InvalidThread", "InvalidCrossing", "InvalidRows", "InvalidPattern", "InvalidList", "InvalidCloth", "InvalidScores", "InvalidSquare", "InvalidDraft", "InvalidLoom", "InvalidText", "InvalidLine", "InvalidCommand", "Duplicate", "WrongTotal", "SizeMismatch", "ScoreMismatch", "SameThread", "TooLarge"]
def stateErrs : List Str := ["Infeasible", "LastThread", "NeverConnected", "Locked", "NothingToUndo"]
def exM (n c : Str) : Bool := n == c || (c == "ClothError" && clothErrs.contains n) || (c == "StateError" && stateErrs.contains n) || (c == "MissingError" && n == "UnknownName")
def EXM (K : PySem.W.Frag) (n c : Str) : Prop := ∀ vn vc, NamV K n vn → NamV K c vc → PySem.W.exmOne K vn vc = some (exM n c)
theorem exm_of {K : PySem.W.Frag} {n c : Str} {vn vc : Value} {b : Bool} (h1 : NamV K n vn) (h2 : NamV K c vc) (h : PySem.W.exmOne K vn vc = some b) (hb : exM n c = b) : EXM K n c := fun un uc k1 k2 => by
  rw [k1.one h1, k2.one h2, h, hb]
inductive HE where
  | cl (c : Str) (as : Option Nat) (f : Ex → MS)
  | stop
def quiet (r : RS) : RS := match r with
  | .exc _ _ _ => .stuck
  | r => r
def wipe (i : Nat) (r : RS) : RS := match r with
  | .go (.nx l) c => .go (.nx (l.set i none)) c
  | .go (.bk l) c => .go (.bk (l.set i none)) c
  | .go (.ct l) c => .go (.ct (l.set i none)) c
  | .go (.rt d) c => .go (.rt d) c
  | _ => .stuck
def hdR (ns : List Str) : List HE → Ex → Ls → Cs → RS
  | [], x, l, c => .exc x l c
  | .stop :: _, _, _, _ => .stuck
  | .cl n none f :: r, x, l, c => if x.cls ∈ ns then (if exM x.cls n = true then quiet (f x l c) else hdR ns r x l c) else .stuck
  | .cl n (some i) f :: r, x, l, c => if x.cls ∈ ns ∧ i < l.length then (if exM x.cls n = true then wipe i (f x (l.set i none) c) else hdR ns r x l c) else .stuck
def sTry (ns : List Str) (b : MS) (hs : List HE) : MS := fun l c => match b l c with
  | .exc x l1 c1 => hdR ns hs x l1 c1
  | r => r
def WF : WX := fun _ _ _ _ => False
def tsP (K : PySem.W.Frag) (f : Ex → MS) (cls : Value) (d : Option Addr) : TS := fun D σ H => ∃ x I m l c, RepX K I m H cls d x ∧ Rel K I H m c ∧ Locs K I m σ l ∧ AfterS K I m H WF D (f x l c)
def tsX (K : PySem.W.Frag) (i : Nat) (f : Ex → MS) (a : Addr) (cls : Value) (d : Option Addr) : TS := fun D σ H => ∃ x I m l c, σ[i]? = some (some (.ref a)) ∧ RepX K I m H cls d x ∧ Rel K I H m c ∧ Locs K I m σ l ∧ AfterS K I m H WF D (f x l c)
theorem Locs.setN {K : PySem.W.Frag} {I : Hp} {m : List Addr} {σ : St} {l : Ls} (i : Nat) (w : Option V) (h : Locs K I m σ l) : Locs K I m (σ.set i w) (l.set i none) := by
  refine ⟨by simp [h.len], fun j d e => ?_⟩
  by_cases hj : i = j
  · subst hj
    by_cases hl : i < l.length
    · rw [List.getElem?_set_self hl] at e
      cases e
    · rw [List.getElem?_eq_none (by simpa using hl)] at e
      cases e
  · rw [List.getElem?_set_ne hj] at e ⊢
    exact h.at_ j d e
inductive HdsM (X : Cx) (ns : List Str) : List ExceptHandler → List HE → Prop
  | nil : HdsM X ns [] []
  | stop {hds : List ExceptHandler} : HdsM X ns hds [.stop]
  | cl {x : Str} {f : Ex → MS} {b₀ : Stmt} {suite : List Stmt} {np pos' : Pos} {hds : List ExceptHandler} {l : List HE} (hc : ∃ v, NamV X.K x v ∧ Names X x v) (hm : ∀ n ∈ ns, EXM X.K n x)
      (hsu : ∀ (a : Addr) (oe : Obj) (cls : Value) (d : Option Addr) (pn : List (Addr × Obj)), Zc cls d oe → (∃ vs, oe.data = .fields vs) → PSs (X.suite a ((a, oe) :: pn)) (b₀ :: suite) (tsP X.K f cls d)) (r : HdsM X ns hds l) :
      HdsM X ns (.ExceptHandler (some (.Name x np)) none (b₀ :: suite) pos' :: hds) (.cl x none f :: l)
  | as {x n : Str} {i : Nat} {f : Ex → MS} {b₀ : Stmt} {suite : List Stmt} {np pos' : Pos} {hds : List ExceptHandler} {l : List HE} (hN : X.N.Nodup) (hi : X.N[i]? = some n) (hln : X.env.kindOf n = some .local) (hc : ∃ v, NamV X.K x v ∧ Names X x v) (hm : ∀ n ∈ ns, EXM X.K n x)
      (hsu : ∀ (a : Addr) (oe : Obj) (cls : Value) (d : Option Addr) (pn : List (Addr × Obj)), Zc cls d oe → (∃ vs, oe.data = .fields vs) → PSs (X.suite a ((a, oe) :: pn)) (b₀ :: suite) (tsX X.K i f a cls d)) (r : HdsM X ns hds l) :
      HdsM X ns (.ExceptHandler (some (.Name x np)) (some n) (b₀ :: suite) pos' :: hds) (.cl x (some i) f :: l)
section
variable {X : Cx} {ns : List Str} {hds : List ExceptHandler} {hes : List HE}
theorem quiet_after {K : PySem.W.Frag} {I : Hp} {m : List Addr} {H : Hp} {W : WX} {D : Ends} {r : RS} (A : AfterS K I m H W D (quiet r)) : AfterS K I m H WF D r := by
  cases r with
  | stuck => exact A
  | exc x l c => exact A.elim
  | go f c => cases f <;> exact A
theorem wipe_after {K : PySem.W.Frag} {I : Hp} {m : List Addr} {H : Hp} {W : WX} {D : Ends} {r : RS} {i : Nat} (A : AfterS K I m H W D (wipe i r)) :
    AfterS K I m H WF { nx := fun σ' H' => D.nx (σ'.set i none) H', rt := D.rt, bk := fun σ' H' => D.bk (σ'.set i none) H', ct := fun σ' H' => D.ct (σ'.set i none) H' } r := by
  cases r with
  | stuck => exact A
  | exc x l c => exact A.elim
  | go f c =>
    cases f with
    | rt d => exact A
    | nx l => exact fun I' m' H' σ' e r L => A I' m' H' _ e r (L.setN i none)
    | bk l => exact fun I' m' H' σ' e r L => A I' m' H' _ e r (L.setN i none)
    | ct l => exact fun I' m' H' σ' e r L => A I' m' H' _ e r (L.setN i none)
theorem hdg_of (h : HdsM X ns hds hes) : ∃ l, HdsG X hds l ∧ ∀ (D : Ends) (W : WX) (cls : Value) (d : Option Addr) (σ : St) (H : Hp) (x : Ex) (I : Hp) (m : List Addr) (ls : Ls) (c : Cs), RepX X.K I m H cls d x → Rel X.K I H m c → Locs X.K I m σ ls →
    AfterS X.K I m H W D (hdR ns hes x ls c) → wGen X.K W D l cls d σ H := by
  induction h with
  | nil => exact ⟨[], .nil, fun D W cls d σ H x I m ls c px R L A => A I m H σ cls d (Ext.refl _ _ _) R L px⟩
  | stop => exact ⟨[.stop], .stop, fun D W cls d σ H x I m ls c px R L A => A.elim⟩
  | @cl y f b₀ suite np pos' hds l hc hm hsu r ih =>
    obtain ⟨l2, g, w⟩ := ih
    obtain ⟨v, hv, hn⟩ := hc
    refine ⟨_, .cl hn hsu g, fun D W cls d σ H x I m ls c px R L A => ?_⟩
    by_cases hx : x.cls ∈ ns
    · have A : AfterS X.K I m H W D (if x.cls ∈ ns then (if exM x.cls y = true then quiet (f x ls c) else hdR ns l x ls c) else .stuck) := A
      rw [if_pos hx] at A
      refine ⟨exM x.cls y, hm _ hx _ _ px.1 hv, fun hb a na => ?_, fun hb => ?_⟩
      · rw [if_pos hb] at A
        exact ⟨x, I, m, ls, c, px, R, L, quiet_after A⟩
      · rw [if_neg (by rw [hb]; exact Bool.false_ne_true)] at A
        exact w D W cls d σ H x I m ls c px R L A
    · have A : AfterS X.K I m H W D (if x.cls ∈ ns then (if exM x.cls y = true then quiet (f x ls c) else hdR ns l x ls c) else .stuck) := A
      rw [if_neg hx] at A
      exact A.elim
  | @as y n i f b₀ suite np pos' hds l hN hi hln hc hm hsu r ih =>
    obtain ⟨l2, g, w⟩ := ih
    obtain ⟨v, hv, hn⟩ := hc
    refine ⟨_, .as hN hi hln hn hsu g, fun D W cls d σ H x I m ls c px R L A => ?_⟩
    by_cases hx : x.cls ∈ ns ∧ i < ls.length
    · have A : AfterS X.K I m H W D (if x.cls ∈ ns ∧ i < ls.length then (if exM x.cls y = true then wipe i (f x (ls.set i none) c) else hdR ns l x ls c) else .stuck) := A
      rw [if_pos hx] at A
      refine ⟨exM x.cls y, hm _ hx.1 _ _ px.1 hv, fun hb a na => ?_, fun hb => ?_⟩
      · rw [if_pos hb] at A
        exact ⟨x, I, m, ls.set i none, c, by rw [List.getElem?_set_self (by rw [L.len]; exact hx.2)], px, R, L.setN i _, wipe_after A⟩
      · rw [if_neg (by rw [hb]; exact Bool.false_ne_true)] at A
        exact w D W cls d σ H x I m ls c px R L A
    · have A : AfterS X.K I m H W D (if x.cls ∈ ns ∧ i < ls.length then (if exM x.cls y = true then wipe i (f x (ls.set i none) c) else hdR ns l x ls c) else .stuck) := A
      rw [if_neg hx] at A
      exact A.elim
theorem ms_try {W : WX} {body : List Stmt} {h₀ : ExceptHandler} {fb : MS} {pos : Pos} (hs : X.stack = X.env :: X.outer) (hf : X.env.frame = some X.env.locals) (tk : Takes X W)
    (hb : ∀ (W : WX) (pn : List (Addr × Obj)) (xe : Value → Shared → Prop), Takes (X.tr pn xe) W → PassesOwn (model X.prog X.w) X.A X.env xe → PSs (X.tr pn xe) body (rdS X.K W fb))
    (hh : HdsM X ns (h₀ :: hds) hes) : PS X (.Try body (h₀ :: hds) [] [] pos) (rdS X.K W (sTry ns fb hes)) := by
  obtain ⟨l, g, w⟩ := hdg_of hh
  refine PSi (ps_try_gen (tb := fun W => rdS X.K W fb) hs hf tk hb g) fun D σ H ⟨I, m, ls, c, R, L, A⟩ => ⟨I, m, ls, c, R, L, ?_⟩
  have A : AfterS X.K I m H W D (match fb ls c with
    | .exc x l1 c1 => hdR ns hes x l1 c1
    | r => r) := A
  cases q : fb ls c with
  | stuck => rw [q] at A; exact A
  | go f c' => rw [q] at A; cases f <;> exact A
  | exc x l1 c1 =>
    rw [q] at A
    exact fun I' m' H' σ' cls dd E' R' L' px => w D W cls dd σ' H' x I' m' l1 c1 px R' L' (AfterS.ext E' A)
end

/-! ### a field of the caught exception -/
theorem RepF.look {K : PySem.W.Frag} {I : Hp} {m : List Addr} {f : Str} {d : D} : ∀ {vs : List (Str × V)} {ds : List (Str × D)}, RepF K I m vs ds → ds.lookup f = some d → ∃ v, vs.lookup f = some v ∧ Rep K I m v d
  | _, _, .nil, e => by cases e
  | _, _, .cons (k := k) h t, e => by
    rw [List.lookup_cons] at e ⊢
    cases q : f == k with
    | true => rw [q] at e; cases e; exact ⟨_, rfl, h⟩
    | false => rw [q] at e; exact RepF.look t e
def mXf (ns : List Str) (f : Str) (x : Ex) : ME := fun _ c => if x.cls ∈ ns then (match x.fs.lookup f with
  | some d => .ok d c
  | none => .stuck) else .stuck
theorem xfc_of {P : Program} {K : PySem.W.Frag} {n f : Str} {v : Value} (T : XOwn P K n f) (h : NamV K n v) : ∃ C, v = .ref C ∧ XfC K C ∧ PySem.W.findIn K (.ref C) f = some none := by
  obtain ⟨C, fI, nC, _, iC, tI, _, hsub, sa, hno, exC, tyC, kC, ga, gg, hd⟩ := T.ex
  exact ⟨C, h.one (.inl nC), ⟨ga, gg, exC, hd⟩, hno⟩
/-- return ['word', e.f] -/
theorem ms_retXf {X : Cx} {ns : List Str} {n f s : Str} {i j : Nat} {a : Addr} {oe : Obj} {cls : Value} {d : Option Addr} {pn : List (Addr × Obj)} {p0 p1 p2 p3 p4 : Pos} (hT : ∀ k ∈ ns, XOwn X.prog X.K k f) (hz : Zc cls d oe) (hf : ∃ vs, oe.data = .fields vs)
    (hv : PE (X.suite a ((a, oe) :: pn)) (.Name n p1) (tVar i)) (hb : attributeBase (.Name n p1) f X.env (eval (.Name n p1) X.env) = eval (.Name n p1) X.env := by rfl) :
    PSs (X.suite a ((a, oe) :: pn)) [.Return (some (.List [.Constant (.str s) j p0, .Attribute (.Name n p1) f p2] p3)) p4] (tsX X.K i (fun x => sRet (mLst (aCons (mC (.str s)) (aCons (mXf ns f x) aNil)))) a cls d) := by
  refine ⟨fun pins st σ H D J ⟨x, I, m, l, c, hσ, px, R, L, A⟩ => ?_⟩
  have A : AfterS X.K I m H WF D (sRet (mLst (aCons (mC (.str s)) (aCons (mXf ns f x) aNil))) l c) := A
  by_cases hx : x.cls ∈ ns
  · cases hl : x.fs.lookup f with
    | none =>
      have e : sRet (mLst (aCons (mC (.str s)) (aCons (mXf ns f x) aNil))) l c = .stuck := by simp [sRet, mLst, aCons, mC, mXf, hx, hl, Mi.R.seq]
      rw [e] at A
      exact A.elim
    | some dv =>
      have e : sRet (mLst (aCons (mC (.str s)) (aCons (mXf ns f x) aNil))) l c = .go (.rt (.lst [.str s, dv])) c := by
        simp [sRet, mLst, aCons, mC, mXf, hx, hl, aNil, fits, sizeLine_eq]
      rw [e] at A
      obtain ⟨C, rfl, T, hno⟩ := xfc_of (hT _ hx) px.1
      rcases px.2 with ⟨_, h2⟩ | ⟨ad, vs, h1, h2, h3⟩
      · rw [h2] at hl; cases hl
      · obtain ⟨v, q1, q2⟩ := h3.look hl
        refine (pss_one (ps_ret (pe_lst (pa_cons pe_str (pa_cons (pe_xf T hno hz hf hv hb) pa_nil))))).run pins st σ H D J ?_
        refine ⟨.ref a, hσ, rfl, rfl, ad, vs, v, h1, R.same _ _ h2, q1, by rw [sizeLine_eq]; show 2 ≤ _; omega, fun p np => ?_⟩
        obtain ⟨R2, E2⟩ := alloc (o := .lst [.str s, v]) R np
        exact A _ _ _ _ E2 R2 (.lst upd_same (.cons (.str s) (.cons (q2.mono E2.same E2.pre) .nil)))
  · have e : sRet (mLst (aCons (mC (.str s)) (aCons (mXf ns f x) aNil))) l c = .stuck := by simp [sRet, mLst, aCons, mC, mXf, hx, Mi.R.seq]
    rw [e] at A
    exact A.elim
end L2.Mi

/-! instances: fields, making, methods, properties -/
namespace L2.Mi
open PySem PySem.Spec PyProof.Rows L2

def insOf (d : D) (c : Cs) : Option (Str × List (Str × D)) := match d with
  | .obj n fs => some (n, fs)
  | .ref k => match c[k]? with
    | some (.ins n fs) => some (n, fs)
    | some (.frz (.obj n fs)) => some (n, fs)
    | _ => none
  | _ => none
section
variable {K : PySem.W.Frag} {I H : Hp} {m : List Addr} {c : Cs}
theorem ins_at {v : V} {d : D} {n : Str} {fs : List (Str × D)} (R : Rel K I H m c) (p : Rep K I m v d) (e : insOf d c = some (n, fs)) : ∃ (a C dx : Addr) (vs : List (Str × V)), v = .ref a ∧ NamV K n (.ref C) ∧ H a = some (.ins C dx vs) ∧ RepF K I m vs fs := by
  cases p with
  | @obj a C dx n' vs ds hn h r => cases e; exact ⟨a, C, dx, vs, rfl, hn, R.same _ _ h, r⟩
  | @ref k a q =>
    have e : (match c[k]? with
      | some (.ins n fs) => some (n, fs)
      | some (.frz (.obj n fs)) => some (n, fs)
      | _ => none) = some (n, fs) := e
    cases z : c[k]? with
    | none => rw [z] at e; cases e
    | some x =>
      rw [z] at e
      have hc := R.cell k a x q z
      cases x with
      | ins n' ds =>
        cases e
        obtain ⟨_, dx, vs, _, _, _, ⟨C, hn, hH⟩, r⟩ := hc
        exact ⟨a, C, dx, vs, rfl, hn, hH, r⟩
      | frz d =>
        cases d with
        | obj n' ds =>
          cases e
          obtain ⟨_, hr⟩ := hc
          cases hr with
          | obj hn h r => exact ⟨a, _, _, _, rfl, hn, R.same _ _ h, r⟩
        | _ => cases e
      | _ => cases e
  | _ => cases e
theorem RepF.lookN {f : Str} : ∀ {vs : List (Str × V)} {ds : List (Str × D)}, RepF K I m vs ds → ds.lookup f = none → vs.lookup f = none
  | _, _, .nil, _ => rfl
  | _, _, .cons (k := k) h t, e => by
    rw [List.lookup_cons] at e ⊢
    cases q : f == k with
    | true => rw [q] at e; cases e
    | false => rw [q] at e; exact RepF.lookN t e
def putFD (f : Str) (d : D) : List (Str × D) → List (Str × D)
  | [] => [(f, d)]
  | (g, x) :: r => if g = f then (g, d) :: r else (g, x) :: putFD f d r
theorem RepF.put {f : Str} {v : V} {d : D} (p : Rep K I m v d) : ∀ {vs : List (Str × V)} {ds : List (Str × D)}, RepF K I m vs ds → RepF K I m (putF f v vs) (putFD f d ds)
  | _, _, .nil => .cons p .nil
  | _, _, .cons (k := k) h t => by
    unfold putF putFD
    by_cases e : k = f
    · rw [if_pos e, if_pos e]; exact .cons p t
    · rw [if_neg e, if_neg e]; exact .cons h (RepF.put p t)
theorem RepF.length : ∀ {vs : List (Str × V)} {ds : List (Str × D)}, RepF K I m vs ds → vs.length = ds.length
  | _, _, .nil => rfl
  | _, _, .cons _ t => congrArg (· + 1) (RepF.length t)
/-- a new cell of any kind -/
theorem Rel.pushC (r : Rel K I H m c) {p : Addr} (np : H p = none) {o : HO} {x : Cell} (q : CellAt K I (upd H p o) (m ++ [p]) p x) : Rel K I (upd H p o) (m ++ [p]) (c ++ [x]) ∧ Ext I m H I (m ++ [p]) (upd H p o) := by
  have sH : Same H (upd H p o) := fun b u e => by rw [upd_ne (ne_of_none e np)]; exact e
  have hp := pre_app m p
  have nm := r.fresh np
  refine ⟨⟨r.same.trans sH, by simp [r.len], fun i j a h1 h2 => ?_, fun k a x h1 h2 => ?_, r.tabs.upHm (nt_none np)⟩, Same.refl I, hp, fun b o h1 hT h2 h3 => ⟨sH _ _ h1, h2, ?_⟩⟩
  · rcases Nat.lt_or_ge i m.length with hi | hi
    · rcases Nat.lt_or_ge j m.length with hj | hj
      · rw [List.getElem?_append_left hi] at h1
        rw [List.getElem?_append_left hj] at h2
        exact r.nd i j a h1 h2
      · rw [List.getElem?_append_left hi] at h1
        rw [List.getElem?_append_right hj] at h2
        have e : a = p := by
          cases z : j - m.length with
          | zero => rw [z] at h2; simpa using h2.symm
          | succ n => rw [z] at h2; simp at h2
        exact absurd (List.mem_of_getElem? h1) (e ▸ nm)
    · rcases Nat.lt_or_ge j m.length with hj | hj
      · rw [List.getElem?_append_left hj] at h2
        rw [List.getElem?_append_right hi] at h1
        have e : a = p := by
          cases z : i - m.length with
          | zero => rw [z] at h1; simpa using h1.symm
          | succ n => rw [z] at h1; simp at h1
        exact absurd (List.mem_of_getElem? h2) (e ▸ nm)
      · have hi' := (List.getElem?_eq_some_iff.mp h1).1
        have hj' := (List.getElem?_eq_some_iff.mp h2).1
        simp at hi' hj'
        omega
  · rcases Nat.lt_or_ge k m.length with hk | hk
    · rw [List.getElem?_append_left hk] at h1
      rw [List.getElem?_append_left (by rw [← r.len]; exact hk)] at h2
      have q := r.cell k a x h1 h2
      cases x with
      | lst es =>
        obtain ⟨q1, ws, q2, q3⟩ := q
        exact ⟨q1, ws, sH _ _ q2, q3.mono (Same.refl I) hp⟩
      | dct es =>
        obtain ⟨q1, ws, q2, q3⟩ := q
        exact ⟨q1, ws, sH _ _ q2, q3.mono (Same.refl I) hp⟩
      | ins C es =>
        obtain ⟨q1, dx, ws, q2, q3, q4, q5, q6⟩ := q
        exact ⟨q1, dx, ws, q2, fun z => by
          rcases List.mem_append.mp z with z | z
          · exact q3 z
          · simp only [List.mem_singleton] at z
            exact ne_of_none q4 np z, sH _ _ q4, q5.imp fun _ z => ⟨z.1, sH _ _ z.2⟩, q6.mono (Same.refl I) hp⟩
      | frz d => exact ⟨q.1, q.2.mono (Same.refl I) hp⟩
    · have hk' := (List.getElem?_eq_some_iff.mp h1).1
      simp at hk'
      have e : k = m.length := by omega
      subst e
      rw [List.getElem?_append_right (Nat.le_refl _)] at h1
      rw [r.len, List.getElem?_append_right (Nat.le_refl _)] at h2
      simp at h1 h2
      subst h1; subst h2
      exact q
  · intro z
    rcases List.mem_append.mp z with z | z
    · exact h3 z
    · simp only [List.mem_singleton] at z
      exact ne_of_none h1 np z
/-- a new instance -/
theorem Rel.pushI (r : Rel K I H m c) {x dx C : Addr} {n : Str} (nx : H x = none) (nd : H dx = none) (ne : dx ≠ x) (hn : NamV K n (.ref C)) :
    Rel K I (upd (upd H dx (.own x)) x (.ins C dx [])) (m ++ [x]) (c ++ [.ins n []]) ∧ Ext I m H I (m ++ [x]) (upd (upd H dx (.own x)) x (.ins C dx [])) := by
  have r1 : Rel K I (upd H dx (.own x)) m c := r.sideO (fun y z => by rw [nd] at z; cases z) (fun o z => by rw [nd] at z; first | (cases z; done) | (cases z; exact ⟨(fun _ q => nomatch q), (fun _ q => nomatch q)⟩)) (r.same.free nd) (r.fresh nd)
  have nx1 : upd H dx (.own x) x = none := by rw [upd_ne (Ne.symm ne)]; exact nx
  have nxm := r.fresh nx
  obtain ⟨r2, e2⟩ := r1.pushC (o := .ins C dx []) (x := .ins n []) nx1 ⟨r.same.free nx, dx, [], r.same.free nd, fun z => by
    rcases List.mem_append.mp z with z | z
    · exact r.fresh nd z
    · simp only [List.mem_singleton] at z; exact ne z, by rw [upd_ne ne, upd_same], ⟨C, hn, upd_same⟩, .nil⟩
  refine ⟨r2, (Ext.trans ⟨Same.refl I, Pre.refl m, fun b o h1 hT h2 h3 => ⟨by rw [upd_ne (ne_of_none h1 nd)]; exact h1, h2, h3⟩⟩ e2)⟩
/-- a field is stored -/
theorem Rel.putI (r : Rel K I H m c) {k : Nat} {a C dx : Addr} {n : Str} {vs0 vs : List (Str × V)} {fs0 fs : List (Str × D)} (hm : m[k]? = some a) (hc : c[k]? = some (.ins n fs0)) (hH : H a = some (.ins C dx vs0)) (q : RepF K I m vs fs) :
    Rel K I (upd H a (.ins C dx vs)) m (c.set k (.ins n fs)) ∧ Ext I m H I m (upd H a (.ins C dx vs)) := by
  obtain ⟨n1, dx', ws, d1, d2, d3, ⟨C', hn, hH'⟩, n3⟩ := r.cell k a _ hm hc
  rw [hH] at hH'
  cases hH'
  have da : dx ≠ a := fun z => by rw [z, hH] at d3; cases d3
  refine ⟨⟨fun b o e => ?_, by simp [r.len], r.nd, fun j b x h1 h2 => ?_, r.tabs.upH (nt_some hH ⟨(fun _ z => nomatch z), (fun _ z => nomatch z)⟩)⟩, Same.refl I, Pre.refl m, fun b o h1 hT h2 h3 => ⟨?_, h2, h3⟩⟩
  · rw [upd_ne (ne_of_none e n1)]
    exact r.same _ _ e
  · by_cases hj : k = j
    · subst hj
      rw [List.getElem?_set_self (List.getElem?_eq_some_iff.mp hc).1] at h2
      rw [hm] at h1
      cases h1; cases h2
      exact ⟨n1, dx, vs, d1, d2, by rw [upd_ne da]; exact d3, ⟨C, hn, upd_same⟩, q⟩
    · rw [List.getElem?_set_ne hj] at h2
      have nb : b ≠ a := fun e => hj (r.nd k j a hm (e ▸ h1))
      have q := r.cell j b x h1 h2
      cases x with
      | lst es =>
        obtain ⟨q1, ws, q2, q3⟩ := q
        exact ⟨q1, ws, by rw [upd_ne nb]; exact q2, q3⟩
      | dct es =>
        obtain ⟨q1, ws, q2, q3⟩ := q
        exact ⟨q1, ws, by rw [upd_ne nb]; exact q2, q3⟩
      | ins C2 es =>
        obtain ⟨q1, dx2, ws, q2, q3, q4, q5, q6⟩ := q
        exact ⟨q1, dx2, ws, q2, q3, by rw [upd_ne (ne_of q4 hH (by intro z; cases z))]; exact q4, q5.imp fun _ z => ⟨z.1, by rw [upd_ne nb]; exact z.2⟩, q6⟩
      | frz d => exact q
  · rw [upd_ne (fun (e : b = a) => h3 (by rw [e]; exact List.mem_of_getElem? hm))]
    exact h1
/-- an instance does not change any more -/
theorem Rel.freezeI (r : Rel K I H m c) {k : Nat} {a : Addr} {n : Str} {fs : List (Str × D)} (hm : m[k]? = some a) (hc : c[k]? = some (.ins n fs)) : ∃ I' : Hp, Rel K I' H m (c.set k (.frz (.obj n fs))) ∧ Ext I m H I' m H ∧ Rep K I' m (.ref a) (.obj n fs) := by
  obtain ⟨n1, dx, ws, d1, d2, d3, ⟨C, hn, hH⟩, n3⟩ := r.cell k a _ hm hc
  have sI : Same I (upd I a (.ins C dx ws)) := fun b o e => by rw [upd_ne (ne_of_none e n1)]; exact e
  refine ⟨upd I a (.ins C dx ws), ⟨fun b o e => ?_, by simp [r.len], r.nd, fun j b x h1 h2 => ?_, r.tabs.upI (nt_some hH ⟨(fun _ z => nomatch z), (fun _ z => nomatch z)⟩)⟩, ⟨sI, Pre.refl m, fun b o h1 hT h2 h3 => ⟨h1, ?_, h3⟩⟩, .obj hn upd_same (n3.mono sI (Pre.refl m))⟩
  · by_cases hb : b = a
    · subst hb
      rw [upd_same] at e
      cases e
      exact hH
    · rw [upd_ne hb] at e
      exact r.same _ _ e
  · by_cases hj : k = j
    · subst hj
      rw [List.getElem?_set_self (List.getElem?_eq_some_iff.mp hc).1] at h2
      rw [hm] at h1
      cases h1; cases h2
      exact ⟨by rw [upd_same]; exact nofun, .obj hn upd_same (n3.mono sI (Pre.refl m))⟩
    · rw [List.getElem?_set_ne hj] at h2
      have nb : b ≠ a := fun e => hj (r.nd k j a hm (e ▸ h1))
      have q := r.cell j b x h1 h2
      cases x with
      | lst es =>
        obtain ⟨q1, ws, q2, q3⟩ := q
        exact ⟨by rw [upd_ne nb]; exact q1, ws, q2, q3.mono sI (Pre.refl m)⟩
      | dct es =>
        obtain ⟨q1, ws, q2, q3⟩ := q
        exact ⟨by rw [upd_ne nb]; exact q1, ws, q2, q3.mono sI (Pre.refl m)⟩
      | ins C2 es =>
        obtain ⟨q1, dx2, ws, q2, q3, q4, q5, q6⟩ := q
        exact ⟨by rw [upd_ne nb]; exact q1, dx2, ws, by rw [upd_ne (ne_of q4 hH (by intro z; cases z))]; exact q2, q3, q4, q5, q6.mono sI (Pre.refl m)⟩
      | frz d => exact ⟨by rw [upd_ne nb]; exact q.1, q.2.mono sI (Pre.refl m)⟩
  · rw [upd_ne (fun (e : b = a) => h3 (by rw [e]; exact List.mem_of_getElem? hm))]
    exact h2
end

/-! ### fields -/
def FldK (K : PySem.W.Frag) (n f : Str) : Prop := ∃ C, NamV K n (.ref C) ∧ Cls K C ∧ NoAttr K C f
def fldO (ns : List Str) (f : Str) (n : Str) (fs : List (Str × D)) (c : Cs) : R D := if n ∈ ns then (match fs.lookup f with
    | some d => .ok d c
    | none => .stuck) else .stuck
def fldR (ns : List Str) (f : Str) (x : D) (c : Cs) : R D := match insOf x c with
  | some (n, fs) => fldO ns f n fs c
  | none => .stuck
def mFld (ns : List Str) (f : Str) (a : ME) : ME := fun l c => (a l c).bind fun x c1 => fldR ns f x c1
section
variable {X : Cx} {W : WX} {e o : Expr} {es : List Expr} {f : Str} {fa fo : ME} {ga : MA} {ns : List Str} {pos p p' apos : Pos}
theorem me_fld (hT : ∀ n ∈ ns, FldK X.K n f) (ha : PE X e (rdE X.K W fa)) (hb : attributeBase e f X.env (eval e X.env) = eval e X.env := by rfl) : PE X (.Attribute e f pos) (rdE X.K W (mFld ns f fa)) :=
  PEi (pe_fld ha hb) fun σ H Q ⟨I, m, l, c, R, L, A⟩ => ⟨I, m, l, c, R, L, After.mono (After.bind (rep := rD X.K) A) fun v1 H1 ⟨I1, m1, c1, d1, E1, R1, p1, A1⟩ => by
    have A1 : After (rD X.K) X.K I1 m1 H1 (fun cls dd H' => W cls dd σ H') Q (fldR ns f d1 c1) := A1
    unfold fldR at A1
    cases q : insOf d1 c1 with
    | none => rw [q] at A1; exact A1.elim
    | some nf =>
      obtain ⟨n, fs⟩ := nf
      rw [q] at A1
      have A1 : After (rD X.K) X.K I1 m1 H1 (fun cls dd H' => W cls dd σ H') Q (fldO ns f n fs c1) := A1
      unfold fldO at A1
      by_cases hn : n ∈ ns
      · rw [if_pos hn] at A1
        cases z : fs.lookup f with
        | none => rw [z] at A1; exact A1.elim
        | some d =>
          rw [z] at A1
          obtain ⟨a, C, dx, vs, rfl, h1, h2, h3⟩ := ins_at R1 p1 q
          obtain ⟨C', k1, k2, k3⟩ := hT n hn
          cases h1.one k1
          obtain ⟨v, e1, e2⟩ := h3.look z
          exact ⟨a, C, dx, vs, v, rfl, h2, k2, k3, e1, A1.here R1 e2⟩
      · rw [if_neg hn] at A1
        exact A1.elim⟩
/-- o.f = e -/
def fldS (ns : List Str) (f : Str) (d x : D) (l : Ls) (c : Cs) : RS := match x with
  | .ref k => match c[k]? with
    | some (.ins n fs) => if n ∈ ns ∧ fs.length < 900 then .go (.nx l) (c.set k (.ins n (putFD f d fs))) else .stuck
    | _ => .stuck
  | _ => .stuck
def sFldM (ns : List Str) (f : Str) (o a : ME) : MS := fun l c => (a l c).seq l fun d c1 => (o l c1).seq l fun x c2 => fldS ns f d x l c2
theorem ms_fld (hT : ∀ n ∈ ns, FldK X.K n f) (ho : PE X o (rdE X.K W fo)) (hv : PE X e (rdE X.K W fa)) (hs : swapsWith e (some (.Attribute o f p')) pos.line X.env = pure false := by rfl) : PS X (.Assign [.Attribute o f p'] e pos) (rdS X.K W (sFldM ns f fo fa)) :=
  PSi (ps_fld ho hv hs) fun D σ H ⟨I, m, l, c, R, L, A⟩ => ⟨I, m, l, c, R, L, After.mono (AfterS.seq (rep := rD X.K) L A) fun v1 H1 ⟨I1, m1, c1, d1, E1, R1, p1, A1⟩ =>
    ⟨I1, m1, l, c1, R1, L.ext E1, After.mono (AfterS.seq (rep := rD X.K) (L.ext E1) A1) fun v2 H2 ⟨I2, m2, c2, d2, E2, R2, p2, A2⟩ => by
      have L2 := (L.ext E1).ext E2
      cases p2 with
      | @ref k a hk =>
        have A2 : AfterS X.K I2 m2 H2 W D (match c2[k]? with
          | some (.ins n fs) => if n ∈ ns ∧ fs.length < 900 then .go (.nx l) (c2.set k (.ins n (putFD f d1 fs))) else .stuck
          | _ => .stuck) := A2
        cases q : c2[k]? with
        | none => rw [q] at A2; exact A2.elim
        | some x =>
          rw [q] at A2
          cases x with
          | ins n fs =>
            have A2 : AfterS X.K I2 m2 H2 W D (if n ∈ ns ∧ fs.length < 900 then .go (.nx l) (c2.set k (.ins n (putFD f d1 fs))) else .stuck) := A2
            by_cases hn : n ∈ ns ∧ fs.length < 900
            · rw [if_pos hn] at A2
              obtain ⟨_, dx, vs, _, _, _, ⟨C, h1, h2⟩, h3⟩ := R2.cell k a _ hk q
              obtain ⟨C', k1, k2, k3⟩ := hT n hn.1
              cases h1.one k1
              refine ⟨a, C, dx, vs, rfl, h2, k2, k3, by rw [h3.length]; omega, ?_⟩
              obtain ⟨R3, E3⟩ := R2.putI hk q h2 (h3.put (f := f) (Rep.ext p1 E2))
              exact A2 I2 m2 _ σ E3 R3 (L2.ext E3)
            · rw [if_neg hn] at A2; exact A2.elim
          | _ => exact A2.elim
      | _ => exact A2.elim⟩⟩
end

/-! ### making -/
structure MakK (P : Program) (w : World) (K : PySem.W.Frag) (mg : Str → Option Value) (base : Heap) (n : Str) (g : List D → Cs → R D) (k : Nat) : Prop where
  ex : ∃ (C f : Addr) (fd : FuncData) (ps : List Str), PySem.W.nsIn K mainGlobals n = some (some (.ref C)) ∧ mg n = some (.ref C) ∧ Mk K C f ∧ GFn P w K mg base k f fd ps g ∧ Binds K fd ps []
def mkR (n : Str) (g : List D → Cs → R D) (ds : List D) (c : Cs) : R D := (g (.ref c.length :: ds) (c ++ [.ins n []])).bind fun r c2 => match r with
  | .non => .ok (.ref c.length) c2
  | _ => .stuck
theorem make_guards {A : Around} {C : Addr} {us : List Value} {kw : List (Str × Value)} (h : A.guards = some []) : (A.under (.builtin "type.__call__" ⟨.ref C :: us, kw⟩)).guards = some [] := by
  first | exact h | simpa [Around.under, Code.guards, pushGuards, Code.isGuard, guardIds] using h
section
variable {X : Cx} {W : WX} {e o : Expr} {es : List Expr} {f n x mm : Str} {fa fo : ME} {ga : MA} {g : List D → Cs → R D} {k : Nat} {pos p p' apos : Pos}
theorem run_makeG {pins : List (Addr × Obj)} {σ : St} {H : Hp} {s : Shared} {Q : VK} {us : List Value} {vs : List V} {I : Hp} {m : List Addr} {c : Cs} {ds : List D} {C fi : Addr} {fd : FuncData} {ps : List Str} (M : Mk X.K C fi) (hn : NamV X.K n (.ref C)) (F : GFn X.prog X.w X.K X.mg X.base k fi fd ps g)
    (hr : Room (k + 1) X.A) (hgd : X.A.guards = some []) (hb : Binds X.K fd ps []) (tk : Takes X W) (J : Inv X pins σ H s) (r : Vals vs us) (R : Rel X.K I H m c) (p : Reps X.K I m vs ds) (a : After (rD X.K) X.K I m H (fun cls d H' => W cls d σ H') Q (mkR n g ds c)) :
    wpAny (model X.prog X.w) X.A (call (.ref C) us) (EP X pins σ Q) X.xe s := by
  have nx := J.hok.fresh (Nat.le_succ s.heap.objs.size)
  have ndx := J.hok.fresh (Nat.le_refl s.heap.objs.size)
  have J2 := Inv.made (C := C) J
  obtain ⟨R2, E2⟩ := R.pushI nx ndx (Nat.ne_of_lt (Nat.lt_succ_self _)) hn
  have hx : (m ++ [s.heap.objs.size + 1])[c.length]? = some (s.heap.objs.size + 1) := by
    rw [← R.len, List.getElem?_append_right (Nat.le_refl _), Nat.sub_self]
    rfl
  have p2 : Reps X.K I (m ++ [s.heap.objs.size + 1]) (V.ref (s.heap.objs.size + 1) :: vs) (.ref c.length :: ds) := .cons (.ref hx) (p.ext E2)
  have r2 : Vals (V.ref (s.heap.objs.size + 1) :: vs) (Value.ref (s.heap.objs.size + 1) :: us) := .cons rfl r
  have a1 : After (rD X.K) X.K I (m ++ [s.heap.objs.size + 1]) (upd (upd H s.heap.objs.size (.own (s.heap.objs.size + 1))) (s.heap.objs.size + 1) (.ins C s.heap.objs.size [])) (fun cls d H' => W cls d σ H') (fun v H' => v = .non ∧ Q (.ref (s.heap.objs.size + 1)) H') (g (.ref c.length :: ds) (c ++ [.ins n []])) :=
    After.mono (After.bind (rep := rD X.K) (After.ext E2 a)) fun v1 H1 ⟨I1, m1, c1, d1, E1, R1, p1, A1⟩ => by
      cases p1 with
      | non => exact ⟨rfl, A1.here R1 (.ref (E1.pre _ _ hx))⟩
      | _ => exact A1.elim
  have hl0 := F.len _ _ (after_nonstuck a1)
  have hl : (Value.ref (s.heap.objs.size + 1) :: us).length = ps.length := by
    rw [← r2.length, p2.length]; exact hl0
  have hb2 : ∀ s', X.K.In s'.heap → BindsTo s' fd ⟨Value.ref (s.heap.objs.size + 1) :: us, []⟩ (ps.zip (Value.ref (s.heap.objs.size + 1) :: us)) := fun s' kin => by
    have z := hb s' (Value.ref (s.heap.objs.size + 1) :: us) kin (by rw [List.append_nil]; exact hl)
    rw [List.append_nil] at z
    exact z
  refine wpAny_call (make_map (f := fi) J.kIn M.makes M.init (beq_iff_eq.mp M.fn) (codeAny_mono (F.run _ X.stack _ _ ⟨Value.ref (s.heap.objs.size + 1) :: us, []⟩ (Value.ref (s.heap.objs.size + 1) :: us) _ _ (fun cls d H' => W cls d σ H') I _ _ _ (hr.make C us []) (make_guards hgd)
    (J2.env0.make C us []) (hb2 _ J2.kIn) r2 R2 p2 a1) fun r s' hq' => ?_))
  cases r with
  | error e => exact tk e s' (XE.of_call J2 (fun _ _ _ h => h) hq')
  | ok fl =>
    cases fl with
    | ret u =>
      obtain ⟨v, H', J3, rv, ev, q3⟩ := J2.after hq'
      subst ev
      exact ⟨rv, ⟨V.ref (s.heap.objs.size + 1), H', J3, rfl, q3⟩⟩
    | next => exact False.elim hq'
    | brk => exact False.elim hq'
    | cont => exact False.elim hq'
/-- n(e, ..) -/
def mMake (n : Str) (g : List D → Cs → R D) (t : MA) : ME := fun l c => (t l c).bind fun xs c1 => mkR n g xs c1
theorem me_make (T : MakK X.prog X.w X.K X.mg X.base n g k) (hr : Room (k + 1) X.A) (hgd : X.A.guards = some []) (hg : Gl X n) (tk : Takes X W) (ha : PA X (e :: es) (rdA X.K W ga))
    (hdb : (n == ("__debug__" : Str)) = false := by decide) (he : starEach (e :: es) X.env = (false, eval e X.env) :: starEach es X.env := by rfl) (hpl : (backTo pos (starEach es X.env)).any (·.1) = false := by rfl) :
    PE X (.Call (.Name n p) (e :: es) [] pos) (rdE X.K W (mMake n g ga)) := by
  obtain ⟨C, fi, fd, ps, nC, hm, M, F, hb⟩ := T.ex
  refine ⟨fun pins s σ H Q J ⟨I, m, l, c, R, L, A⟩ => ?_⟩
  refine wpAny_Call_Name_kw (ld_glob J hg hm ?_ hdb)
  refine PySem.W.callWith_K (h₀ := X.base) J.ok.mod.kin M.kp (thn (ha.run pos pins s σ H _ J ⟨I, m, l, c, R, L, After.bind (rep := rA X.K) A⟩) fun us s1 ⟨vs, H1, J1, r, I1, m1, c1, ds, E1, R1, p1, A1⟩ => ⟨J1.kIn, ?_⟩) he hpl
  exact run_makeG M (.inl nC) F hr hgd hb tk J1 r R1 p1 A1
/-- an instance that does not change from here on -/
def frzI (d : D) (c : Cs) : R D := match d with
  | .ref k => match c[k]? with
    | some (.ins n fs) => .ok (.obj n fs) (c.set k (.frz (.obj n fs)))
    | _ => .stuck
  | _ => .stuck
def mFrzI (a : ME) : ME := fun l c => (a l c).bind fun d c1 => frzI d c1
theorem me_frzI (h : PE X e (rdE X.K W fa)) : PE X e (rdE X.K W (mFrzI fa)) := PEi h fun σ H Q ⟨I, m, l, c, R, L, A⟩ =>
  ⟨I, m, l, c, R, L, After.mono (After.bind (rep := rD X.K) A) fun v1 H1 ⟨I1, m1, c1, d1, E1, R1, p1, A1⟩ => by
    cases p1 with
    | @ref k a hk =>
      have A2 : After (rD X.K) X.K I1 m1 H1 (fun cls dd H' => W cls dd σ H') Q (match c1[k]? with
        | some (.ins n fs) => .ok (.obj n fs) (c1.set k (.frz (.obj n fs)))
        | _ => .stuck) := A1
      cases q : c1[k]? with
      | none => rw [q] at A2; exact A2.elim
      | some x =>
        rw [q] at A2
        cases x with
        | ins n fs =>
          obtain ⟨I2, R2, E2, p2⟩ := R1.freezeI hk q
          exact A2 I2 m1 H1 _ E2 R2 p2
        | _ => exact A2.elim
    | _ => exact A1.elim⟩

/-! ### methods -/
structure MthK (P : Program) (w : World) (K : PySem.W.Frag) (mg : Str → Option Value) (base : Heap) (n mm : Str) (g : List D → Cs → R D) (k : Nat) : Prop where
  ex : ∃ (C f : Addr) (fd : FuncData) (ps : List Str), NamV K n (.ref C) ∧ Cls K C ∧ Meth K C mm f ∧ GFn P w K mg base k f fd ps g ∧ Binds K fd ps []
abbrev Tbl := List (Str × (List D → Cs → R D))
theorem tbl_mem {β : Type} {n : Str} {g : β} : ∀ {t : List (Str × β)}, t.lookup n = some g → (n, g) ∈ t
  | (a, b) :: t, h => by
    rw [List.lookup_cons] at h
    cases q : n == a with
    | true => rw [q] at h; cases h; rw [beq_iff_eq.mp q]; exact List.mem_cons_self
    | false => rw [q] at h; exact List.mem_cons_of_mem _ (tbl_mem h)
/-- the method of the receiver's class -/
def viaT {α : Type} (tbl : Tbl) (x : D) (c : Cs) (r : (List D → Cs → R D) → List (Str × D) → R α) : R α := match insOf x c with
  | some (n, fs) => match tbl.lookup n with
    | some g => r g fs
    | none => .stuck
  | none => .stuck
theorem via_read {α β : Type} {rep : Hp → List Addr → β → α → Prop} {K : PySem.W.Frag} {I H : Hp} {m : List Addr} {c : Cs} {W : XK} {Q : β → Hp → Prop} {tbl : Tbl} {d : D} {v : V} {r : (List D → Cs → R D) → List (Str × D) → R α} (R : Rel K I H m c) (p : Rep K I m v d)
    (A : After rep K I m H W Q (viaT tbl d c r)) : ∃ (a C dx : Addr) (vs : List (Str × V)) (n : Str) (fs : List (Str × D)) (g : List D → Cs → Mi.R D), v = .ref a ∧ NamV K n (.ref C) ∧ H a = some (.ins C dx vs) ∧ RepF K I m vs fs ∧ (n, g) ∈ tbl ∧ After rep K I m H W Q (r g fs) := by
  unfold viaT at A
  cases q : insOf d c with
  | none => rw [q] at A; exact A.elim
  | some nf =>
    obtain ⟨n, fs⟩ := nf
    rw [q] at A
    have A : After rep K I m H W Q (match tbl.lookup n with
      | some g => r g fs
      | none => .stuck) := A
    cases z : tbl.lookup n with
    | none => rw [z] at A; exact A.elim
    | some g =>
      rw [z] at A
      obtain ⟨a, C, dx, vs, e, h1, h2, h3⟩ := ins_at R p q
      exact ⟨a, C, dx, vs, n, fs, g, e, h1, h2, h3, tbl_mem z, A⟩
def mMeth (tbl : Tbl) (mm : Str) (o : ME) (t : MA) : ME := fun l c => (o l c).bind fun x c1 => viaT tbl x c1 fun g fs => match fs.lookup mm with
  | none => (t l c1).bind fun xs c2 => g (x :: xs) c2
  | some _ => .stuck
theorem me_meth {tbl : Tbl} {pl : Sem Bool} (hT : ∀ q ∈ tbl, MthK X.prog X.w X.K X.mg X.base q.1 mm q.2 k) (hr : Room k X.A) (hgd : X.A.guards = some []) (tk : Takes X W) (ho : PE X o (rdE X.K W fo)) (ha : PA X (e :: es) (rdA X.K W ga))
    (hst : starEach (e :: es) X.env = (false, eval e X.env) :: starEach es X.env := by rfl) (hpl : (backTo pos (starEach es X.env)).any (·.1) = false := by rfl)
    (ht : eval (.Call (.Attribute o mm apos) (e :: es) [] pos) X.env = (do
      let ov ← eval o X.env
      standAt apos.atName
      let (f, first) ← holding [ov] (getMethod ov mm pl)
      callWith pos f first (backTo pos (starEach (e :: es) X.env)) (backToKw pos (keywordEach [] X.env))) := by rfl) :
    PE X (.Call (.Attribute o mm apos) (e :: es) [] pos) (rdE X.K W (mMeth tbl mm fo ga)) := by
  refine ⟨fun pins s σ H Q J ⟨I, m, l, c, R, L, A⟩ => ?_⟩
  refine PySem.W.methodCall_KW (pl := pl) (thn (ho.run pins s σ H _ J ⟨I, m, l, c, R, L, After.bind (rep := rD X.K) A⟩) fun u s1 ⟨v, H1, J1, rv, I1, m1, c1, d1, E1, R1, p1, A1⟩ => ?_) ht
  obtain ⟨a, C, dx, vs, n, fs, g, rfl, h1, h2, h3, h4, A2⟩ := via_read R1 p1 A1
  obtain rfl : u = Value.ref a := rv
  obtain ⟨C', f', fd, ps, k1, k2, k3, F, hb⟩ := (hT _ h4).ex
  cases h1.one k1
  cases z : fs.lookup mm with
  | some d => rw [z] at A2; exact A2.elim
  | none =>
    rw [z] at A2
    refine getmeth_ok J1 h2 k2 k3 (h3.lookN z) ?_
    refine PySem.W.callWith_K (first := [.ref a]) (h₀ := X.base) J.ok.mod.kin k3.kp (thn (ha.run pos pins s1 σ H1 _ J1 ⟨I1, m1, l, c1, R1, L.ext E1, After.bind (rep := rA X.K) A2⟩) fun us s2 ⟨ws, H2, J2, r, I2, m2, c2, ds, E2, R2, p2, A3⟩ => ⟨J2.kIn, ?_⟩) hst hpl
    exact run_g (us := .ref a :: us) (vs := .ref a :: ws) F hr hgd hb tk J2 (.cons rfl r) R2 (.cons (Rep.ext p1 E2) p2) A3
theorem me_meth0 {tbl : Tbl} {pl : Sem Bool} (hT : ∀ q ∈ tbl, MthK X.prog X.w X.K X.mg X.base q.1 mm q.2 k) (hr : Room k X.A) (hgd : X.A.guards = some []) (tk : Takes X W) (ho : PE X o (rdE X.K W fo))
    (ht : eval (.Call (.Attribute o mm apos) [] [] pos) X.env = (do
      let ov ← eval o X.env
      standAt apos.atName
      let (f, first) ← holding [ov] (getMethod ov mm pl)
      callWith pos f first (backTo pos (starEach [] X.env)) (backToKw pos (keywordEach [] X.env))) := by rfl) :
    PE X (.Call (.Attribute o mm apos) [] [] pos) (rdE X.K W (mMeth tbl mm fo aNil)) := by
  refine ⟨fun pins s σ H Q J ⟨I, m, l, c, R, L, A⟩ => ?_⟩
  refine PySem.W.methodCall_KW (pl := pl) (thn (ho.run pins s σ H _ J ⟨I, m, l, c, R, L, After.bind (rep := rD X.K) A⟩) fun u s1 ⟨v, H1, J1, rv, I1, m1, c1, d1, E1, R1, p1, A1⟩ => ?_) ht
  obtain ⟨a, C, dx, vs, n, fs, g, rfl, h1, h2, h3, h4, A2⟩ := via_read R1 p1 A1
  obtain rfl : u = Value.ref a := rv
  obtain ⟨C', f', fd, ps, k1, k2, k3, F, hb⟩ := (hT _ h4).ex
  cases h1.one k1
  cases z : fs.lookup mm with
  | some d => rw [z] at A2; exact A2.elim
  | none =>
    rw [z] at A2
    refine getmeth_ok J1 h2 k2 k3 (h3.lookN z) ?_
    exact PySem.W.callWith_K0 (first := [.ref a]) J1.kIn k3.kp (run_g (us := [.ref a]) (vs := [.ref a]) F hr hgd hb tk J1 (.cons rfl .nil) R1 (.cons p1 .nil) A2)

/-! ### properties -/
structure PrpK (P : Program) (w : World) (K : PySem.W.Frag) (mg : Str → Option Value) (base : Heap) (n f : Str) (g : List D → Cs → R D) (k : Nat) : Prop where
  ex : ∃ (C p ga : Addr) (fd : FuncData) (ps : List Str), NamV K n (.ref C) ∧ Cls K C ∧ PropOf K C f p ga ∧ GFn P w K mg base k ga fd ps g ∧ Binds K fd ps []
def mProp (tbl : Tbl) (o : ME) : ME := fun l c => (o l c).bind fun x c1 => viaT tbl x c1 fun g _ => (g [x] c1).nox
theorem me_prop {tbl : Tbl} (hT : ∀ q ∈ tbl, PrpK X.prog X.w X.K X.mg X.base q.1 f q.2 k) (hr : Room (k + 1) X.A) (hgd : X.A.guards = some []) (ho : PE X o (rdE X.K W fo)) (hb : attributeBase o f X.env (eval o X.env) = eval o X.env := by rfl) :
    PE X (.Attribute o f pos) (rdE X.K W (mProp tbl fo)) := by
  refine ⟨fun pins s σ H Q J ⟨I, m, l, c, R, L, A⟩ => ?_⟩
  refine attr_of hb (thn (ho.run pins s σ H _ J ⟨I, m, l, c, R, L, After.bind (rep := rD X.K) A⟩) fun u s1 ⟨v, H1, J1, rv, I1, m1, c1, d1, E1, R1, p1, A1⟩ => ?_)
  obtain ⟨a, C, dx, vs, n, fs, g, rfl, h1, h2, h3, h4, A2⟩ := via_read R1 p1 A1
  obtain rfl : u = Value.ref a := rv
  obtain ⟨C', p, ga, fd, ps, k1, cl, hp, F, hbi⟩ := (hT _ h4).ex
  cases h1.one k1
  obtain ⟨mA, O, _, _, _, _⟩ := ins_get J1.hok h2
  obtain ⟨od, JJ, _⟩ := O.look
  obtain ⟨rest, hrec⟩ := hp.rec_
  have I1' := J1.tok (s1.toks + 1)
  have A3 : After (rD X.K) X.K I1 m1 H1 (fun _ _ _ => False) Q (g [d1] c1) := After.nox A2
  have hl : [Value.ref a].length = ps.length := F.len _ _ (after_nonstuck A3)
  have hc : (PySem.W.clsIn X.K C).isSome = true := by
    obtain ⟨cd, hc, _⟩ := PySem.W.any_some cl.hd
    rw [hc]
    rfl
  refine PySem.W.get_bind J1.kIn JJ (PySem.W.plainGet_of (cl.get f)).1 (PySem.W.findObj_data hc hp.at_ hp.get hp.tak) (PySem.W.plainGet_of (cl.get f)).2 (wpAny_call (PySem.W.prop_get (s := { s1 with toks := s1.toks + 1 }) J1.kIn hrec ?_))
  have hb2 := hbi { s1 with toks := s1.toks + 1 } [.ref a] J1.kIn (by rw [List.append_nil]; exact hl)
  rw [List.append_nil] at hb2
  refine codeAny_mono (F.run X.A.in1 X.stack { s1 with toks := s1.toks + 1 } H1 ⟨[.ref a], []⟩ [.ref a] [.ref a] Q (fun _ _ _ => False) I1 m1 c1 [d1] hr.in1 hgd I1'.env0.in1 hb2 (.cons rfl .nil) R1 (.cons p1 .nil) A3) fun r s' hq => ?_
  cases r with
  | error er =>
    obtain ⟨_, _, _, _, _, _, _, _, _, _, _, _, z⟩ := hq
    exact z.elim
  | ok fl =>
    cases fl with
    | ret u =>
      obtain ⟨v, H', I3, rv, q3⟩ := I1'.after hq
      show wpAny _ _ (handedOut u) _ _ _
      rw [PySem.W.handedOut_of (handed_of rv)]
      exact wpAny_pure ⟨v, H', I3, rv, q3⟩
    | next => exact False.elim hq
    | brk => exact False.elim hq
    | cont => exact False.elim hq
end
end L2.Mi

/-! f-strings, dict cells, a written tuple's index -/
namespace L2.Mi
open PySem PySem.Spec PyProof.Rows L2
section
variable {X : Cx} {W : WX} {e o : Expr} {es : List Expr} {fa fo fi : ME} {pos p : Pos}
/-! ### f-strings -/
/-! ### index of a text in a written tuple of texts -/
/-! ### dicts as cells -/
theorem Rel.adoptC {K : PySem.W.Frag} {I H : Hp} {m : List Addr} {c : Cs} (r : Rel K I H m c) {p : Addr} (hm : p ∉ m) (hI : I p = none) (ho : ∀ x, H p ≠ some (.own x)) (hT : Nt H p) {x : Cell} (q : CellAt K I H (m ++ [p]) p x) : Rel K I H (m ++ [p]) (c ++ [x]) := by
  have hp := pre_app m p
  refine ⟨r.same, by simp [r.len], fun i j a h1 h2 => ?_, fun k a x h1 h2 => ?_, r.tabs.upm hT⟩
  · rcases Nat.lt_or_ge i m.length with hi | hi
    · rcases Nat.lt_or_ge j m.length with hj | hj
      · rw [List.getElem?_append_left hi] at h1
        rw [List.getElem?_append_left hj] at h2
        exact r.nd i j a h1 h2
      · rw [List.getElem?_append_left hi] at h1
        rw [List.getElem?_append_right hj] at h2
        have e : a = p := by
          cases z : j - m.length with
          | zero => rw [z] at h2; simpa using h2.symm
          | succ n => rw [z] at h2; simp at h2
        exact absurd (List.mem_of_getElem? h1) (e ▸ hm)
    · rcases Nat.lt_or_ge j m.length with hj | hj
      · rw [List.getElem?_append_left hj] at h2
        rw [List.getElem?_append_right hi] at h1
        have e : a = p := by
          cases z : i - m.length with
          | zero => rw [z] at h1; simpa using h1.symm
          | succ n => rw [z] at h1; simp at h1
        exact absurd (List.mem_of_getElem? h2) (e ▸ hm)
      · have hi' := (List.getElem?_eq_some_iff.mp h1).1
        have hj' := (List.getElem?_eq_some_iff.mp h2).1
        simp at hi' hj'
        omega
  · rcases Nat.lt_or_ge k m.length with hk | hk
    · rw [List.getElem?_append_left hk] at h1
      rw [List.getElem?_append_left (by rw [← r.len]; exact hk)] at h2
      have q := r.cell k a x h1 h2
      cases x with
      | lst es =>
        obtain ⟨q1, ws, q2, q3⟩ := q
        exact ⟨q1, ws, q2, q3.mono (Same.refl I) hp⟩
      | dct es =>
        obtain ⟨q1, ws, q2, q3⟩ := q
        exact ⟨q1, ws, q2, q3.mono (Same.refl I) hp⟩
      | ins C es =>
        obtain ⟨q1, dx, ws, q2, q3, q4, q5, q6⟩ := q
        exact ⟨q1, dx, ws, q2, fun z => by
          rcases List.mem_append.mp z with z | z
          · exact q3 z
          · simp only [List.mem_singleton] at z
            exact ho _ (z ▸ q4), q4, q5, q6.mono (Same.refl I) hp⟩
      | frz d => exact ⟨q.1, q.2.mono (Same.refl I) hp⟩
    · have hk' := (List.getElem?_eq_some_iff.mp h1).1
      simp at hk'
      have e : k = m.length := by omega
      subst e
      rw [List.getElem?_append_right (Nat.le_refl _)] at h1
      rw [r.len, List.getElem?_append_right (Nat.le_refl _)] at h2
      simp at h1 h2
      subst h1; subst h2
      exact q
def mDictM0 : ME := fun _ c => .ok (.ref c.length) (c ++ [.dct []])
theorem me_dictM0 : PE X (.Dict [] [] pos) (rdE X.K W mDictM0) := PEi pe_dnewK fun σ H Q ⟨I, m, l, c, R, L, A⟩ => fun p np => by
  obtain ⟨R2, E2⟩ := R.pushC (o := .dK []) (x := .dct []) np ⟨R.same.free np, [], upd_same, .nil⟩
  refine A _ _ _ _ E2 R2 (.ref ?_)
  rw [← R.len, List.getElem?_append_right (Nat.le_refl _), Nat.sub_self]
  rfl
def mDictM1 (k : Key) (a : ME) : ME := fun l c => (a l c).bind fun d c1 => .ok (.ref c1.length) (c1 ++ [.dct [(k, d)]])
theorem me_dictM1 {s : Str} {j : Nat} {pk : Pos} (hv : PE X e (rdE X.K W fa)) : PE X (.Dict [some (.Constant (.str s) j pk)] [e] pos) (rdE X.K W (mDictM1 (.inr s) fa)) :=
  PEi (pe_disp (pps_cons pe_str hv pps_nil) rfl rfl (fun z => by cases z) (by show 1 ≤ 15; decide)) fun σ H Q ⟨I, m, l, c, R, L, A⟩ => by
    intro p np
    have nI := R.same.free np
    have nm := R.fresh np
    have E0 : Ext I m H I m (upd H p (.dK [])) := ⟨Same.refl I, Pre.refl m, fun b o h1 hT h2 h3 => ⟨by rw [upd_ne (ne_of_none h1 np)]; exact h1, h2, h3⟩⟩
    refine ⟨I, m, l, c, R.sideO (fun x z => by rw [np] at z; cases z) (fun o z => by rw [np] at z; first | (cases z; done) | (cases z; exact ⟨(fun _ q => nomatch q), (fun _ q => nomatch q)⟩)) nI nm, L, After.mono (After.bindAt (rep := rD X.K) A E0) fun v H2 ⟨I2, m2, c2, d2, E2, R2, p2, A2⟩ => ?_⟩
    obtain ⟨f1, f2, f3⟩ := E2.fr p _ upd_same ⟨(fun _ z => nomatch z), (fun _ z => nomatch z)⟩ nI nm
    refine ⟨f1, [(Sum.inr s, v)], rfl, by show 1 ≤ 15; decide, ?_⟩
    have R3 : Rel X.K I2 (upd H2 p (.dK [(Sum.inr s, v)])) m2 c2 := R2.sideO (fun x z => by rw [f1] at z; cases z) (fun o z => by rw [f1] at z; first | (cases z; done) | (cases z; exact ⟨(fun _ q => nomatch q), (fun _ q => nomatch q)⟩)) f2 f3
    have p2 : Rep X.K I2 m2 v d2 := p2
    have R4 : Rel X.K I2 (upd H2 p (.dK [(Sum.inr s, v)])) (m2 ++ [p]) (c2 ++ [.dct [(Sum.inr s, d2)]]) := R3.adoptC f3 f2 (fun x z => by rw [upd_same] at z; cases z) (fun o z => by rw [upd_same] at z; first | (cases z; done) | (cases z; exact ⟨(fun _ q => nomatch q), (fun _ q => nomatch q)⟩)) ⟨f2, [(Sum.inr s, v)], upd_same, .cons (p2.mono (Same.refl _) (pre_app _ _)) .nil⟩
    refine A2 _ _ _ _ ⟨(E0.trans E2).same, (E0.trans E2).pre.trans (pre_app _ _), fun b o h1 hT h2 h3 => ?_⟩ R4 (.ref ?_)
    · obtain ⟨q1, q2, q3⟩ := (E0.trans E2).fr b o h1 hT h2 h3
      have nb : b ≠ p := ne_of_none h1 np
      refine ⟨by rw [upd_ne nb]; exact q1, q2, fun z => ?_⟩
      rcases List.mem_append.mp z with z | z
      · exact q3 z
      · simp only [List.mem_singleton] at z; exact nb z
    · rw [← R2.len, List.getElem?_append_right (Nat.le_refl _), Nat.sub_self]
      rfl
theorem RepK.any {K : PySem.W.Frag} {I : Hp} {m : List Addr} {k : Key} : ∀ {vs : List (Key × V)} {ds : List (Key × D)}, RepK K I m vs ds → (vs.any fun kv => decide (kv.1 = k)) = (ds.any fun kv => decide (kv.1 = k))
  | _, _, .nil => rfl
  | _, _, .cons _ t => by simp only [List.any_cons, RepK.any t]
def putKD (kvs : List (Key × D)) (k : Key) (d : D) : List (Key × D) :=
  if (kvs.any fun kv => decide (kv.1 = k)) = true then kvs.map (fun kv => if kv.1 = k then (kv.1, d) else kv) else kvs ++ [(k, d)]
theorem RepK.put {K : PySem.W.Frag} {I : Hp} {m : List Addr} {k : Key} {v : V} {d : D} (p : Rep K I m v d) {vs : List (Key × V)} {ds : List (Key × D)} (r : RepK K I m vs ds) : RepK K I m (putK vs k v) (putKD ds k d) := by
  have app : ∀ {vs : List (Key × V)} {ds : List (Key × D)}, RepK K I m vs ds → RepK K I m (vs ++ [(k, v)]) (ds ++ [(k, d)]) := by
    intro vs ds r
    induction vs generalizing ds with
    | nil => cases r; exact .cons p .nil
    | cons x vs ih => cases r with | cons h t => exact .cons h (ih t)
  have mp : ∀ {vs : List (Key × V)} {ds : List (Key × D)}, RepK K I m vs ds → RepK K I m (vs.map fun kv => if kv.1 = k then (kv.1, v) else kv) (ds.map fun kv => if kv.1 = k then (kv.1, d) else kv) := by
    intro vs ds r
    induction vs generalizing ds with
    | nil => cases r; exact .nil
    | cons x vs ih =>
      cases r with
      | @cons k' _ _ _ _ h t =>
        simp only [List.map_cons]
        by_cases e : k' = k
        · rw [if_pos e, if_pos e]; exact .cons p (ih t)
        · rw [if_neg e, if_neg e]; exact .cons h (ih t)
  unfold putK putKD
  rw [r.any]
  by_cases h : (ds.any fun kv => decide (kv.1 = k)) = true
  · rw [if_pos h, if_pos h]; exact mp r
  · rw [if_neg h, if_neg h]; exact app r
theorem RepK.length {K : PySem.W.Frag} {I : Hp} {m : List Addr} : ∀ {vs : List (Key × V)} {ds : List (Key × D)}, RepK K I m vs ds → vs.length = ds.length
  | _, _, .nil => rfl
  | _, _, .cons _ t => congrArg (· + 1) (RepK.length t)
theorem Rel.putD {K : PySem.W.Frag} {I H : Hp} {m : List Addr} {c : Cs} (r : Rel K I H m c) {k : Nat} {a : Addr} {vs : List (Key × V)} {ds ds0 : List (Key × D)} (hm : m[k]? = some a) (hc : c[k]? = some (.dct ds0)) (q : RepK K I m vs ds) : Rel K I (upd H a (.dK vs)) m (c.set k (.dct ds)) ∧ Ext I m H I m (upd H a (.dK vs)) := by
  obtain ⟨n1, ws, n2, n3⟩ := r.cell k a _ hm hc
  refine ⟨⟨fun b o e => ?_, by simp [r.len], r.nd, fun j b x h1 h2 => ?_, r.tabs.upH (nt_some n2 ⟨(fun _ z => nomatch z), (fun _ z => nomatch z)⟩)⟩, Same.refl I, Pre.refl m, fun b o h1 hT h2 h3 => ⟨?_, h2, h3⟩⟩
  · rw [upd_ne (ne_of_none e n1)]
    exact r.same _ _ e
  · by_cases hj : k = j
    · subst hj
      rw [List.getElem?_set_self (List.getElem?_eq_some_iff.mp hc).1] at h2
      rw [hm] at h1
      cases h1; cases h2
      exact ⟨n1, vs, upd_same, q⟩
    · rw [List.getElem?_set_ne hj] at h2
      have nb : b ≠ a := fun e => hj (r.nd k j a hm (e ▸ h1))
      have q := r.cell j b x h1 h2
      cases x with
      | lst es =>
        obtain ⟨q1, ws, q2, q3⟩ := q
        exact ⟨q1, ws, by rw [upd_ne nb]; exact q2, q3⟩
      | dct es =>
        obtain ⟨q1, ws, q2, q3⟩ := q
        exact ⟨q1, ws, by rw [upd_ne nb]; exact q2, q3⟩
      | ins C es =>
        obtain ⟨q1, dx, ws, q2, q3, q4, q5, q6⟩ := q
        exact ⟨q1, dx, ws, q2, q3, by rw [upd_ne (ne_of q4 n2 (by intro z; cases z))]; exact q4, q5.imp fun _ z => ⟨z.1, by rw [upd_ne nb]; exact z.2⟩, q6⟩
      | frz d => exact q
  · rw [upd_ne (fun (e : b = a) => h3 (by rw [e]; exact List.mem_of_getElem? hm))]
    exact h1
end
end L2.Mi
namespace L2.Mi
open PySem PySem.Spec PyProof.Rows L2
/-! ### + of lists that stand in cells -/
def lstC (d : D) (c : Cs) : Option (List D) := match d with
  | .lst xs => some xs
  | .ref k => match c[k]? with
    | some (.lst xs) => some xs
    | some (.frz (.lst xs)) => some xs
    | _ => none
  | _ => none
theorem lstC_at {K : PySem.W.Frag} {I H : Hp} {m : List Addr} {c : Cs} {v : V} {d : D} {ds : List D} (R : Rel K I H m c) (p : Rep K I m v d) (h : lstC d c = some ds) : ∃ a vs, v = .ref a ∧ H a = some (.lst vs) ∧ Reps K I m vs ds := by
  cases p with
  | lst q r => cases h; exact ⟨_, _, rfl, R.same _ _ q, r⟩
  | @ref k a q =>
    have h : (match c[k]? with
      | some (.lst xs) => some xs
      | some (.frz (.lst xs)) => some xs
      | _ => none) = some ds := h
    cases e : c[k]? with
    | none => rw [e] at h; cases h
    | some x =>
      rw [e] at h
      have hc := R.cell k a x q e
      cases x with
      | lst xs => cases h; obtain ⟨_, vs, h1, h2⟩ := hc; exact ⟨a, vs, rfl, h1, h2⟩
      | frz d =>
        cases d with
        | lst xs =>
          cases h
          obtain ⟨_, hr⟩ := hc
          cases hr with
          | lst h1 h2 => exact ⟨a, _, rfl, R.same _ _ h1, h2⟩
        | _ => cases h
      | _ => cases h
  | _ => cases h
/-! ### words for the printed text -/
theorem names_of {X : Cx} {x : Str} (hg : Gl X x) (h : ∃ C, PySem.W.nsIn X.K mainGlobals x = some (some (.ref C))) (g : ∀ n C, PySem.W.nsIn X.K mainGlobals n = some (some (.ref C)) → X.mg n = some (.ref C)) (hd : (x == ("__debug__" : Str)) = false := by decide) :
    ∃ v, NamV X.K x v ∧ Names X x v := by
  obtain ⟨C, hC⟩ := h
  exact ⟨_, .inl hC, hg, hd, .inl (g _ _ hC)⟩
theorem all0 {α : Type} {P : α → Prop} : ∀ n ∈ ([] : List α), P n := fun _ h => absurd h List.not_mem_nil
theorem allc {α : Type} {P : α → Prop} {a : α} {l : List α} (h : P a) (t : ∀ n ∈ l, P n) : ∀ n ∈ a :: l, P n := fun n hn => by
  rcases List.mem_cons.mp hn with rfl | hn
  · exact h
  · exact t n hn
end L2.Mi
namespace L2.Mi
open PySem PySem.Spec PyProof.Rows L2
/-- a method's def, as it stands behind the top -/
def OwnF (K : PySem.W.Frag) (x qual : Str) (st : Stmt) (ps : List Str) (f : Addr) : Prop := ∃ fd, Fun K x qual st f fd ∧ Binds K fd ps []
end L2.Mi
namespace L2.Mi
open PySem PySem.Spec PyProof.Rows L2
theorem exm_mk {K : PySem.W.Frag} {cls : Value} {C : Addr} {b : Bool} (h1 : PySem.W.subIn K (.ref C) (.type "BaseException") = some true) (h2 : PySem.W.isClsIn K C = true) (h3 : PySem.W.typeIn K (.ref C) = some (.type "type")) (h4 : PySem.W.subIn K cls (.ref C) = some b) : PySem.W.exmOne K cls (.ref C) = some b := by
  unfold PySem.W.isClsIn at h2
  unfold PySem.W.exmOne PySem.W.kitCls
  rw [h1, if_pos (by rfl)]
  show (if ((PySem.W.clsIn K C).isSome && PySem.W.typeIn K (.ref C) == some (.type "type")) = true then PySem.W.subIn K cls (.ref C) else none) = some b
  rw [if_pos (by rw [h2, h3]; rfl), h4]
end L2.Mi

/-! walking whatever stands there: a tree, a text, a cell as it stands at each turn -/
namespace L2.Mi
open PySem PySem.Spec PyProof.Rows L2
abbrev Wk := Nat → Cs → Option (Option D)
abbrev MK := Ls → Cs → R Wk
def fixW (ds : List D) : Wk := fun i _ => some ds[i]?
def cellL (k : Nat) (c : Cs) : Option (List D) := match c[k]? with
  | some (.lst ds) => some ds
  | some (.frz (.lst ds)) => some ds
  | _ => none
def cellW (k : Nat) : Wk := fun i c => match cellL k c with
  | some ds => some ds[i]?
  | none => none
def WalksW (K : PySem.W.Frag) (I : Hp) (m : List Addr) (J : It) (w : Wk) : Prop := ∀ (i : Nat) (I' H : Hp) (m' : List Addr) (c : Cs), Same I I' → Pre m m' → Rel K I' H m' c →
  (∀ d, w i c = some (some d) → J.go i H ∧ ∀ x H', J.yld i H x H' → ∃ I'', Ext I' m' H I'' m' H' ∧ Rel K I'' H' m' c ∧ Rep K I'' m' x d) ∧ (w i c = some none → J.stop i H)
theorem WalksW.ext {K : PySem.W.Frag} {I I1 H H1 : Hp} {m m1 : List Addr} {J : It} {w : Wk} (h : WalksW K I m J w) (e : Ext I m H I1 m1 H1) : WalksW K I1 m1 J w := fun i I' H m' c s p => h i I' H m' c (e.same.trans s) (e.pre.trans p)
def rW (K : PySem.W.Frag) : Hp → List Addr → It → Wk → Prop := fun I m J w => WalksW K I m J w
def rdK (K : PySem.W.Frag) (W : WX) (f : MK) : TI := rd (rW K) K W f
theorem walks_fix {K : PySem.W.Frag} {I : Hp} {m : List Addr} {J : It} {ds : List D} (h : Walks K I m J ds) : WalksW K I m J (fixW ds) := fun i I' H m' c s p R => by
  obtain ⟨h1, h2⟩ := h i I' H m' c s p R
  refine ⟨fun d e => h1 d (Option.some.inj e), fun e => h2 (List.getElem?_eq_none_iff.mp (Option.some.inj e))⟩
/-- a list of items told beforehand -/
def kFix (it : MI) : MK := fun l c => (it l c).bind fun ds c1 => .ok (fixW ds) c1
theorem mk_fix {X : Cx} {W : WX} {tg it : Expr} {fi : MI} (h : PI X tg it (rdI X.K W fi)) : PI X tg it (rdK X.K W (kFix fi)) := PIi h fun σ H Q ⟨I, m, l, c, R, L, A⟩ =>
  ⟨I, m, l, c, R, L, After.mono (After.bind (rep := rI' X.K) A) fun J H1 ⟨I1, m1, c1, ds, E1, R1, w1, A1⟩ => A1.here R1 (walks_fix w1)⟩
theorem walks_cell {K : PySem.W.Frag} {I : Hp} {m : List Addr} {k : Nat} {a : Addr} (hk : m[k]? = some a) : WalksW K I m (Itl K a) (cellW k) := fun i I' H m' c s p R => by
  have hk' := p _ _ hk
  have one : ∀ ds, cellL k c = some ds → ∃ vs, SqL K H a vs ∧ Reps K I' m' vs ds := fun ds e => by
    unfold cellL at e
    cases q : c[k]? with
    | none => rw [q] at e; cases e
    | some x =>
      rw [q] at e
      have hc := R.cell k a x hk' q
      cases x with
      | lst xs => cases e; obtain ⟨_, vs, h1, h2⟩ := hc; exact ⟨vs, SqL.of h1, h2⟩
      | frz d =>
        cases d with
        | lst xs =>
          cases e
          obtain ⟨_, hr⟩ := hc
          cases hr with
          | lst h1 h2 => exact ⟨_, SqL.of (R.same _ _ h1), h2⟩
        | _ => cases e
      | _ => cases e
  unfold cellW
  cases q : cellL k c with
  | none => exact ⟨fun d e => by simp at e, fun e => by simp at e⟩
  | some ds =>
    obtain ⟨vs, hs, hr⟩ := one ds q
    refine ⟨fun d e => ?_, fun e => ⟨vs, hs, ?_⟩⟩
    · have e : ds[i]? = some d := Option.some.inj e
      obtain ⟨v, hv, pv⟩ := hr.get e
      refine ⟨⟨vs, v, hs, hv⟩, fun x H' y => ?_⟩
      obtain ⟨e2, y⟩ := y
      subst e2
      have ev : x = v := by
        have z := y vs hs
        rw [hv] at z
        exact (Option.some.inj z).symm
      subst ev
      exact ⟨I', Ext.refl _ _ _, R, pv⟩
    · have e : ds[i]? = none := Option.some.inj e
      rw [hr.length]
      exact List.getElem?_eq_none_iff.mp e
def wAny (x : D) (c : Cs) : R Wk := match x with
  | .lst ds => .ok (fixW ds) c
  | .ro ds => .ok (fixW ds) c
  | .tup ds => .ok (fixW ds) c
  | .str s => .ok (fixW (chrs s)) c
  | .ref k => match cellL k c with
    | some _ => .ok (cellW k) c
    | none => .stuck
  | _ => .stuck
def kAny (a : ME) : MK := fun l c => (a l c).bind fun x c1 => wAny x c1
def iSeq (K : PySem.W.Frag) (tl : TE) : TI := fun σ H R => tl σ H fun x H1 => (∃ a, x = .ref a ∧ (∃ xs, SqL K H1 a xs) ∧ R (Itl K a) H1) ∨ (∃ a, x = .ref a ∧ (∃ xs, SqT K H1 a xs) ∧ R (Itt K a) H1) ∨ ∃ y, x = .str y ∧ R (Its y) H1
theorem pi_seq {X : Cx} {tg l : Expr} {tl : TE} (hl : PE X l tl) : PI X tg l (iSeq X.K tl) := by
  refine ⟨fun pins s σ H R I h => ?_⟩
  refine thn (hl.run pins s σ H _ I h) fun v s1 ⟨x, H1, I1, r1, q1⟩ => ?_
  rcases q1 with ⟨a, e, ⟨xs, hq⟩, q⟩ | ⟨a, e, ⟨xs, hq⟩, q⟩ | ⟨y, e, q⟩
  · subst e
    cases r1
    obtain ⟨its, rv, p, hz⟩ := I1.list hq
    refine wpAny_pyIter_list p.isList ?_
    refine ⟨s1.heap.objs.size, [s1.heap.objs.size], _, _, H1, rfl, I1.kept (t' := s1.toks) fun b o e => Heap.get?_push_of_some _ e, turn_list a _, ⟨_, Heap.get?_push_size _ rfl, rfl, rfl⟩, fun b hb => ?_, q⟩
    have e : b = s1.heap.objs.size := by simpa using hb
    subst e
    exact I1.fpOk (Nat.le_refl _) (I1.hok.fresh (Nat.le_refl _))
  · subst e
    cases r1
    obtain ⟨its, rv, p, hz⟩ := I1.tuple hq
    refine wpAny_pyIter_tuple (show s1.heap.IsTuple a its.toArray from p) ?_
    refine ⟨s1.heap.objs.size, [s1.heap.objs.size], _, _, H1, rfl, I1.kept (t' := s1.toks) fun b o e => Heap.get?_push_of_some _ e, turn_tuple a _, ⟨_, Heap.get?_push_size _ rfl, rfl, rfl⟩, fun b hb => ?_, q⟩
    have e : b = s1.heap.objs.size := by simpa using hb
    subst e
    exact I1.fpOk (Nat.le_refl _) (I1.hok.fresh (Nat.le_refl _))
  · subst e
    obtain ⟨t, rfl⟩ := r1
    cases ha : y.cps.all (· < 128)
    · exact wpAny_pyIter_wide ha (pi_one (tk := s1.toks) I1 _ (turn_str _ y t "str_iterator" (.inr rfl)) ⟨_, Heap.get?_push_size _ rfl, rfl, rfl⟩ q)
    · exact wpAny_pyIter_ascii ha (pi_one (tk := s1.toks) I1 _ (turn_str _ y t "str_ascii_iterator" (.inl rfl)) ⟨_, Heap.get?_push_size _ rfl, rfl, rfl⟩ q)
theorem mk_any {X : Cx} {W : WX} {tg e : Expr} {fa : ME} (h : PE X e (rdE X.K W fa)) : PI X tg e (rdK X.K W (kAny fa)) := PIi (pi_seq h) fun σ H Q ⟨I, m, l, c, R, L, A⟩ =>
  ⟨I, m, l, c, R, L, After.mono (After.bind (rep := rD X.K) A) fun v1 H1 ⟨I1, m1, c1, d1, E1, R1, p1, A1⟩ => by
    cases p1 with
    | @lst a vs ds h r => exact .inl ⟨a, rfl, ⟨vs, SqL.of (R1.same _ _ h)⟩, A1.here R1 (walks_fix (walks_list (SqL.of h) r))⟩
    | @ro a vs ds h r => exact .inl ⟨a, rfl, ⟨vs, R1.same.seq h⟩, A1.here R1 (walks_fix (walks_list h r))⟩
    | @tup a vs ds h r => exact .inr (.inl ⟨a, rfl, ⟨vs, sqT_same R1.same h⟩, A1.here R1 (walks_fix (walks_tup h r))⟩)
    | str s => exact .inr (.inr ⟨s, rfl, A1.here R1 (walks_fix walks_str)⟩)
    | @ref k a hk =>
      have A2 : After (rW X.K) X.K I1 m1 H1 (fun cls dd H' => W cls dd σ H') Q (match cellL k c1 with
        | some _ => .ok (cellW k) c1
        | none => .stuck) := A1
      cases q : cellL k c1 with
      | none => rw [q] at A2; exact A2.elim
      | some ds =>
        rw [q] at A2
        refine .inl ⟨a, rfl, ?_, A2.here R1 (walks_cell hk)⟩
        have q0 := q
        unfold cellL at q
        cases z : c1[k]? with
        | none => rw [z] at q; cases q
        | some x =>
          rw [z] at q
          have hc := R1.cell k a x hk z
          cases x with
          | lst xs => obtain ⟨_, vs, h1, h2⟩ := hc; exact ⟨vs, SqL.of h1⟩
          | frz d =>
            cases d with
            | lst xs =>
              obtain ⟨_, hr⟩ := hc
              cases hr with
              | lst h1 h2 => exact ⟨_, SqL.of (R1.same _ _ h1)⟩
            | _ => cases q
          | _ => cases q
    | _ => exact A1.elim⟩

/-! ### for -/
def forW (g : MG) (f : MS) (w : Wk) : Nat → Nat → Ls → Cs → RS
  | 0, _, _, _ => .stuck
  | n + 1, i, l, c => match w i c with
    | none => .stuck
    | some none => .go (.nx l) c
    | some (some d) => (g d l c).seq l fun l1 c1 => match f l1 c1 with
      | .go (.nx l2) c2 => forW g f w n (i + 1) l2 c2
      | .go (.ct l2) c2 => forW g f w n (i + 1) l2 c2
      | .go (.bk l2) c2 => .go (.nx l2) c2
      | r => r
def fuelW : Nat := 20000000
def sForW (it : MK) (g : MG) (f : MS) : MS := fun l c => (it l c).seq l fun w c1 => forW g f w fuelW 0 l c1
theorem ms_forW {X : Cx} {W : WX} {tg iter : Expr} {body : List Stmt} {pos : Pos} {fi : MK} {g : MG} {f : MS} (hp : PassesOwn (model X.prog X.w) X.A X.env X.xe) (hc : X.calm = true) (hi : PI X tg iter (rdK X.K W fi)) (hg : PG X tg (rdG X.K W g)) (hb : PSs X body (rdS X.K W f))
    (hs : ∀ x, foldedSetIterable iter X.env x = pure x := by intro _; rfl) : PS X (.For tg iter body [] pos) (rdS X.K W (sForW fi g f)) := PSi (ps_for hp hc hi hg hb hs) fun D σ H ⟨I, m, l, c, R, L, A⟩ => by
  refine ⟨I, m, l, c, R, L, After.mono (AfterS.seq (rep := rW X.K) L A) fun J H1 ⟨I1, m1, c1, w, E1, R1, w1, A1⟩ => ?_⟩
  refine ⟨fun i n σ H => ∃ I' m' l' c', Ext I1 m1 H1 I' m' H ∧ Rel X.K I' H m' c' ∧ Locs X.K I' m' σ l' ∧ AfterS X.K I' m' H W D (forW g f w n i l' c'), ⟨_, I1, m1, l, c1, Ext.refl _ _ _, R1, L.ext E1, A1⟩, ?_⟩
  rintro i n σ' H' ⟨I', m', l', c', E', R', L', A'⟩
  obtain ⟨wg, ws⟩ := w1 i I' H' m' c' E'.same E'.pre R'
  cases n with
  | zero => exact A'.elim
  | succ n =>
    have A' : AfterS X.K I' m' H' W D (match w i c' with
      | none => .stuck
      | some none => .go (.nx l') c'
      | some (some d) => (g d l' c').seq l' fun l1 c1 => match f l1 c1 with
        | .go (.nx l2) c2 => forW g f w n (i + 1) l2 c2
        | .go (.ct l2) c2 => forW g f w n (i + 1) l2 c2
        | .go (.bk l2) c2 => .go (.nx l2) c2
        | r => r) := A'
    cases q : w i c' with
    | none => rw [q] at A'; exact A'.elim
    | some od =>
      rw [q] at A'
      cases od with
      | none => exact .inl ⟨ws q, A' I' m' H' σ' (Ext.refl _ _ _) R' L'⟩
      | some d =>
        obtain ⟨go, yl⟩ := wg d q
        refine .inr ⟨go, fun σ2 H2 => ∃ I2 m2 l2 c2, Ext I1 m1 H1 I2 m2 H2 ∧ Rel X.K I2 H2 m2 c2 ∧ Locs X.K I2 m2 σ2 l2 ∧ AfterS X.K I2 m2 H2 W D (forW g f w n (i + 1) l2 c2),
          fun σ2 H2 ⟨I2, m2, l2, c2, e2, r2, L2, a2⟩ => ⟨n, Nat.lt_succ_self n, I2, m2, l2, c2, e2, r2, L2, a2⟩, fun x H3 y => ?_⟩
        obtain ⟨I3, E3, R3, p3⟩ := yl x H3 y
        have A3 := AfterS.ext E3 A'
        refine ⟨I3, m', l', c', d, R3, L'.ext E3, p3, After.mono (AfterS.seq (rep := rL X.K) (L'.ext E3) A3) fun σ4 H4 ⟨I4, m4, c4, l4, E4, R4, L4, A4⟩ => ?_⟩
        refine ⟨I4, m4, l4, c4, R4, L4, ?_⟩
        have EE := (E'.trans E3).trans E4
        have A5 : AfterS X.K I4 m4 H4 W D (match f l4 c4 with
          | .go (.nx l2) c2 => forW g f w n (i + 1) l2 c2
          | .go (.ct l2) c2 => forW g f w n (i + 1) l2 c2
          | .go (.bk l2) c2 => .go (.nx l2) c2
          | r => r) := A4
        cases qf : f l4 c4 with
        | stuck => rw [qf] at A5; exact A5
        | exc x l' c' => rw [qf] at A5; exact A5
        | go fl c5 =>
          rw [qf] at A5
          cases fl with
          | nx l5 => exact fun I6 m6 H6 σ6 e6 r6 L6 => ⟨I6, m6, l5, c5, EE.trans e6, r6, L6, AfterS.ext e6 A5⟩
          | ct l5 => exact fun I6 m6 H6 σ6 e6 r6 L6 => ⟨I6, m6, l5, c5, EE.trans e6, r6, L6, AfterS.ext e6 A5⟩
          | bk l5 => exact A5
          | rt d => exact A5

/-! ### comprehensions -/
def compW (g : MG) (t : MT) (e : ME) (lw : Ls) (w : Wk) : Nat → Nat → List D → Cs → R (List D)
  | 0, _, _, _ => .stuck
  | n + 1, i, acc, c => match w i c with
    | none => .stuck
    | some none => .ok acc c
    | some (some d) => (g d lw c).nox.bind fun l1 c1 => (t l1 c1).nox.bind fun k c2 => match k with
      | true => (e l1 c2).nox.bind fun x c3 => if acc.length < sizeLine then compW g t e lw w n (i + 1) (acc ++ [x]) c3 else .stuck
      | false => compW g t e lw w n (i + 1) acc c2
def mLcW (it : MK) (js : List Nat) (g : MG) (t : MT) (e : ME) : ME := fun l c => (it l c).bind fun w c1 => (compW g t e (wipeL l js) w fuelW 0 [] c1).bind fun xs c2 => .ok (.lst xs) c2
theorem lc_readW {K : PySem.W.Frag} {W : WX} {fi : MK} {g : MG} {ft : MT} {fe : ME} {js : List Nat} {g0 : TG} (good : Good g0 js) (rg : ∀ v σ H Q, rdG K W0 g v σ H Q → g0 v σ H Q) {σ : St} {H : Hp} {Q : VK} (h : rdE K W (mLcW fi js g ft fe) σ H Q) :
    tLc (rdK K W fi) g0 (rdT K W0 ft) (rdE K W0 fe) js σ H Q := by
  obtain ⟨I, m, l, c, R, L, A⟩ := h
  refine ⟨I, m, l, c, R, L, After.mono (After.bind (rep := rW K) A) fun J H1 ⟨I1, m1, c1, w, E1, R1, w1, A1⟩ => ?_⟩
  intro Dn hD
  have nI := R1.same.free hD
  have nm := R1.fresh hD
  refine ⟨fun i n H => ∃ I' m' c' acc vs, Ext I1 m1 H1 I' m' H ∧ Rel K I' H m' c' ∧ Reps K I' m' vs acc ∧ H Dn = some (.lst vs) ∧ I' Dn = none ∧ Dn ∉ m' ∧
    After (rD K) K I1 m1 H1 (fun cls dd H' => W cls dd σ H') Q ((compW g ft fe (wipeL l js) w n i acc c').bind fun xs c2 => .ok (.lst xs) c2),
    ⟨_, I1, m1, c1, [], [], ⟨Same.refl _, Pre.refl _, fun b o h1 hT h2 h3 => ⟨by rw [upd_ne (ne_of_none h1 hD)]; exact h1, h2, h3⟩⟩, R1.side (vs := []) (.inl hD) nI nm, .nil, upd_same, nI, nm, A1⟩, ?_⟩
  rintro i n H' ⟨I', m', c', acc, vs, E', R', p', hH', hI', hm', A'⟩
  obtain ⟨wg, ws⟩ := w1 i I' H' m' c' E'.same E'.pre R'
  have asc : ∀ {α β γ : Type} (r : Mi.R α) (f : α → Cs → Mi.R β) (h : β → Cs → Mi.R γ), (r.bind f).bind h = r.bind fun a c => (f a c).bind h := fun r f h => by cases r <;> rfl
  cases n with
  | zero => exact A'.elim
  | succ n =>
    have A' : After (rD K) K I1 m1 H1 (fun cls dd H' => W cls dd σ H') Q ((match w i c' with
      | none => .stuck
      | some none => .ok acc c'
      | some (some d) => (g d (wipeL l js) c').nox.bind fun l1 c1 => (ft l1 c1).nox.bind fun k c2 => match k with
        | true => (fe l1 c2).nox.bind fun x c3 => if acc.length < sizeLine then compW g ft fe (wipeL l js) w n (i + 1) (acc ++ [x]) c3 else .stuck
        | false => compW g ft fe (wipeL l js) w n (i + 1) acc c2 : Mi.R (List D)).bind fun xs c2 => .ok (.lst xs) c2) := A'
    cases q : w i c' with
    | none => rw [q] at A'; exact A'.elim
    | some od =>
      rw [q] at A'
      cases od with
      | none =>
        refine .inl ⟨ws q, ?_⟩
        have sI : Same I' (upd I' Dn (.lst vs)) := fun b o e => by rw [upd_ne (ne_of_none e hI')]; exact e
        refine A' (upd I' Dn (.lst vs)) m' H' (.ref Dn) ⟨E'.same.trans sI, E'.pre, fun b o h1 hT h2 h3 => ?_⟩ (R'.adopt hH' hI' hm') (.lst upd_same (p'.mono sI (Pre.refl _)))
        obtain ⟨q1, q2, q3⟩ := E'.fr b o h1 hT h2 h3
        exact ⟨q1, by rw [upd_ne (ne_of_none h1 hD)]; exact q2, q3⟩
      | some d =>
        obtain ⟨go, yl⟩ := wg d q
        refine .inr ⟨go, fun H2 => ∃ I2 m2 c2 acc2 vs2, Ext I1 m1 H1 I2 m2 H2 ∧ Rel K I2 H2 m2 c2 ∧ Reps K I2 m2 vs2 acc2 ∧ H2 Dn = some (.lst vs2) ∧ I2 Dn = none ∧ Dn ∉ m2 ∧
          After (rD K) K I1 m1 H1 (fun cls dd H' => W cls dd σ H') Q ((compW g ft fe (wipeL l js) w n (i + 1) acc2 c2).bind fun xs c2 => .ok (.lst xs) c2),
          fun H2 ⟨I2, m2, c2, acc2, vs2, e2, r2, pp2, h2, i2, n2, a2⟩ => ⟨n, Nat.lt_succ_self n, I2, m2, c2, acc2, vs2, e2, r2, pp2, h2, i2, n2, a2⟩, fun x H3 y => ?_⟩
        obtain ⟨I3, E3, R3, p3⟩ := yl x H3 y
        have Lw := ((locs_wipe L js).ext E1).ext (E'.trans E3)
        have A3 : After (rD K) K I1 m1 H1 (fun cls dd H' => W cls dd σ H') Q (((g d (wipeL l js) c').nox.bind fun l1 c1 => (ft l1 c1).nox.bind fun k c2 => match k with
          | true => (fe l1 c2).nox.bind fun x c3 => if acc.length < sizeLine then compW g ft fe (wipeL l js) w n (i + 1) (acc ++ [x]) c3 else .stuck
          | false => compW g ft fe (wipeL l js) w n (i + 1) acc c2).bind fun xs c2 => .ok (.lst xs) c2) := A'
        rw [asc] at A3
        refine good x σ H3 _ (rg _ _ _ _ ⟨I3, m', wipeL l js, c', d, R3, Lw, p3, After.mono (After.nox (After.bindAt (rep := rL K) A3 (E'.trans E3))) fun σ4 H4 ⟨I4, m4, c4, l4, E4, R4, L4, A4⟩ => ?_⟩)
        rw [asc] at A4
        have EE := (E'.trans E3).trans E4
        refine ⟨I4, m4, l4, c4, R4, L4, After.mono (After.nox (After.bindAt (rep := rB) A4 EE)) fun b H5 ⟨I5, m5, c5, b5, E5, R5, p5, A5⟩ => ?_⟩
        cases (show b = b5 from p5)
        have F5 := (E3.trans E4).trans E5
        cases b with
        | false =>
          obtain ⟨f1, f2, f3⟩ := F5.fr _ _ hH' ⟨(fun _ z => nomatch z), (fun _ z => nomatch z)⟩ hI' hm'
          exact iteF ⟨I5, m5, c5, acc, vs, EE.trans E5, R5, p'.ext F5, f1, f2, f3, A5⟩
        | true =>
          have A6 : After (rD K) K I1 m1 H1 (fun cls dd H' => W cls dd σ H') Q (((fe l4 c5).nox.bind fun x c3 => if acc.length < sizeLine then compW g ft fe (wipeL l js) w n (i + 1) (acc ++ [x]) c3 else .stuck).bind fun xs c2 => .ok (.lst xs) c2) := A5
          rw [asc] at A6
          have L4' : Locs K I4 m4 σ4 l4 := L4
          refine iteT ⟨I5, m5, l4, c5, R5, L4'.ext E5, After.mono (After.nox (After.bindAt (rep := rD K) A6 (EE.trans E5))) fun z H7 ⟨I7, m7, c7, d7, E7, R7, p7, A7⟩ => ?_⟩
          have F7 := F5.trans E7
          obtain ⟨f1, f2, f3⟩ := F7.fr _ _ hH' ⟨(fun _ z => nomatch z), (fun _ z => nomatch z)⟩ hI' hm'
          by_cases hz : acc.length < sizeLine
          · have A8 : After (rD K) K I1 m1 H1 (fun cls dd H' => W cls dd σ H') Q ((if acc.length < sizeLine then compW g ft fe (wipeL l js) w n (i + 1) (acc ++ [d7]) c7 else .stuck).bind fun xs c2 => .ok (.lst xs) c2) := A7
            rw [if_pos hz] at A8
            refine ⟨vs, f1, by rw [p'.length]; exact hz, I7, m7, c7, acc ++ [d7], vs ++ [z], ?_, R7.side (.inr f1) f2 f3, (p'.ext F7).append (.cons p7 .nil), upd_same, f2, f3, A8⟩
            have G := (EE.trans E5).trans E7
            refine ⟨G.same, G.pre, fun b o h1 hT h2 h3 => ?_⟩
            obtain ⟨q1, q2, q3⟩ := G.fr b o h1 hT h2 h3
            exact ⟨by rw [upd_ne (ne_of_none h1 hD)]; exact q1, q2, q3⟩
          · have A8 : After (rD K) K I1 m1 H1 (fun cls dd H' => W cls dd σ H') Q ((if acc.length < sizeLine then compW g ft fe (wipeL l js) w n (i + 1) (acc ++ [d7]) c7 else .stuck).bind fun xs c2 => .ok (.lst xs) c2) := A7
            rw [if_neg hz] at A8
            exact A8.elim
end L2.Mi

/-! operations of own classes -/
namespace L2.Mi
open PySem PySem.Spec PyProof.Rows L2
/-- a special method of the class named n -/
structure SpcK (P : Program) (w : World) (K : PySem.W.Frag) (mg : Str → Option Value) (base : Heap) (n mm : Str) (g : List D → Cs → R D) (k : Nat) : Prop where
  ex : ∃ (C f : Addr) (fd : FuncData) (ps : List Str), NamV K n (.ref C) ∧ (PySem.W.findIn K (.ref C) mm = some (some (.ref f)) ∧ PySem.W.isFn K (.ref f) = true ∧ PySem.W.fnIn K f = true ∧ PySem.W.selfFirst K C = true) ∧ GFn P w K mg base k f fd ps g ∧ Binds K fd ps []
section
variable {X : Cx} {W : WX} {e o a b : Expr} {es : List Expr} {fa fb fo : ME} {ga : MA} {ns : List Str} {pos p : Pos} {k : Nat} {tbl : Tbl} {mm : Str} {g0 : D → D → Cs → R D}
/-- the callee runs at a place below the body -/
theorem run_gAt {A' : Around} {pins : List (Addr × Obj)} {σ : St} {H : Hp} {s : Shared} {Q : VK} {us : List Value} {vs : List V} {I : Hp} {m : List Addr} {c : Cs} {ds : List D} {f : Addr} {fd : FuncData} {ps : List Str} {g : List D → Cs → R D} (F : GFn X.prog X.w X.K X.mg X.base k f fd ps g) (hr : Room k A') (hgd : A'.guards = some [])
    (e0 : Env0 X.prog X.w X.K X.mg X.base A' X.stack s H) (hb : Binds X.K fd ps []) (tk : Takes X W) (J : Inv X pins σ H s) (r : Vals vs us) (R : Rel X.K I H m c) (p : Reps X.K I m vs ds) (a : After (rD X.K) X.K I m H (fun cls d H' => W cls d σ H') Q (g ds c)) :
    wpAny (model X.prog X.w) A' (call (.ref f) us) (EP X pins σ Q) X.xe s := by
  have hl : us.length = ps.length := by rw [← r.length, p.length]; exact F.len ds c (after_nonstuck a)
  have hb2 : BindsTo s fd ⟨us, []⟩ (ps.zip us) := by
    have z := hb s us J.kIn (by rw [List.append_nil]; exact hl)
    rw [List.append_nil] at z
    exact z
  refine wpAny_call (codeAny_mono (F.run A' X.stack s H ⟨us, []⟩ us vs Q (fun cls d H' => W cls d σ H') I m c ds hr hgd e0 hb2 r R p a) fun res s' hq => ?_)
  cases res with
  | error e => exact tk e s' (XE.of_call J (fun _ _ _ h => h) hq)
  | ok fl =>
    cases fl with
    | ret u => exact J.after hq
    | next => exact False.elim hq
    | brk => exact False.elim hq
    | cont => exact False.elim hq
/-- .. a special method's call, told of the instance -/
theorem spc_run {pins : List (Addr × Obj)} {σ : St} {H : Hp} {s : Shared} {Q : VK} {I : Hp} {m : List Addr} {c : Cs} {α : Type} {rep : Hp → List Addr → V → α → Prop} {v : V} {u : Value} {d : D} {r : (List D → Cs → R D) → Mi.R α} (hT : ∀ q ∈ tbl, SpcK X.prog X.w X.K X.mg X.base q.1 mm q.2 k)
    (J : Inv X pins σ H s) (R : Rel X.K I H m c) (pd : Rep X.K I m v d) (rv : RelV v u) (A : After rep X.K I m H (fun cls dd H' => W cls dd σ H') Q (viaT tbl d c fun g _ => r g)) :
    ∃ (a C f : Addr) (ox : Obj) (od : Obj) (g : List D → Cs → Mi.R D) (n : Str), u = .ref a ∧ v = .ref a ∧ NamV X.K n (.ref C) ∧ (∃ fs, insOf d c = some (n, fs)) ∧ PySem.W.InstAt s.heap a ox C (some od) ∧ ox.data = .plain ∧ (PySem.W.findIn X.K (.ref C) mm = some (some (.ref f)) ∧ PySem.W.isFn X.K (.ref f) = true ∧ PySem.W.fnIn X.K f = true ∧ PySem.W.selfFirst X.K C = true) ∧ After rep X.K I m H (fun cls dd H' => W cls dd σ H') Q (r g) ∧
      ∀ (A' : Around) (us : List Value) (vs : List V) (ds : List D) (Q2 : VK), Room k A' → A'.guards = some [] → Env0 X.prog X.w X.K X.mg X.base A' X.stack s H → Takes X W → Vals vs us → Reps X.K I m vs ds →
        After (rD X.K) X.K I m H (fun cls d H' => W cls d σ H') Q2 (g ds c) → wpAny (model X.prog X.w) A' (call (.ref f) us) (EP X pins σ Q2) X.xe s := by
  have A0 := A
  unfold viaT at A
  cases q : insOf d c with
  | none => rw [q] at A; exact A.elim
  | some nf =>
    obtain ⟨n, fs⟩ := nf
    rw [q] at A
    have A : After rep X.K I m H (fun cls dd H' => W cls dd σ H') Q (match tbl.lookup n with
      | some g => r g
      | none => .stuck) := A
    cases z : tbl.lookup n with
    | none => rw [z] at A; exact A.elim
    | some g =>
      rw [z] at A
      obtain ⟨a, C, dx, ws, rfl, h1, h2, h3⟩ := ins_at R pd q
      obtain rfl : u = Value.ref a := rv
      obtain ⟨C', f, fd, ps, k1, kk, F, hb⟩ := (hT _ (tbl_mem z)).ex
      cases h1.one k1
      obtain ⟨mA, O, _⟩ := ins_get J.hok h2
      obtain ⟨od, JJ, _⟩ := O.look
      exact ⟨a, C, f, _, od, g, n, rfl, rfl, h1, ⟨fs, rfl⟩, JJ, rfl, kk, A, fun A' us vs ds Q2 hr hgd e0 tk r p a2 => run_gAt F hr hgd e0 hb tk J r R p a2⟩
/-! ### two operands -/
def rX (K : PySem.W.Frag) (W : WX) (σ : St) (g : D → D → Cs → R D) (x y : V) (H : Hp) (Q : VK) : Prop := ∃ I m c d e, Rel K I H m c ∧ Rep K I m x d ∧ Rep K I m y e ∧ After (rD K) K I m H (fun cls dd H' => W cls dd σ H') Q (g d e c)
def OpX (X : Cx) (W : WX) (f : Value → Value → Sem Value) (g : D → D → Cs → R D) : Prop := ∀ (pins : List (Addr × Obj)) (s : Shared) (σ : St) (H : Hp) (x y : V) (v u : Value) (Q : VK), Inv X pins σ H s → RelV x v → RelV y u → rX X.K W σ g x y H Q →
  wpAny (model X.prog X.w) X.A (f v u) (EP X pins σ Q) X.xe s
theorem OpX.of {f : Value → Value → Sem Value} {r : R2} (ho : OpR X f r) (hs : OpS X.K r g0) : OpX X W f g0 := fun pins s σ H x y v u Q J rx ry ⟨I, m, c, d, e, R, p, q, A⟩ => ho pins s σ H x y v u Q J rx ry (hs _ _ _ _ _ _ _ _ _ _ R p q A)
theorem opX_read {σ : St} {H : Hp} {Q : VK} {K : PySem.W.Frag} (h : rdE K W (mOp g0 fa fb) σ H Q) : rdE K W fa σ H fun x H1 => rdE K W fb σ H1 fun y H2 => rX K W σ g0 x y H2 Q := by
  obtain ⟨I, m, l, c, R, L, A⟩ := h
  refine ⟨I, m, l, c, R, L, After.mono (After.bind (rep := rD K) A) fun v1 H1 ⟨I1, m1, c1, d1, E1, R1, p1, A1⟩ => ?_⟩
  refine ⟨I1, m1, l, c1, R1, L.ext E1, After.mono (After.bind (rep := rD K) A1) fun v2 H2 ⟨I2, m2, c2, d2, E2, R2, p2, A2⟩ => ?_⟩
  exact ⟨I2, m2, c2, d1, d2, R2, Rep.ext p1 E2, p2, A2⟩
theorem mt_cmpX {op : CmpOp} (ho : OpX X W (compareOp op) g0) (ha : PE X a (rdE X.K W fa)) (hb : PE X b (rdE X.K W fb)) (hm : behindInMarks op b = false) : PT X (.Compare a [op] [b] pos) (rdT X.K W (mT (mOp g0 fa fb))) := by
  refine ⟨fun pins s σ H Q J h => ?_⟩
  obtain ⟨I, m, l, c, R, L, A⟩ := h
  have h2 : rdE X.K W (mOp g0 fa fb) σ H fun x H' => ∃ k, x = .bl k ∧ Q k H' := ⟨I, m, l, c, R, L, After.mono (After.bind (rep := rD X.K) A) fun v1 H1 ⟨I1, m1, c1, d1, E1, R1, p1, A1⟩ => by
    cases p1 with
    | bl k => exact ⟨k, rfl, A1.here R1 rfl⟩
    | _ => exact A1.elim⟩
  refine wpAny_isTrue_Compare1 (binT ha hb J (opX_read h2) fun v u s2 x y H2 I2 rx ry q => thn (ho pins s2 σ H2 x y v u _ I2 rx ry q) fun c s3 ⟨z, H3, I3, r3, k, e, q3⟩ => ?_) hm
  subst e
  cases r3
  exact wpAny_truthy_bool ⟨H3, I3, q3⟩
/-- x in y, y perhaps an instance -/
def inI (tbl : Tbl) (neg : Bool) (g0 : D → D → Cs → R D) (x y : D) (c : Cs) : R D := match insOf y c with
  | some _ => (viaT tbl y c fun g _ => g [y, x] c).bind fun r c2 => match r with
    | .bl b => .ok (.bl (sgn neg b)) c2
    | _ => .stuck
  | none => g0 x y c
theorem ox_in {neg : Bool} (hT : ∀ q ∈ tbl, SpcK X.prog X.w X.K X.mg X.base q.1 "__contains__" q.2 k) (hr : Room k X.A) (hgd : X.A.guards = some []) (tk : Takes X W) (h0 : OpX X W (compareOp (if neg then .NotIn else .In)) g0) : OpX X W (compareOp (if neg then .NotIn else .In)) (inI tbl neg g0) :=
  fun pins s σ H x y v u Q J rx ry ⟨I, m, c, d, e, R, p, q, A⟩ => by
    unfold inI at A
    cases z : insOf e c with
    | none => rw [z] at A; exact h0 pins s σ H x y v u Q J rx ry ⟨I, m, c, d, e, R, p, q, A⟩
    | some nf =>
      rw [z] at A
      have A : After (rD X.K) X.K I m H (fun cls dd H' => W cls dd σ H') Q ((viaT tbl e c fun g _ => g [e, d] c).bind fun r c2 => match r with
        | .bl b => .ok (.bl (sgn neg b)) c2
        | _ => .stuck) := A
      obtain ⟨a, C, f, ox, od, g, n, rfl, rfl, _, _, JJ, _, kk, A2, run⟩ := spc_run hT J R q ry (After.bind (rep := rD X.K) A)
      obtain ⟨m0, F⟩ := J.fr
      have body : wpAny (model X.prog X.w) X.A (call (.ref f) [.ref a, v]) (fun r s' => wpAny (model X.prog X.w) X.A (truthy r) (fun b => EP X pins σ Q (.bool (sgn neg b))) X.xe s') X.xe s :=
        wpAny_mono (run X.A [.ref a, v] [.ref a, x] [e, d] _ hr hgd J.env0 tk (.cons rfl (.cons rx .nil)) (.cons q (.cons p .nil)) A2) (fun w s' ⟨z, H', J', rz, I1, m1, c1, d1, E1, R1, p1, A3⟩ => by
          cases p1 with
          | bl b =>
            cases (show w = Value.bool b from rz)
            exact wpAny_truthy_bool ⟨.bl (sgn neg b), H', J', rfl, A3.here R1 (.bl _)⟩
          | _ => exact A3.elim) fun _ _ z => z
      cases neg with
      | false => exact PySem.W.in_K F J.ok.mod.kin JJ kk.1 kk.2.1 body
      | true => exact PySem.W.notIn_K F J.ok.mod.kin JJ kk.1 kk.2.1 body
end
end L2.Mi

/-! lists and texts once more: *, join, count, and results that stand in cells -/
namespace L2.Mi
open PySem PySem.Spec PyProof.Rows L2
section
variable {K : PySem.W.Frag} {I H : Hp} {m : List Addr} {c : Cs}
theorem After.cell {W : XK} {Q : VK} {p : Addr} {vs : List V} {ds : List D} (A : After (rD K) K I m H W Q (.ok (.ref c.length) (c ++ [.lst ds]))) (R : Rel K I H m c) (np : H p = none) (r : Reps K I m vs ds) : Q (.ref p) (upd H p (.lst vs)) := by
  obtain ⟨R2, E2⟩ := R.push np r
  refine A _ _ _ _ E2 R2 (Rep.ref ?_)
  rw [← R.len, List.getElem?_append_right (Nat.le_refl _), Nat.sub_self]
  rfl
/-! ### * -/
def repL {α : Type} (xs : List α) (k : Int) : List α := (List.replicate k.toNat xs).flatten
theorem Reps.rep {vs : List V} {ds : List D} (r : Reps K I m vs ds) : ∀ n : Nat, Reps K I m (List.replicate n vs).flatten (List.replicate n ds).flatten
  | 0 => .nil
  | n + 1 => by
    rw [List.replicate_succ, List.replicate_succ, List.flatten_cons, List.flatten_cons]
    exact r.append (Reps.rep r n)
def mulLim (n : Nat) (k : Int) : Prop := n * k.toNat ≤ 100000 ∧ -1000 ≤ k ∧ k ≤ 100000
instance (n : Nat) (k : Int) : Decidable (mulLim n k) := inferInstanceAs (Decidable (n * k.toNat ≤ 100000 ∧ -1000 ≤ k ∧ k ≤ 100000))
def mulT (xs : List D) (k : Int) (c : Cs) : R D := if xs.length ≠ 0 ∧ 2 ≤ k ∧ k ≤ 1000 ∧ xs.length ≤ 1000 then .ok (.tup (repL xs k)) c else .stuck
def mulL (cell : Bool) (x : D) (k : Int) (c : Cs) : R D := match lstC x c with
  | some xs => if mulLim xs.length k then (if cell then .ok (.ref c.length) (c ++ [.lst (repL xs k)]) else .ok (.lst (repL xs k)) c) else .stuck
  | none => .stuck
def mulX (cell : Bool) (x y : D) (c : Cs) : R D := match y with
  | .int k => match x with
    | .int i => mulI (.int i) (.int k) c
    | .str s => if mulLim s.length k then .ok (.str (Txt.mul s k)) c else .stuck
    | .tup xs => mulT xs k c
    | x => mulL cell x k c
  | _ => .stuck
def rMulS : R2 := fun x y H Q => ∃ s k, x = .str s ∧ y = .int k ∧ MulOk s k ∧ Q (.str (Txt.mul s k)) H
theorem op_mulS {X : Cx} : OpR X (binaryOp .Mult) rMulS := by
  intro pins s σ H x y v u Q J rx ry h
  obtain ⟨z, k, rfl, rfl, hz, q⟩ := h
  obtain ⟨t, rfl⟩ := rx
  obtain ⟨t2, rfl⟩ := ry
  exact PySem.SB.mul hz fun t' k' => ⟨.str _, H, J.tok _, ⟨t', rfl⟩, q⟩
theorem mulOk {s : Str} {k : Int} (h : mulLim s.length k) : MulOk s k := by
  obtain ⟨h1, h2, h3⟩ := h
  refine ⟨?_, fun a b => ?_, fun a b => PyProof.Rows.short24 (by omega)⟩
  · rw [Bool.or_eq_false_iff]
    exact ⟨decide_eq_false (by omega), decide_eq_false (by omega)⟩
  · have a1 : 1 ≤ k := by omega
    have hs : s.length ≤ 100000 := by
      have : s.length * 1 ≤ s.length * k.toNat := Nat.mul_le_mul_left _ (by omega)
      omega
    have : (100000 : Int) ≤ (2 ^ 63 - 1) / k := Int.le_ediv_of_mul_le (by omega) (by omega)
    omega
def rMulX (K : PySem.W.Frag) : R2 := fun x y H Q => (rI CMul fun i j => .int (i * j)) x y H Q ∨ rMulS x y H Q ∨ rRepT K x y H Q ∨ rRep x y H Q
theorem op_mulXX {X : Cx} : OpR X (binaryOp .Mult) (rMulX X.K) := op_mul.or (op_mulS.or (op_repT.or op_rep))
theorem os_mulX {cell : Bool} : OpS K (rMulX K) (mulX cell) := fun I H m c v1 v2 d1 d2 W Q R p1 p2 A => by
  have lst : ∀ k : Int, v2 = .int k → After (rD K) K I m H W Q (mulL cell d1 k c) → rMulX K v1 v2 H Q := fun k e A => by
    subst e
    unfold mulL at A
    cases q : lstC d1 c with
    | none => rw [q] at A; exact A.elim
    | some xs =>
      rw [q] at A
      have A : After (rD K) K I m H W Q (if mulLim xs.length k then (if cell = true then .ok (.ref c.length) (c ++ [.lst (repL xs k)]) else .ok (.lst (repL xs k)) c) else .stuck) := A
      by_cases z : mulLim xs.length k
      · rw [if_pos z] at A
        obtain ⟨a1, vs1, rfl, h1, r1⟩ := lstC_at R p1 q
        have z2 := z
        rw [← r1.length] at z2
        obtain ⟨z1, z3, z4⟩ := z2
        have hz : sizeLine = 16777216 := sizeLine_eq
        refine .inr (.inr (.inr ⟨_, _, _, rfl, rfl, h1, by omega, by omega, by omega, fun p np => ?_⟩))
        cases cell with
        | true => exact After.cell (show After (rD K) K I m H W Q (.ok (.ref c.length) (c ++ [.lst (repL xs k)])) from A) R np (r1.rep _)
        | false =>
          have A : After (rD K) K I m H W Q (.ok (.lst (repL xs k)) c) := A
          exact A.new R np (.lst upd_same ((r1.rep _).mono (same_upd R.same np) (Pre.refl _)))
      · rw [if_neg z] at A; exact A.elim
  cases p2 with
  | int k =>
    cases p1 with
    | int i => exact .inl (os_mulI I H m c _ _ _ _ W Q R (.int i) (.int k) A)
    | str s =>
      have A : After (rD K) K I m H W Q (if mulLim s.length k then .ok (.str (Txt.mul s k)) c else .stuck) := A
      by_cases z : mulLim s.length k
      · rw [if_pos z] at A
        exact .inr (.inl ⟨s, k, rfl, rfl, mulOk z, A.here R (.str _)⟩)
      · rw [if_neg z] at A; exact A.elim
    | @tup a vs ds h r =>
      have A : After (rD K) K I m H W Q (if ds.length ≠ 0 ∧ 2 ≤ k ∧ k ≤ 1000 ∧ ds.length ≤ 1000 then .ok (.tup (repL ds k)) c else .stuck) := A
      by_cases z : ds.length ≠ 0 ∧ 2 ≤ k ∧ k ≤ 1000 ∧ ds.length ≤ 1000
      · rw [if_pos z] at A
        obtain ⟨z1, z2, z3, z4⟩ := z
        refine .inr (.inr (.inl ⟨a, k, vs, rfl, rfl, sqT_same R.same h, fun e => ?_, z2, z3, by rw [r.length]; exact z4, fun p np => A.new R np (.tup ?_ ((r.rep _).mono (same_upd R.same np) (Pre.refl _)))⟩))
        · have := r.length
          rw [e] at this
          exact z1 this.symm
        · exact .inl (.inl upd_same)
      · rw [if_neg z] at A; exact A.elim
    | lst h r => exact lst k rfl A
    | ref h => exact lst k rfl A
    | _ => exact lst k rfl A
  | _ => exact A.elim
/-! ### sep.join of what stands in a cell too -/
def joinX (x y : D) (c : Cs) : R D := match y with
  | .ref k => match x with
    | .str a => match lstC (.ref k) c with
      | some ds => joinL a ds c
      | none => .stuck
    | _ => .stuck
  | y => joinD x y c
theorem m1_joinX : M1S K (fun x xs H Q => ∃ a p, ∃ ys : List Str, x = .str a ∧ xs = [.ref p] ∧ (SqL K H p (ys.map V.str) ∨ SqT K H p (ys.map V.str)) ∧ (ys.map (·.length)).sum + ys.length * a.length ≤ 16777216 ∧ Q (.str (Txt.join a ys)) H) joinX :=
  fun I H m c v1 v2 d1 d2 W Q R p1 p2 A => by
    have old : After (rD K) K I m H W Q (joinD d1 d2 c) → _ := fun A => m1_join I H m c v1 v2 d1 d2 W Q R p1 p2 A
    cases d2 with
    | ref k =>
      cases p1 with
      | str a =>
        have A : After (rD K) K I m H W Q (match lstC (.ref k) c with
          | some ds => joinL a ds c
          | none => .stuck) := A
        cases e : lstC (.ref k) c with
        | none => rw [e] at A; exact A.elim
        | some ds =>
          rw [e] at A
          obtain ⟨p, vs, rfl, h1, r⟩ := lstC_at R p2 e
          have A : After (rD K) K I m H W Q (joinL a ds c) := A
          unfold joinL at A
          cases q : strsOf ds with
          | none => rw [q] at A; exact A.elim
          | some ys =>
            rw [q] at A
            have A : After (rD K) K I m H W Q (if (ys.map (·.length)).sum + ys.length * a.length ≤ 16777216 then .ok (.str (Txt.join a ys)) c else .stuck) := A
            by_cases hz : (ys.map (·.length)).sum + ys.length * a.length ≤ 16777216
            · rw [if_pos hz] at A
              refine ⟨a, p, ys, rfl, rfl, .inl ?_, hz, A.here R (.str _)⟩
              rw [← strs_reps r q]
              exact SqL.of h1
            · rw [if_neg hz] at A; exact A.elim
      | _ => exact A.elim
    | _ => exact old A
/-! ### s.count(t) -/
/-! ### list(x), the list a cell -/
end
/-! ### a class's constant, isinstance of an own class -/
def CCI (K : PySem.W.Frag) (n f : Str) (i : Int) : Prop := ∃ C mc t, PySem.W.nsIn K mainGlobals n = some (some (.ref C)) ∧ ClX.CRead K C mc ∧ ClX.CVal K C mc f (.int i) (.int i t)
section
variable {X : Cx} {W : WX} {e o : Expr} {es : List Expr} {f n : Str} {fa fo : ME} {ga : MA} {ns : List Str} {pos p p2 : Pos}
theorem me_ccI {i : Int} (T : CCI X.K n f i) (hg : Gl X n) (gx : ∀ n C, PySem.W.nsIn X.K mainGlobals n = some (some (.ref C)) → X.mg n = some (.ref C)) (hd : (n == ("__debug__" : Str)) = false := by decide) (hb : attributeBase (.Name n p) f X.env (eval (.Name n p) X.env) = eval (.Name n p) X.env := by rfl) :
    PE X (.Attribute (.Name n p) f pos) (rdE X.K W (mC (.int i))) := by
  obtain ⟨C, mc, t, h1, h2, h3⟩ := T
  exact PEi (ClX.pe_cval (pe_glob (v := .ref C) hg (gx _ _ h1) rfl hd) hb) fun σ H Q ⟨I, m, l, c, R, L, A⟩ => ⟨C, mc, .int i, _, rfl, h2, h3, A.here R (.int i)⟩
end
end L2.Mi
namespace L2.Mi
open PySem PySem.Spec PyProof.Rows L2
end L2.Mi

/-! the classmethod of(cls, *rows): return cls(rows); one-operand operations of own classes -/
namespace L2.Mi
open PySem PySem.Spec PyProof.Rows L2
def OfRun (P : Program) (w : World) (K : PySem.W.Frag) (mg : Str → Option Value) (base : Heap) (n : Str) (C f : Addr) (g : List D → Cs → R D) (k : Nat) : Prop :=
  ∀ (A : Around) (outer : List Env) (s : Shared) (H : Hp) (us : List Value) (vs : List V) (Q : VK) (E : XK) (I : Hp) (m : List Addr) (c : Cs) (ds : List D), Room k A → A.guards = some [] → Env0 P w K mg base A outer s H → Vals vs us → Rel K I H m c → Reps K I m vs ds → ds.length ≤ sizeLine →
    After (rD K) K I m H E Q (mkR n g [.tup ds] c) → codeAny (model P w) A (.call (.ref f) ⟨.ref C :: us, []⟩) (CR (CX P w) outer P w H s Q E) s
def ofR (n : Str) (g : List D → Cs → R D) (xs : List D) (c : Cs) : R D := if xs.length ≤ sizeLine then mkR n g [.tup xs] c else .stuck
section
variable {X : Cx} {W : WX} {n : Str} {g : List D → Cs → R D} {k : Nat} {e : Expr} {es : List Expr} {ga : MA} {p0 apos pos : Pos} {pl : Sem Bool}
theorem of_call {pins : List (Addr × Obj)} {σ : St} {H : Hp} {s : Shared} {Q : VK} {q C f : Addr} {us : List Value} {vs : List V} {I : Hp} {m : List Addr} {c : Cs} {ds : List D} (O : OfRun X.prog X.w X.K X.mg X.base n C f g k) (hr : Room k X.A) (hgd : X.A.guards = some []) (tk : Takes X W)
    (J : Inv X ((q, PySem.W.methodObj (.ref f) (.ref C)) :: pins) σ H s) (r : Vals vs us) (R : Rel X.K I H m c) (p : Reps X.K I m vs ds) (a : After (rD X.K) X.K I m H (fun cls dd H' => W cls dd σ H') Q (ofR n g ds c)) : wpAny (model X.prog X.w) X.A (call (.ref q) us) (EP X pins σ Q) X.xe s := by
  unfold ofR at a
  by_cases hz : ds.length ≤ sizeLine
  · rw [if_pos hz] at a
    have z : wpAny (model X.prog X.w) X.A (call (.ref q) us) (EP X ((q, PySem.W.methodObj (.ref f) (.ref C)) :: pins) σ Q) X.xe s := by
      refine wpAny_call (PySem.W.method_call (ClX.pin_at J) (codeAny_mono (O X.A X.stack s H us vs Q (fun cls d H' => W cls d σ H') I m c ds hr hgd J.env0 r R p hz a) fun res s' hq => ?_))
      cases res with
      | error e => exact tk e s' (XE.of_call J (fun _ _ _ h => h) hq)
      | ok fl =>
        cases fl with
        | ret u => exact J.after hq
        | next => exact False.elim hq
        | brk => exact False.elim hq
        | cont => exact False.elim hq
    exact thn z fun _ _ y => ClX.unpinE y
  · rw [if_neg hz] at a; exact a.elim
end
/-! ### one operand -/
section
variable {X : Cx} {W : WX} {a b e : Expr} {fa fb : ME} {ga : MA} {pos p : Pos} {k : Nat} {tbl : Tbl}
/-- x[i] -/
def ixI (tbl : Tbl) (g0 : D → D → Cs → R D) (x y : D) (c : Cs) : R D := match insOf x c with
  | some _ => viaT tbl x c fun g _ => g [x, y] c
  | none => g0 x y c
theorem me_ixI {r : R2} {g0 : D → D → Cs → R D} (hT : ∀ q ∈ tbl, SpcK X.prog X.w X.K X.mg X.base q.1 "__getitem__" q.2 k) (hr : Room (k + 1) X.A) (hgd : X.A.guards = some []) (tk : Takes X W) (ho : IxR X r) (hs : OpS X.K r g0) (ha : PE X a (rdE X.K W fa)) (hb : PE X b (rdE X.K W fb)) (hp : PlainIx b)
    (hsl : ∀ o i, subscripted b true o i = runValue (.builtin "lifetime.subscript" ⟨[o, i], []⟩) := by intro _ _; with_unfolding_all rfl) : PE X (.Subscript a b pos) (rdE X.K W (mOp (ixI tbl g0) fa fb)) := by
  refine ⟨fun pins s σ H Q J h => ?_⟩
  refine Subscript_ (binT ha hb J (opX_read h) fun v u s2 x y H2 J2 rx ry ⟨I, m, c, d, e, R, p, q, A⟩ => ?_)
  unfold ixI at A
  cases z : insOf d c with
  | none => rw [z] at A; exact ho a b pins s2 σ H2 x y v u Q J2 rx ry (hs _ _ _ _ _ _ _ _ _ _ R p q A) (hp _ _)
  | some nf =>
    rw [z] at A
    obtain ⟨ad, C, f, ox, od, g, n, rfl, rfl, _, _, JJ, _, kk, A2, run⟩ := spc_run hT J2 R p rx A
    obtain ⟨m0, F⟩ := J2.fr
    exact PySem.W.sub_K F J2.ok.mod.kin JJ kk.1 kk.2.2.1 kk.2.1 (run X.A.in1 [.ref ad, u] [.ref ad, y] [d, e] Q hr.in1 hgd J2.env0.in1 tk (.cons rfl (.cons ry .nil)) (.cons p (.cons q .nil)) A2) (hsl _ _)
end
end L2.Mi
namespace L2.Mi
open PySem PySem.Spec PyProof.Rows L2
/-! ### x == [], x != [] -/
def e0 (neg : Bool) (x y : D) (c : Cs) : R D := match y with
  | .lst [] => match lstC x c with
    | some xs => .ok (.bl (sgn neg xs.isEmpty)) c
    | none => .stuck
  | _ => .stuck
end L2.Mi

namespace L2.Mi
open PySem PySem.Spec PyProof.Rows L2

/-! ### what a computation comes to -/
def Ok {α : Type} (r : R α) (Q : α → Cs → Prop) : Prop := ∃ a c, r = .ok a c ∧ Q a c
theorem Ok.bind {α β : Type} {r : R α} {f : α → Cs → R β} {Q : β → Cs → Prop} (h : Ok r fun a c => Ok (f a c) Q) : Ok (r.bind f) Q := by
  obtain ⟨a, c, rfl, h⟩ := h
  exact h
theorem Ok.mono {α : Type} {r : R α} {Q Q' : α → Cs → Prop} (h : Ok r Q) (w : ∀ a c, Q a c → Q' a c) : Ok r Q' := by
  obtain ⟨a, c, e, h⟩ := h
  exact ⟨a, c, e, w a c h⟩
theorem Ok.of {α : Type} {r : R α} {Q : α → Cs → Prop} {a : α} {c : Cs} (e : r = .ok a c) (h : Q a c) : Ok r Q := ⟨a, c, e, h⟩
def OkS (r : RS) (Q : Fl → Cs → Prop) : Prop := ∃ f c, r = .go f c ∧ Q f c
theorem OkS.seq {α : Type} {r : R α} {l : Ls} {f : α → Cs → RS} {Q : Fl → Cs → Prop} (h : Ok r fun a c => OkS (f a c) Q) : OkS (r.seq l f) Q := by
  obtain ⟨a, c, rfl, h⟩ := h
  exact h
theorem OkS.mono {r : RS} {Q Q' : Fl → Cs → Prop} (h : OkS r Q) (w : ∀ a c, Q a c → Q' a c) : OkS r Q' := by
  obtain ⟨a, c, e, h⟩ := h
  exact ⟨a, c, e, w a c h⟩
theorem OkS.next {r : RS} {g : Ls → Cs → RS} {Q : Fl → Cs → Prop} (h : OkS r fun f c => match f with
  | .nx l => OkS (g l c) Q
  | f => Q f c) : OkS (r.next g) Q := by
  obtain ⟨f, c, rfl, h⟩ := h
  cases f with
  | nx l => exact h
  | rt d => exact ⟨_, _, rfl, h⟩
  | bk l => exact ⟨_, _, rfl, h⟩
  | ct l => exact ⟨_, _, rfl, h⟩
/-- a loop, by what holds between its turns -/
theorem OkS.for {g : MG} {f : MS} {Q : Fl → Cs → Prop} (P : List D → Ls → Cs → Prop) (hd : ∀ l c, P [] l c → Q (.nx l) c)
    (ht : ∀ d ds l c, P (d :: ds) l c → Ok (g d l c) fun l1 c1 => OkS (f l1 c1) fun fl c2 => match fl with
      | .nx l2 => P ds l2 c2
      | .ct l2 => P ds l2 c2
      | .bk l2 => Q (.nx l2) c2
      | .rt d => Q (.rt d) c2) : ∀ ds l c, P ds l c → OkS (forD g f ds l c) Q
  | [], l, c, h => ⟨_, _, rfl, hd l c h⟩
  | d :: ds, l, c, h => by
    obtain ⟨l1, c1, e1, fl, c2, e2, q⟩ := ht d ds l c h
    unfold forD
    rw [e1]
    simp only [R.seq_ok]
    rw [e2]
    cases fl with
    | nx l2 => exact OkS.for P hd ht ds l2 c2 q
    | ct l2 => exact OkS.for P hd ht ds l2 c2 q
    | bk l2 => exact ⟨_, _, rfl, q⟩
    | rt d => exact ⟨_, _, rfl, q⟩
theorem Ok.fun {n a : Nat} {b : MS} {ds : List D} {c : Cs} {Q : D → Cs → Prop} (hl : ds.length = a) (h : OkS (b (ds.map some ++ List.replicate (n - a) none) c) fun f c => match f with
  | .rt d => Q d c
  | .nx _ => Q .non c
  | _ => False) : Ok (mFun n a b ds c) Q := by
  obtain ⟨f, c', e, h⟩ := h
  unfold mFun
  rw [if_pos hl, e]
  cases f with
  | nx l => exact ⟨_, _, rfl, h⟩
  | rt d => exact ⟨_, _, rfl, h⟩
  | bk l => exact h.elim
  | ct l => exact h.elim

/-! ### rules, by combinator -/
section
variable {l : Ls} {c : Cs} {Q : D → Cs → Prop} {a b e : ME} {t : MA} {QS : Fl → Cs → Prop}
theorem ok_ret {α : Type} {d : α} {Q : α → Cs → Prop} (h : Q d c) : Ok (.ok d c) Q := ⟨_, _, rfl, h⟩
theorem ok_var {i : Nat} {d : D} (e : l[i]? = some (some d)) (h : Q d c) : Ok (mVar i l c) Q := ⟨d, c, by unfold mVar; rw [e], h⟩
theorem ok_c {d : D} (h : Q d c) : Ok (mC d l c) Q := ⟨d, c, rfl, h⟩
theorem ok_op {g : D → D → Cs → R D} (h : Ok (a l c) fun x c1 => Ok (b l c1) fun y c2 => Ok (g x y c2) Q) : Ok (mOp g a b l c) Q := Ok.bind (h.mono fun _ _ h => Ok.bind h)
theorem ok_un {g : D → Cs → R D} (h : Ok (a l c) fun x c1 => Ok (g x c1) Q) : Ok (mUn g a l c) Q := Ok.bind h
theorem ok_cb {g : List D → Cs → R D} (h : Ok (t l c) fun xs c1 => Ok (g xs c1) Q) : Ok (mCB g t l c) Q := Ok.bind h
theorem ok_anil {Q : List D → Cs → Prop} (h : Q [] c) : Ok (aNil l c) Q := ⟨_, _, rfl, h⟩
theorem ok_acons {Q : List D → Cs → Prop} (h : Ok (a l c) fun x c1 => Ok (t l c1) fun xs c2 => Q (x :: xs) c2) : Ok (aCons a t l c) Q := Ok.bind (h.mono fun _ _ h => Ok.bind (h.mono fun _ _ h => ⟨_, _, rfl, h⟩))
theorem ok_fits {α : Type} {n : Nat} {r : R α} {Q : α → Cs → Prop} (hn : n ≤ sizeLine) (h : Ok r Q) : Ok (fits n r) Q := by
  unfold fits
  rw [if_pos hn]
  exact h
theorem ok_lst (h : Ok (t l c) fun xs c1 => xs.length ≤ sizeLine ∧ Q (.lst xs) c1) : Ok (mLst t l c) Q := Ok.bind (h.mono fun _ _ h => ok_fits h.1 ⟨_, _, rfl, h.2⟩)
theorem ok_tup (h : Ok (t l c) fun xs c1 => xs.length ≤ sizeLine ∧ Q (.tup xs) c1) : Ok (mTup t l c) Q := Ok.bind (h.mono fun _ _ h => ok_fits h.1 ⟨_, _, rfl, h.2⟩)
theorem ok_lstM (h : Ok (t l c) fun xs c1 => xs.length ≤ sizeLine ∧ Q (.ref c1.length) (c1 ++ [.lst xs])) : Ok (mLstM t l c) Q := Ok.bind (h.mono fun _ _ h => ok_fits h.1 ⟨_, _, rfl, h.2⟩)
theorem ok_dict1 {k : Key} (h : Ok (a l c) fun d c1 => Q (.dct [(k, d)]) c1) : Ok (mDict1 k a l c) Q := Ok.bind (h.mono fun _ _ h => ⟨_, _, rfl, h⟩)
theorem ok_and (h : Ok (a l c) fun x c1 => ∃ k, x = .bl k ∧ (k = true → Ok (b l c1) Q) ∧ (k = false → Q (.bl false) c1)) : Ok (mAnd a b l c) Q := Ok.bind (h.mono fun x c1 ⟨k, e, h1, h2⟩ => by
  subst e
  cases k with
  | true => exact h1 rfl
  | false => exact ⟨_, _, rfl, h2 rfl⟩)
theorem ok_or (h : Ok (a l c) fun x c1 => ∃ k, x = .bl k ∧ (k = true → Q (.bl true) c1) ∧ (k = false → Ok (b l c1) Q)) : Ok (mOr a b l c) Q := Ok.bind (h.mono fun x c1 ⟨k, e, h1, h2⟩ => by
  subst e
  cases k with
  | true => exact ⟨_, _, rfl, h1 rfl⟩
  | false => exact h2 rfl)
theorem ok_not (h : Ok (a l c) fun x c1 => ∃ k, x = .bl k ∧ Q (.bl (!k)) c1) : Ok (mNot a l c) Q := Ok.bind (h.mono fun x c1 ⟨k, e, h⟩ => by subst e; exact ⟨_, _, rfl, h⟩)
theorem ok_chain {f g : D → D → Cs → R D} {d : ME} (h : Ok (a l c) fun x c1 => Ok (b l c1) fun y c2 => Ok (f x y c2) fun z c3 => ∃ k, z = .bl k ∧ (k = true → Ok (d l c3) fun w c4 => Ok (g y w c4) Q) ∧ (k = false → Q (.bl false) c3)) : Ok (mChain f g a b d l c) Q :=
  Ok.bind (h.mono fun x c1 h => Ok.bind (h.mono fun y c2 h => Ok.bind (h.mono fun z c3 ⟨k, e, h1, h2⟩ => by
    subst e
    cases k with
    | true => exact Ok.bind (h1 rfl)
    | false => exact ⟨_, _, rfl, h2 rfl⟩)))
theorem ok_t {Q : Bool → Cs → Prop} (h : Ok (a l c) fun x c1 => ∃ k, x = .bl k ∧ Q k c1) : Ok (mT a l c) Q := Ok.bind (h.mono fun x c1 ⟨k, e, h⟩ => by subst e; exact ⟨_, _, rfl, h⟩)
theorem ok_tnot {p : MT} {Q : Bool → Cs → Prop} (h : Ok (p l c) fun k c1 => Q (!k) c1) : Ok (tNotM p l c) Q := Ok.bind (h.mono fun _ _ h => ⟨_, _, rfl, h⟩)
theorem ok_tand {p q : MT} {Q : Bool → Cs → Prop} (h : Ok (p l c) fun k c1 => (k = true → Ok (q l c1) Q) ∧ (k = false → Q false c1)) : Ok (tAndM p q l c) Q := Ok.bind (h.mono fun k c1 ⟨h1, h2⟩ => by
  cases k with
  | true => exact h1 rfl
  | false => exact ⟨_, _, rfl, h2 rfl⟩)
theorem ok_tor {p q : MT} {Q : Bool → Cs → Prop} (h : Ok (p l c) fun k c1 => (k = true → Q true c1) ∧ (k = false → Ok (q l c1) Q)) : Ok (tOrM p q l c) Q := Ok.bind (h.mono fun k c1 ⟨h1, h2⟩ => by
  cases k with
  | true => exact ⟨_, _, rfl, h1 rfl⟩
  | false => exact h2 rfl)
theorem ok_if {p : MT} (h : Ok (p l c) fun k c1 => (k = true → Ok (a l c1) Q) ∧ (k = false → Ok (b l c1) Q)) : Ok (mIf p a b l c) Q := Ok.bind (h.mono fun k c1 ⟨h1, h2⟩ => by
  cases k with
  | true => exact h1 rfl
  | false => exact h2 rfl)
theorem ok_onone {Q : Option Int → Cs → Prop} (h : Q none c) : Ok (oNone l c) Q := ⟨_, _, rfl, h⟩
theorem ok_osome {Q : Option Int → Cs → Prop} (h : Ok (a l c) fun x c1 => ∃ i, x = .int i ∧ Q (some i) c1) : Ok (oSome a l c) Q := Ok.bind (h.mono fun x c1 ⟨k, e, h⟩ => by subst e; exact ⟨_, _, rfl, h⟩)
theorem ok_slice {p q : MO} (h : Ok (a l c) fun x c1 => Ok (p l c1) fun i c2 => Ok (q l c2) fun j c3 => Ok (sliceD x i j c3) Q) : Ok (mSlice a p q l c) Q := Ok.bind (h.mono fun _ _ h => Ok.bind (h.mono fun _ _ h => Ok.bind h))
theorem ok_m1 {g : D → D → Cs → R D} (h : Ok (a l c) fun x c1 => ∃ s, x = .str s ∧ Ok (b l c1) fun y c2 => Ok (g (.str s) y c2) Q) : Ok (mM1 g a b l c) Q := Ok.bind (h.mono fun x c1 ⟨s, e, h⟩ => by subst e; exact Ok.bind h)
theorem ok_frz (h : Ok (a l c) fun x c1 => ∃ k ds, x = .ref k ∧ c1[k]? = some (.lst ds) ∧ Q (.lst ds) (c1.set k (.frz (.lst ds)))) : Ok (mFrz a l c) Q := Ok.bind (h.mono fun x c1 ⟨k, ds, e, e2, h⟩ => by
  subst e
  refine ⟨_, _, ?_, h⟩
  simp only [frzD, e2])
theorem ok_ilst {Q : List D → Cs → Prop} (h : Ok (a l c) fun x c1 => (∃ ds, x = .lst ds ∧ Q ds c1) ∨ ∃ ds, x = .ro ds ∧ Q ds c1) : Ok (iLst a l c) Q := Ok.bind (h.mono fun x c1 h => by
  rcases h with ⟨ds, e, h⟩ | ⟨ds, e, h⟩ <;> (subst e; exact ⟨_, _, rfl, h⟩))
theorem ok_itup {Q : List D → Cs → Prop} (h : Ok (a l c) fun x c1 => ∃ ds, x = .tup ds ∧ Q ds c1) : Ok (iTup' a l c) Q := Ok.bind (h.mono fun x c1 ⟨s, e, h⟩ => by subst e; exact ⟨_, _, rfl, h⟩)
theorem ok_istr {Q : List D → Cs → Prop} (h : Ok (a l c) fun x c1 => ∃ s, x = .str s ∧ Q (chrs s) c1) : Ok (iStr' a l c) Q := Ok.bind (h.mono fun x c1 ⟨s, e, h⟩ => by subst e; exact ⟨_, _, rfl, h⟩)
theorem ok_r1 {Q : List D → Cs → Prop} (h : Ok (t l c) fun xs c1 => ∃ j, xs = [.int j] ∧ small62 j ∧ Q (rangeL 0 j.toNat) c1) : Ok (iR1 t l c) Q := Ok.bind (h.mono fun x c1 ⟨j, e, hj, h⟩ => by subst e; exact ⟨_, _, if_pos hj, h⟩)
theorem ok_r2 {Q : List D → Cs → Prop} (h : Ok (t l c) fun xs c1 => ∃ i j, xs = [.int i, .int j] ∧ small62 i ∧ small62 j ∧ Q (rangeL i (j - i).toNat) c1) : Ok (iR2 t l c) Q := Ok.bind (h.mono fun x c1 ⟨i, j, e, hi, hj, h⟩ => by subst e; exact ⟨_, _, if_pos ⟨hi, hj⟩, h⟩)
theorem ok_intC {C : Int → Int → Prop} [∀ i j, Decidable (C i j)] {g : Int → Int → Int} {i j : Int} (hc : C i j) (h : Q (.int (g i j)) c) : Ok (intC C g (.int i) (.int j) c) Q := ⟨_, _, if_pos hc, h⟩
/-- statements -/
theorem os_nil (h : QS (.nx l) c) : OkS (sNil l c) QS := ⟨_, _, rfl, h⟩
theorem os_brk (h : QS (.bk l) c) : OkS (sBreak l c) QS := ⟨_, _, rfl, h⟩
theorem os_cnt (h : QS (.ct l) c) : OkS (sCont l c) QS := ⟨_, _, rfl, h⟩
theorem os_seq {f g : MS} (h : OkS (f l c) fun fl c1 => match fl with
  | .nx l1 => OkS (g l1 c1) QS
  | fl => QS fl c1) : OkS (sSeq f g l c) QS := OkS.next h
theorem os_expr (h : Ok (a l c) fun _ c1 => QS (.nx l) c1) : OkS (sExpr a l c) QS := OkS.seq (h.mono fun _ _ h => ⟨_, _, rfl, h⟩)
theorem os_ret (h : Ok (a l c) fun d c1 => QS (.rt d) c1) : OkS (sRet a l c) QS := OkS.seq (h.mono fun _ _ h => ⟨_, _, rfl, h⟩)
theorem os_retn (h : QS (.rt .non) c) : OkS (sRetN l c) QS := ⟨_, _, rfl, h⟩
theorem os_if {p : MT} {f g : MS} (h : Ok (p l c) fun k c1 => (k = true → OkS (f l c1) QS) ∧ (k = false → OkS (g l c1) QS)) : OkS (sIf p f g l c) QS := OkS.seq (h.mono fun k c1 ⟨h1, h2⟩ => by
  cases k with
  | true => exact h1 rfl
  | false => exact h2 rfl)
theorem os_set {i : Nat} (h : Ok (a l c) fun d c1 => QS (.nx (l.set i (some d))) c1) : OkS (sSet i a l c) QS := OkS.seq (h.mono fun _ _ h => ⟨_, _, rfl, h⟩)
theorem os_asg {g : MG} (h : Ok (a l c) fun d c1 => Ok (g d l c1) fun l2 c2 => QS (.nx l2) c2) : OkS (sAsg a g l c) QS := OkS.seq (h.mono fun _ _ h => OkS.seq (h.mono fun _ _ h => ⟨_, _, rfl, h⟩))
theorem os_par {js : List Nat} (h : Ok (t l c) fun ds c1 => Ok (gNs js ds l c1) fun l2 c2 => QS (.nx l2) c2) : OkS (sPar js t l c) QS := OkS.seq (h.mono fun _ _ h => OkS.seq (h.mono fun _ _ h => ⟨_, _, rfl, h⟩))
theorem os_for {it : MI} {g : MG} {f : MS} (h : Ok (it l c) fun ds c1 => OkS (forD g f ds l c1) QS) : OkS (sFor it g f l c) QS := OkS.seq h
theorem ok_gn {i : Nat} {d : D} {Q : Ls → Cs → Prop} (h : Q (l.set i (some d)) c) : Ok (gN i d l c) Q := ⟨_, _, rfl, h⟩
/-- a comprehension, by its loop -/
theorem ok_lc {it : MI} {js : List Nat} {g : MG} {p : MT} (h : Ok (it l c) fun ds c1 => Ok (compD g p e (wipeL l js) ds [] c1) fun xs c2 => Q (.lst xs) c2) : Ok (mLc it js g p e l c) Q := Ok.bind (h.mono fun _ _ h => Ok.bind (h.mono fun _ _ h => ⟨_, _, rfl, h⟩))
/-- .. by what holds between its turns -/
theorem comp_ok {g : MG} {p : MT} {lw : Ls} {Q : List D → Cs → Prop} (I : List D → List D → Cs → Prop) (hd : ∀ acc c, I [] acc c → Q acc c)
    (ht : ∀ d ds acc c, I (d :: ds) acc c → Ok (g d lw c) fun l1 c1 => Ok (p l1 c1) fun k c2 => match k with
      | true => Ok (e l1 c2) fun x c3 => acc.length < sizeLine ∧ I ds (acc ++ [x]) c3
      | false => I ds acc c2) : ∀ ds acc c, I ds acc c → Ok (compD g p e lw ds acc c) Q
  | [], acc, c, h => ⟨_, _, rfl, hd acc c h⟩
  | d :: ds, acc, c, h => by
    obtain ⟨l1, c1, e1, k, c2, e2, q⟩ := ht d ds acc c h
    unfold compD
    rw [e1]
    simp only [R.nox_ok, R.bind_ok]
    rw [e2]
    simp only [R.nox_ok, R.bind_ok]
    cases k with
    | true =>
      obtain ⟨x, c3, e3, hz, q⟩ := q
      simp only []
      rw [e3]
      simp only [R.nox_ok, R.bind_ok]
      rw [if_pos hz]
      exact comp_ok I hd ht ds _ _ q
    | false => exact comp_ok I hd ht ds _ _ q
end

/-! ### the box that a law draws from -/
def Bx (c : Cs) (k : Nat) (n : Int) : Prop := ∃ a b z : Int, c[k]? = some (.lst [.int a, .int b, .int z]) ∧ 0 ≤ a ∧ 0 ≤ b ∧ b < 2147483629 ∧ 0 ≤ z ∧ z ≤ n

theorem ok_il {l : Ls} {c : Cs} {a : ME} {Q : List D → Cs → Prop} (h : Ok (a l c) fun x c1 => ∃ ds, x = .lst ds ∧ Q ds c1) : Ok (iLst a l c) Q := ok_ilst (h.mono fun _ _ h => Or.inl h)
theorem os_fcons {g : MG} {f : MS} {d : D} {ds : List D} {l : Ls} {c : Cs} {Q : Fl → Cs → Prop} (h : Ok (g d l c) fun l1 c1 => OkS (f l1 c1) fun fl c2 => match fl with
    | .nx l2 => OkS (forD g f ds l2 c2) Q
    | .ct l2 => OkS (forD g f ds l2 c2) Q
    | .bk l2 => Q (.nx l2) c2
    | .rt d => Q (.rt d) c2) : OkS (forD g f (d :: ds) l c) Q := by
  obtain ⟨l1, c1, e1, fl, c2, e2, q⟩ := h
  unfold forD
  rw [e1]
  simp only [R.seq_ok]
  rw [e2]
  cases fl with
  | nx l2 => exact q
  | ct l2 => exact q
  | bk l2 => exact ⟨_, _, rfl, q⟩
  | rt d => exact ⟨_, _, rfl, q⟩
theorem os_fnil {g : MG} {f : MS} {l : Ls} {c : Cs} {Q : Fl → Cs → Prop} (h : Q (.nx l) c) : OkS (forD g f [] l c) Q := ⟨_, _, rfl, h⟩
theorem rangeL_mem {lo : Int} {n : Nat} {d : D} (h : d ∈ rangeL lo n) : ∃ i : Nat, i < n ∧ d = .int (lo + i) := by
  obtain ⟨i, h1, rfl⟩ := List.mem_map.mp h
  exact ⟨i, List.mem_range.mp h1, rfl⟩
theorem rangeL_len {lo : Int} {n : Nat} : (rangeL lo n).length = n := by simp [rangeL]
/-! ### texts: their lengths, their signs -/
def SB (n : Nat) (s : Str) : Prop := s.length ≤ n ∧ ∀ k ∈ s.cps.toList, k < 1114112
theorem SB.mono {n m : Nat} {s : Str} (h : SB n s) (hm : n ≤ m) : SB m s := ⟨Nat.le_trans h.1 hm, h.2⟩
theorem SB.app {n m : Nat} {s t : Str} (h : SB n s) (g : SB m t) : SB (n + m) (s ++ t) := by
  refine ⟨?_, fun k hk => ?_⟩
  · rw [Str.length_append]
    exact Nat.add_le_add h.1 g.1
  · have e : (s ++ t).cps.toList = s.cps.toList ++ t.cps.toList := Array.toList_append
    rw [e] at hk
    rcases List.mem_append.mp hk with q | q
    · exact h.2 k q
    · exact g.2 k q
theorem SB.one {k : Nat} (h : k < 1114112) : SB 1 ⟨#[k]⟩ := ⟨Nat.le_refl _, fun x hx => by simp at hx; omega⟩
theorem ok_item_lst {xs : List D} {i : Int} {c : Cs} {Q : D → Cs → Prop} (h0 : 0 ≤ i) (h : i < xs.length) (q : ∀ d, xs[i.toNat]? = some d → Q d c) : Ok (itemD (.lst xs) (.int i) c) Q := by
  have hl : i.toNat < xs.length := by omega
  refine ⟨xs[i.toNat], c, ?_, q _ (List.getElem?_eq_getElem hl)⟩
  simp [itemD, itL, atI, ixN, h0, h, List.getElem?_eq_getElem hl]
theorem ok_item_mem {xs : List D} {i : Int} {c : Cs} {Q : D → Cs → Prop} (h0 : 0 ≤ i) (h : i < xs.length) (q : ∀ d ∈ xs, Q d c) : Ok (itemD (.lst xs) (.int i) c) Q := ok_item_lst h0 h fun d hd => q d (List.mem_of_getElem? hd)
theorem ok_len_str {s : Str} {c : Cs} {Q : D → Cs → Prop} (h : s.length ≤ sizeLine) (q : Q (.int s.length) c) : Ok (lenD [.str s] c) Q := ⟨_, _, by simp [lenD, lenC, h], q⟩
theorem strs_ones : ∀ ks : List Nat, strsOf (ks.map fun k => .str ⟨#[k]⟩) = some (ks.map fun k => ⟨#[k]⟩)
  | [] => rfl
  | k :: ks => by simp [strsOf, strs_ones ks]
theorem join_ones' (ks : List Nat) : Txt.join ("" : Str) (ks.map fun k => (⟨#[k]⟩ : Str)) = ⟨ks.toArray⟩ := by
  show Builtin.Str.glued _ _ = _
  rw [StrLaws.glued_eq_join]
  exact join_ones ks
section
variable {l : Ls} {c : Cs} {Q : D → Cs → Prop} {a b e : ME} {t tk : MA} {QS : Fl → Cs → Prop}
theorem ok_bm {g : D → List D → Cs → R D} (h : Ok (a l c) fun x c1 => isL x c1 = true ∧ Ok (t l c1) fun xs c2 => Ok (g x xs c2) Q) : Ok (mBM g a t l c) Q := Ok.bind (h.mono fun x c1 ⟨h1, h2⟩ => by
  rw [if_pos h1]
  exact Ok.bind h2)
theorem ok_gs {o i : ME} {d : D} {Q : Ls → Cs → Prop} (h : Ok (o l c) fun x c1 => Ok (i l c1) fun y c2 => Ok (putD x y d c2) fun _ c3 => Q l c3) : Ok (gS o i d l c) Q := Ok.bind (h.mono fun _ _ h => Ok.bind (h.mono fun _ _ h => Ok.bind (h.mono fun _ _ h => ⟨_, _, rfl, h⟩)))
theorem ok_cbd {g : List D → Cs → R D} {n : Nat} {df : List D} (h : Ok (t l c) fun xs c1 => xs.length = n ∧ Ok (g (xs ++ df) c1) Q) : Ok (mCBd g n df t l c) Q := Ok.bind (h.mono fun x c1 ⟨h1, h2⟩ => by
  rw [if_pos h1]
  exact h2)
theorem ok_cbk {g : List D → Cs → R D} {gd : List D → List D → List D} {n j : Nat} (h : Ok (t l c) fun xs c1 => Ok (tk l c1) fun ys c2 => (xs.length = n ∧ ys.length = j) ∧ Ok (g (gd xs ys) c2) Q) : Ok (mCBk g gd n j t tk l c) Q :=
  Ok.bind (h.mono fun x c1 h => Ok.bind (h.mono fun y c2 ⟨h1, h2⟩ => by
    rw [if_pos h1]
    exact h2))
theorem os_ifNm {i : Nat} {h : D → D → Cs → R D} {f g : MS} (q : Ok (a l c) fun x c1 => Ok (b (l.set i (some x)) c1) fun y c2 => Ok (h x y c2) fun z c3 => ∃ k, z = .bl k ∧ (k = true → OkS (f (l.set i (some x)) c3) QS) ∧ (k = false → OkS (g (l.set i (some x)) c3) QS)) :
    OkS (sIfNm i h a b f g l c) QS := OkS.seq (q.mono fun x c1 q => OkS.seq (q.mono fun y c2 q => OkS.seq (q.mono fun z c3 ⟨k, e, h1, h2⟩ => by
  subst e
  cases k with
  | true => exact h1 rfl
  | false => exact h2 rfl)))
theorem isL_ref {k : Nat} {xs : List D} (h : c[k]? = some (.lst xs)) : isL (.ref k) c = true := by
  have e : lstOf (.ref k) c = (match c[k]? with
    | some (.lst xs) => some xs
    | _ => none) := rfl
  unfold isL
  rw [e, h]
  rfl
theorem ok_append {k : Nat} {xs : List D} {y : D} (h : c[k]? = some (.lst xs)) (hz : xs.length < sizeLine) (q : Q .non (c.set k (.lst (xs ++ [y])))) : Ok (appendD (.ref k) [y] c) Q := by
  have e : appendD (.ref k) [y] c = (match c[k]? with
    | some (.lst xs) => if xs.length < sizeLine then .ok .non (c.set k (.lst (xs ++ [y]))) else .stuck
    | _ => .stuck) := rfl
  refine ⟨_, _, ?_, q⟩
  rw [e, h]
  exact if_pos hz
end
end L2.Mi

namespace L2.Mi
open PySem PySem.Spec PyProof.Rows L2
/-! ### how long a shown value is -/
mutual
def wP : PyData → Nat
  | .none => 4
  | .bool _ => 5
  | .int _ => 45
  | .str s => 10 * s.length + 2
  | .list xs => wPs xs + 2
  | .tuple xs => wPs xs + 3
  | .dict kvs => wPk kvs + 2
def wPs : List PyData → Nat
  | [] => 0
  | x :: xs => wP x + 2 + wPs xs
def wPk : List (PyData × PyData) → Nat
  | [] => 0
  | (k, v) :: r => wP k + wP v + 4 + wPk r
end
mutual
def bP : PyData → Bool
  | .none => true
  | .bool _ => true
  | .int i => decide (i.natAbs < 10 ^ 40)
  | .str s => s.cps.toList.all fun k => decide (k < 1114112)
  | .list xs => bPs xs
  | .tuple xs => bPs xs
  | .dict kvs => bPk kvs
def bPs : List PyData → Bool
  | [] => true
  | x :: xs => bP x && bPs xs
def bPk : List (PyData × PyData) → Bool
  | [] => true
  | (k, v) :: r => bP k && bP v && bPk r
end
theorem join_le : ∀ ts : List Str, (Str.join ", " ts).length ≤ piled ts
  | [] => Nat.zero_le _
  | t :: ts => by have := join_length_add (t :: ts) (by simp); omega
theorem textFrom_pile : ∀ (ts : List Str) (k : Nat) (acc : Str), (textFrom k acc ts).length ≤ acc.length + piled ts
  | [], k, acc => by simp [textFrom]
  | t :: ts, k, acc => by
    have ih := textFrom_pile ts (k + 1) (acc ++ (if k > 0 then ", " else "" : String) ++ t)
    have e : (acc ++ (if k > 0 then ", " else "" : String) ++ t).length = acc.length + (if k > 0 then 2 else 0) + t.length := by
      rw [strLen_append, strLen_append]
      split <;> rfl
    rw [e] at ih
    have e3 : textFrom k acc (t :: ts) = textFrom (k + 1) (acc ++ (if k > 0 then ", " else "" : String) ++ t) ts := rfl
    rw [e3, piled_cons]
    have e4 : (if k > 0 then 2 else 0) ≤ 2 := by split <;> omega
    omega
mutual
theorem shown_w : ∀ p : PyData, bP p = true → p.showable = true ∧ p.shown.length ≤ wP p
  | .none, _ => ⟨rfl, by decide +kernel⟩
  | .bool b, _ => ⟨rfl, by cases b <;> decide +kernel⟩
  | .int i, h => by
    have h : i.natAbs < 10 ^ 40 := of_decide_eq_true h
    have h3 : (10 : Nat) ^ 40 < 2 ^ 1920 := by decide +kernel
    refine ⟨?_, ?_⟩
    · show decide (i.natAbs.log2 < 1920) = true
      by_cases h0 : i.natAbs = 0
      · rw [h0]; decide
      · exact decide_eq_true ((Nat.log2_lt h0).mpr (by omega))
    · have hl := int_text_length_le10 (k := 40) (by decide) h
      show (Str.ofString (toString i)).length ≤ 45
      have e : (Str.ofString (toString i)).cps.toList = (toString i).toList.map Char.toNat := by first | exact signs_ofString _ | exact PyProof.Rows.signs_ofString _ | exact PySem.signs_ofString _ | exact PySem.W.signs_ofString _
      have e2 : (Str.ofString (toString i)).length = (Str.ofString (toString i)).cps.toList.length := Array.length_toList.symm
      rw [e2, e, List.length_map, String.length_toList]
      omega
  | .str s, h => by
    refine ⟨rfl, ?_⟩
    have r := StrLaws.reprText_len s fun k hk => by
      have := of_decide_eq_true (List.all_eq_true.mp h k (by simpa using hk))
      omega
    show (reprText s).length ≤ 10 * s.length + 2
    omega
  | .list xs, h => by
    obtain ⟨h1, h2⟩ := shown_ws xs h
    refine ⟨h1, ?_⟩
    show (listText (PyData.shownAll xs)).length ≤ wPs xs + 2
    unfold listText
    rw [strLen_append]
    have q := textFrom_pile (PyData.shownAll xs) 0 "["
    have a : ("[" : Str).length = 1 := rfl
    have b : ("]" : Str).length = 1 := rfl
    omega
  | .tuple xs, h => by
    obtain ⟨h1, h2⟩ := shown_ws xs h
    refine ⟨h1, ?_⟩
    show (tupleText (PyData.shownAll xs)).length ≤ wPs xs + 3
    unfold tupleText
    rw [strLen_append, strLen_append]
    have q := join_le (PyData.shownAll xs)
    have a : ("(" : Str).length = 1 := rfl
    have b : (if (PyData.shownAll xs).length == 1 then ",)" else ")" : String).length ≤ 2 := by split <;> decide
    have b2 : (Str.ofString (if (PyData.shownAll xs).length == 1 then ",)" else ")" : String)).length ≤ 2 := by split <;> decide
    omega
  | .dict kvs, h => by
    obtain ⟨h1, h2⟩ := shown_wk kvs h
    refine ⟨h1, ?_⟩
    show (dictText (PyData.shownKv kvs)).length ≤ wPk kvs + 2
    unfold dictText
    rw [strLen_append, strLen_append]
    have q := join_le (PyData.shownKv kvs)
    have a : ("{" : Str).length = 1 := rfl
    have b : ("}" : Str).length = 1 := rfl
    omega
theorem shown_ws : ∀ ps : List PyData, bPs ps = true → PyData.showableAll ps = true ∧ piled (PyData.shownAll ps) ≤ wPs ps
  | [], _ => ⟨rfl, by decide⟩
  | p :: ps, h => by
    obtain ⟨a, b⟩ := Bool.and_eq_true_iff.mp h
    obtain ⟨h1, h2⟩ := shown_w p a
    obtain ⟨h3, h4⟩ := shown_ws ps b
    refine ⟨by show (PyData.showable p && PyData.showableAll ps) = true; rw [h1, h3]; rfl, ?_⟩
    show piled (p.shown :: PyData.shownAll ps) ≤ wP p + 2 + wPs ps
    rw [piled_cons]
    omega
theorem shown_wk : ∀ ps : List (PyData × PyData), bPk ps = true → PyData.showableKv ps = true ∧ piled (PyData.shownKv ps) ≤ wPk ps
  | [], _ => ⟨rfl, by decide⟩
  | (k, v) :: ps, h => by
    obtain ⟨ab, b⟩ := Bool.and_eq_true_iff.mp h
    obtain ⟨a, a2⟩ := Bool.and_eq_true_iff.mp ab
    obtain ⟨h1, h2⟩ := shown_w k a
    obtain ⟨g1, g2⟩ := shown_w v a2
    obtain ⟨h3, h4⟩ := shown_wk ps b
    refine ⟨by show (PyData.showable k && PyData.showable v && PyData.showableKv ps) = true; rw [h1, g1, h3]; rfl, ?_⟩
    show piled ((k.shown ++ ": " ++ v.shown) :: PyData.shownKv ps) ≤ wP k + wP v + 4 + wPk ps
    rw [piled_cons, strLen_append, strLen_append]
    have e : (Str.ofString ": ").length = 2 := rfl
    omega
end
theorem okR_w {p : PyData} (h1 : bP p = true) (h2 : wP p ≤ 16777216) (h3 : p.depth ≤ 60) : okR p = true := by
  obtain ⟨a, b⟩ := shown_w p h1
  have hz : sizeLine = 16777216 := sizeLine_eq
  simp only [okR, Bool.and_eq_true, decide_eq_true_eq]
  exact ⟨⟨h3, a⟩, by omega⟩
end L2.Mi

/-! plain reasoning about walks of whatever stands there -/
namespace L2.Mi
open PySem PySem.Spec PyProof.Rows L2
theorem wAny_seq {x : D} {c : Cs} {xs : List D} (h : seqOf x c = some xs) : ∃ w, wAny x c = .ok w c ∧ ∀ i, w i c = some xs[i]? := by
  cases x with
  | lst ys => cases h; exact ⟨_, rfl, fun _ => rfl⟩
  | tup ys => cases h; exact ⟨_, rfl, fun _ => rfl⟩
  | ro ys => cases h; exact ⟨_, rfl, fun _ => rfl⟩
  | ref k =>
    have h : (match c[k]? with
      | some (.lst xs) => some xs
      | _ => none) = some xs := h
    cases q : c[k]? with
    | none => rw [q] at h; cases h
    | some y =>
      rw [q] at h
      cases y with
      | lst ys =>
        cases h
        have e : cellL k c = some xs := by unfold cellL; rw [q]
        refine ⟨cellW k, ?_, fun i => ?_⟩
        · show (match cellL k c with
            | some _ => (.ok (cellW k) c : R Wk)
            | none => .stuck) = _
          rw [e]
        · unfold cellW
          rw [e]
      | _ => cases h
  | _ => cases h
theorem compW_pure {g : MG} {t : MT} {e : ME} {lw : Ls} {w : Wk} {c : Cs} {xs : List D} {P : D → Bool} {F : D → D} {lt : D → Ls} (hw : ∀ i, w i c = some xs[i]?) (h : ∀ d ∈ xs, g d lw c = .ok (lt d) c ∧ t (lt d) c = .ok (P d) c ∧ (P d = true → e (lt d) c = .ok (F d) c)) :
    ∀ (k n i : Nat) (acc : List D), xs.length - i = k → k < n → acc.length + k ≤ sizeLine → compW g t e lw w n i acc c = .ok (acc ++ ((xs.drop i).filter P).map F) c
  | 0, 0, i, acc, hk, hn, hl => absurd hn (Nat.lt_irrefl _)
  | 0, n + 1, i, acc, hk, hn, hl => by
    have hi : xs.length ≤ i := by omega
    unfold compW
    rw [hw, List.getElem?_eq_none hi, List.drop_eq_nil_of_le hi]
    simp
  | k + 1, 0, i, acc, hk, hn, hl => absurd hn (by omega)
  | k + 1, n + 1, i, acc, hk, hn, hl => by
    have hi : i < xs.length := by omega
    obtain ⟨h1, h2, h3⟩ := h xs[i] (List.getElem_mem hi)
    unfold compW
    rw [hw, List.getElem?_eq_getElem hi, List.drop_eq_getElem_cons hi]
    simp only []
    rw [h1]
    simp only [R.nox_ok, R.bind_ok]
    rw [h2]
    simp only [R.nox_ok, R.bind_ok]
    have ih := fun acc hl => compW_pure hw h k n (i + 1) acc (by omega) (by omega) hl
    cases q : P xs[i] with
    | true =>
      simp only []
      rw [h3 q]
      simp only [R.nox_ok, R.bind_ok]
      rw [if_pos (by omega), ih _ (by simp; omega), List.filter_cons_of_pos q, List.map_cons, List.append_assoc]
      rfl
    | false =>
      simp only []
      rw [ih _ (by omega), List.filter_cons_of_neg (by rw [q]; exact Bool.false_ne_true)]
theorem lcW_pure {it : MK} {js : List Nat} {g : MG} {t : MT} {e : ME} {l : Ls} {c : Cs} {w : Wk} {xs : List D} {P : D → Bool} {F : D → D} {lt : D → Ls} (hit : it l c = .ok w c) (hw : ∀ i, w i c = some xs[i]?) (hl : xs.length ≤ 1000000)
    (h : ∀ d ∈ xs, g d (wipeL l js) c = .ok (lt d) c ∧ t (lt d) c = .ok (P d) c ∧ (P d = true → e (lt d) c = .ok (F d) c)) : mLcW it js g t e l c = .ok (.lst ((xs.filter P).map F)) c := by
  have hz : sizeLine = 16777216 := sizeLine_eq
  unfold mLcW
  rw [hit]
  simp only [R.bind_ok]
  rw [compW_pure hw h xs.length fuelW 0 [] (by omega) (by unfold fuelW; omega) (by simp; omega)]
  simp
/-- a loop over what stands there and stays so -/
theorem OkS.forW {g : MG} {f : MS} {w : Wk} {xs : List D} {Q : Fl → Cs → Prop} (P : List D → Ls → Cs → Prop) (hw : ∀ ds l c, P ds l c → ∀ i, w i c = some xs[i]?) (hd : ∀ l c, P [] l c → Q (.nx l) c)
    (ht : ∀ d ds l c, P (d :: ds) l c → Ok (g d l c) fun l1 c1 => OkS (f l1 c1) fun fl c2 => match fl with
      | .nx l2 => P ds l2 c2
      | .ct l2 => P ds l2 c2
      | .bk l2 => Q (.nx l2) c2
      | .rt d => Q (.rt d) c2) : ∀ (k n i : Nat) (l : Ls) (c : Cs), xs.length - i = k → k < n → P (xs.drop i) l c → OkS (forW g f w n i l c) Q
  | _, 0, i, l, c, hk, hn, h => absurd hn (by omega)
  | 0, n + 1, i, l, c, hk, hn, h => by
    have hi : xs.length ≤ i := by omega
    have e := hw _ _ _ h i
    rw [List.drop_eq_nil_of_le hi] at h
    unfold Mi.forW
    rw [e, List.getElem?_eq_none hi]
    exact ⟨_, _, rfl, hd _ _ h⟩
  | k + 1, n + 1, i, l, c, hk, hn, h => by
    have hi : i < xs.length := by omega
    have e := hw _ _ _ h i
    rw [List.drop_eq_getElem_cons hi] at h
    unfold Mi.forW
    rw [e, List.getElem?_eq_getElem hi]
    obtain ⟨l1, c1, e1, fl, c2, e2, q⟩ := ht _ _ _ _ h
    simp only []
    rw [e1]
    simp only [R.seq_ok]
    rw [e2]
    cases fl with
    | nx l2 => exact OkS.forW P hw hd ht k n (i + 1) l2 c2 (by omega) (by omega) q
    | ct l2 => exact OkS.forW P hw hd ht k n (i + 1) l2 c2 (by omega) (by omega) q
    | bk l2 => exact ⟨_, _, rfl, q⟩
    | rt d => exact ⟨_, _, rfl, q⟩
theorem os_forW {it : MK} {g : MG} {f : MS} {l : Ls} {c : Cs} {QS : Fl → Cs → Prop} (h : Ok (it l c) fun w c1 => OkS (forW g f w fuelW 0 l c1) QS) : OkS (sForW it g f l c) QS := OkS.seq h
theorem mapO_mono {α β : Type} {f g : α → Option β} (h : ∀ a b, f a = some b → g a = some b) : ∀ {xs : List α} {ys : List β}, mapO f xs = some ys → mapO g xs = some ys
  | [], ys, e => e
  | x :: xs, ys, e => by
    unfold mapO at e ⊢
    cases q : f x with
    | none => rw [q] at e; cases e
    | some y =>
      cases q2 : mapO f xs with
      | none => rw [q, q2] at e; cases e
      | some zs => rw [q, q2] at e; rw [h _ _ q, mapO_mono h q2]; exact e
/-- what is read without a cell is read so with any -/
theorem toPyC_free : ∀ {n m : Nat} {c : Cs} {d : D} {p : PyData}, n ≤ m → toPyC n [] d = some p → toPyC m c d = some p
  | 0, m, c, d, p, h, e => by cases e
  | n + 1, 0, c, d, p, h, e => absurd h (by omega)
  | n + 1, m + 1, c, d, p, h, e => by
    have ih := fun a b => toPyC_free (n := n) (m := m) (c := c) (d := a) (p := b) (by omega)
    cases d with
    | lst xs =>
      obtain ⟨ps, e1, rfl⟩ := Option.map_eq_some_iff.mp e
      exact Option.map_eq_some_iff.mpr ⟨ps, mapO_mono ih e1, rfl⟩
    | ro xs =>
      obtain ⟨ps, e1, rfl⟩ := Option.map_eq_some_iff.mp e
      exact Option.map_eq_some_iff.mpr ⟨ps, mapO_mono ih e1, rfl⟩
    | tup xs =>
      obtain ⟨ps, e1, rfl⟩ := Option.map_eq_some_iff.mp e
      exact Option.map_eq_some_iff.mpr ⟨ps, mapO_mono ih e1, rfl⟩
    | dct xs =>
      obtain ⟨ps, e1, rfl⟩ := Option.map_eq_some_iff.mp e
      refine Option.map_eq_some_iff.mpr ⟨ps, mapO_mono (fun a b q => ?_) e1, rfl⟩
      obtain ⟨z, q1, rfl⟩ := Option.map_eq_some_iff.mp q
      exact Option.map_eq_some_iff.mpr ⟨z, ih _ _ q1, rfl⟩
    | ref k => cases e
    | _ => exact e
theorem toPyC_lst {n k : Nat} {c : Cs} {xs : List D} (hk : c[k]? = some (.lst xs)) : toPyC (n + 1) c (.ref k) = (mapO (toPyC n c) xs).map .list := by
  conv => lhs; unfold toPyC
  simp only [hk]
theorem toPyC_dct {n k : Nat} {c : Cs} {xs : List (Key × D)} (hk : c[k]? = some (.dct xs)) : toPyC (n + 1) c (.ref k) = (mapO (fun p => (toPyC n c p.2).map fun q => (kP p.1, q)) xs).map .dict := by
  conv => lhs; unfold toPyC
  simp only [hk]
theorem bx_app {c : Cs} {k : Nat} {n : Int} (h : Bx c k n) (x : Cs) : Bx (c ++ x) k n := by
  obtain ⟨a, b, z, h, r⟩ := h
  exact ⟨a, b, z, by rw [List.getElem?_append_left (List.getElem?_eq_some_iff.mp h).1]; exact h, r⟩
theorem bx_lt {c : Cs} {k : Nat} {n : Int} (h : Bx c k n) : k < c.length := by
  obtain ⟨a, b, z, h, r⟩ := h
  exact (List.getElem?_eq_some_iff.mp h).1
theorem bx_set {c : Cs} {k j : Nat} {n : Int} (h : Bx c k n) (hj : j ≠ k) (x : Cell) : Bx (c.set j x) k n := by
  obtain ⟨a, b, z, h, r⟩ := h
  exact ⟨a, b, z, by rw [List.getElem?_set_ne hj]; exact h, r⟩
theorem compW_fix {g : MG} {t : MT} {e : ME} {lw : Ls} {ds : List D} : ∀ (k n i : Nat) (acc : List D) (c : Cs), ds.length - i = k → k < n → compW g t e lw (fixW ds) n i acc c = compD g t e lw (ds.drop i) acc c
  | _, 0, i, acc, c, hk, hn => absurd hn (by omega)
  | 0, n + 1, i, acc, c, hk, hn => by
    have hi : ds.length ≤ i := by omega
    unfold compW fixW
    rw [List.getElem?_eq_none hi, List.drop_eq_nil_of_le hi]
    rfl
  | k + 1, n + 1, i, acc, c, hk, hn => by
    have hi : i < ds.length := by omega
    have ih := fun acc c => compW_fix (g := g) (t := t) (e := e) (lw := lw) (ds := ds) k n (i + 1) acc c (by omega) (by omega)
    rw [List.drop_eq_getElem_cons hi]
    unfold compW compD
    rw [show fixW ds i c = some (some ds[i]) by unfold fixW; rw [List.getElem?_eq_getElem hi]]
    simp only [ih] <;> rfl
theorem forW_fix {g : MG} {f : MS} {ds : List D} : ∀ (k n i : Nat) (l : Ls) (c : Cs), ds.length - i = k → k < n → forW g f (fixW ds) n i l c = forD g f (ds.drop i) l c
  | _, 0, i, l, c, hk, hn => absurd hn (by omega)
  | 0, n + 1, i, l, c, hk, hn => by
    have hi : ds.length ≤ i := by omega
    unfold Mi.forW fixW
    rw [List.getElem?_eq_none hi, List.drop_eq_nil_of_le hi]
    rfl
  | k + 1, n + 1, i, l, c, hk, hn => by
    have hi : i < ds.length := by omega
    have ih := fun l c => forW_fix (g := g) (f := f) (ds := ds) k n (i + 1) l c (by omega) (by omega)
    rw [List.drop_eq_getElem_cons hi]
    unfold Mi.forW forD
    rw [show fixW ds i c = some (some ds[i]) by unfold fixW; rw [List.getElem?_eq_getElem hi]]
    simp only [ih] <;> rfl
theorem os_forL {it : MK} {g : MG} {f : MS} {l : Ls} {c : Cs} {QS : Fl → Cs → Prop} {ds : List D} (hl : ds.length ≤ 1000000) (h : it l c = .ok (fixW ds) c) (q : OkS (forD g f ds l c) QS) : OkS (sForW it g f l c) QS := by
  refine os_forW (Ok.of h ?_)
  rw [forW_fix ds.length fuelW 0 l c (by omega) (by unfold fuelW; omega)]
  exact q
theorem ok_lcL {it : MK} {js : List Nat} {g : MG} {t : MT} {e : ME} {l : Ls} {c : Cs} {Q : D → Cs → Prop} {ds : List D} (hl : ds.length ≤ 1000000) (h : it l c = .ok (fixW ds) c) (q : Ok (compD g t e (wipeL l js) ds [] c) fun xs c2 => Q (.lst xs) c2) : Ok (mLcW it js g t e l c) Q := by
  unfold mLcW
  rw [h]
  simp only [R.bind_ok]
  rw [compW_fix ds.length fuelW 0 [] c (by omega) (by unfold fuelW; omega)]
  exact Ok.bind (q.mono fun _ _ h => ⟨_, _, rfl, h⟩)
end L2.Mi

/-! x.translate(table), the table a tracked dict of numbers -/
namespace PySem
open Builtin Builtin.Str
section
variable {prog : Program} {w : World} {A : Around} {E : Value → Shared → Prop} {s : Shared} {d : Addr} {c : Nat} {g : Nat → Nat}
end
def TrAtG (g : Nat → Nat) (x : List Nat) (fast0 : Bool) (s : Shared) (rest : List Nat) (st : List Str × Nat × Bool × List (Nat × Option Nat) × Bool) (s' : Shared) : Prop :=
  ∃ (past : List Nat) (pieces : List Str) (known : List (Nat × Option Nat)) (h' : Heap) (k : Nat), x = past ++ rest ∧ st = (pieces, past.length, fast0, known, false) ∧ pieces.reverse = past.map (fun c => (⟨#[g c]⟩ : Str)) ∧
    (∀ c a, List.lookup c known = some a → a = some (g c)) ∧ s' = { s with heap := h', toks := k } ∧ ∀ b o, s.heap.get? b = some o → h'.get? b = some o
theorem TrAtG.next {g : Nat → Nat} {x : List Nat} {fast0 : Bool} {s : Shared} {rest past : List Nat} {c : Nat} {pieces : List Str} {known : List (Nat × Option Nat)} {h' : Heap} {k : Nat} (h1 : x = past ++ c :: rest)
    (h3 : pieces.reverse = past.map (fun c => (⟨#[g c]⟩ : Str))) (h4 : ∀ c a, List.lookup c known = some a → a = some (g c)) (h6 : ∀ b o, s.heap.get? b = some o → h'.get? b = some o) :
    TrAtG g x fast0 s rest (⟨#[g c]⟩ :: pieces, past.length + 1, fast0, known, false) { s with heap := h', toks := k } := by
  refine ⟨past ++ [c], ⟨#[g c]⟩ :: pieces, known, h', k, ?_, ?_, ?_, h4, rfl, h6⟩
  · rw [h1, List.append_assoc] <;> rfl
  · rw [List.length_append] <;> rfl
  · rw [List.reverse_cons, h3, List.map_append] <;> rfl
end PySem

/-! str.maketrans("01", "10") and x.translate of it -/
namespace PySem
open Builtin Builtin.Str
section
variable {prog : Program} {w : World} {A : Around} {E : Value → Shared → Prop} {s : Shared}
end
end PySem
namespace L2.Mi
open PySem PySem.Spec PyProof.Rows L2 Builtin Builtin.Str
/-- the table of maketrans("01", "10") -/
abbrev tab01 : List (Key × V) := [(.inl 48, .int 49), (.inl 49, .int 48)]
def exch (c : Nat) : Nat := if c = 48 then 49 else if c = 49 then 48 else c
theorem KV.two {t1 t2 : Tok} : KV tab01 [(.inl 48, Value.int 49 t1), (.inl 49, Value.int 48 t2)] := .cons ⟨rfl, ⟨t1, rfl⟩⟩ (.cons ⟨rfl, ⟨t2, rfl⟩⟩ .nil)
end L2.Mi

namespace PySem
open Builtin Builtin.Str
end PySem
namespace L2.Mi
open PySem PySem.Spec PyProof.Rows L2 Builtin Builtin.Str
section
variable {prog : Program} {w : World} {A : Around} {E : Value → Shared → Prop} {s : Shared} {K : PySem.W.Frag}
end
section
variable {X : Cx} {o e : Expr} {es : List Expr} {to : TE} {t : TA} {apos pos : Pos}
end
end L2.Mi

/-! x.translate(str.maketrans("01", "10")) -/
namespace L2.Mi
open PySem PySem.Spec PyProof.Rows L2
section
variable {X : Cx} {W : WX} {o es : Expr} {fa : ME} {p p1 p2 p3 p4 pos : Pos}
end
end L2.Mi

/-! pop, insert, reverse, clear of a cell -/
namespace L2.Mi
open PySem PySem.Spec PyProof.Rows L2
section
variable {K : PySem.W.Frag} {I H : Hp} {m : List Addr} {c : Cs}
theorem Reps.reverse : ∀ {vs : List V} {ds : List D}, Reps K I m vs ds → Reps K I m vs.reverse ds.reverse
  | _, _, .nil => .nil
  | _, _, .cons h t => by
    rw [List.reverse_cons, List.reverse_cons]
    exact Reps.append (Reps.reverse t) (.cons h .nil)
def cellX (x : D) (c : Cs) : Option (Nat × List D) := match x with
  | .ref k => match c[k]? with
    | some (.lst xs) => some (k, xs)
    | _ => none
  | _ => none
theorem cellX_at {v : V} {d : D} {k : Nat} {xs : List D} (R : Rel K I H m c) (p : Rep K I m v d) (q : cellX d c = some (k, xs)) : ∃ a ws, v = .ref a ∧ m[k]? = some a ∧ c[k]? = some (.lst xs) ∧ H a = some (.lst ws) ∧ Reps K I m ws xs := by
  cases p with
  | @ref j a hm =>
    have q : (match c[j]? with
      | some (.lst xs) => some (j, xs)
      | _ => none) = some (k, xs) := q
    cases e : c[j]? with
    | none => rw [e] at q; cases q
    | some x =>
      rw [e] at q
      cases x with
      | lst ys =>
        cases q
        obtain ⟨_, ws, h1, h2⟩ := R.cell _ a _ hm e
        exact ⟨a, ws, rfl, hm, e, h1, h2⟩
      | _ => cases q
  | _ => cases q
/-- a method that changes a list -/
def mutM (f : List D → List D → Option (D × List D)) : D → List D → Cs → R D := fun d ds c => match cellX d c with
  | some (k, xs) => match f ds xs with
    | some (r, ys) => .ok r (c.set k (.lst ys))
    | none => .stuck
  | none => .stuck
def MutS (K : PySem.W.Frag) (r : V → List V → Hp → VK → Prop) (f : List D → List D → Option (D × List D)) : Prop := ∀ (I H : Hp) (m : List Addr) (l : Addr) (ws vs : List V) (ds xs : List D) (res : D) (ys : List D) (Q : VK),
  Reps K I m ws xs → Reps K I m vs ds → H l = some (.lst ws) → f ds xs = some (res, ys) → (∀ v' ws', Rep K I m v' res → Reps K I m ws' ys → Q v' (upd H l (.lst ws'))) → r (.ref l) vs H Q
theorem meth_mut {r : V → List V → Hp → VK → Prop} {f : List D → List D → Option (D × List D)} (hf : MutS K r f) : MethS K r (mutM f) := fun I H m c v vs d ds W Q R p ps A => by
  unfold mutM at A
  cases q : cellX d c with
  | none => rw [q] at A; exact A.elim
  | some kx =>
    obtain ⟨k, xs⟩ := kx
    rw [q] at A
    have A : After (rD K) K I m H W Q (match f ds xs with
      | some (r, ys) => .ok r (c.set k (.lst ys))
      | none => .stuck) := A
    obtain ⟨a, ws, rfl, hm, hc, h1, h2⟩ := cellX_at R p q
    cases z : f ds xs with
    | none => rw [z] at A; exact A.elim
    | some ry =>
      obtain ⟨res, ys⟩ := ry
      rw [z] at A
      refine hf I H m a ws vs ds xs res ys Q h2 ps h1 z fun v' ws' p1 p2 => ?_
      obtain ⟨R2, E2⟩ := R.put hm hc p2
      exact A _ _ _ _ E2 R2 p1
def clrF : List D → List D → Option (D × List D) := fun ds xs => match ds with
  | [] => some (.non, [])
  | _ => none
theorem ms_clrF : MutS K rClear clrF := fun I H m l ws vs ds xs res ys Q r ps h e q => by
  cases ps with
  | cons _ _ => cases e
  | nil => cases e; exact ⟨l, ws, rfl, rfl, h, q _ _ .non .nil⟩
end
/-- a method without arguments -/
theorem me_bm0 {X : Cx} {W : WX} {e : Expr} {fa : ME} {r : V → List V → Hp → VK → Prop} {g : D → List D → Cs → R D} (h : PE X e (tBM0 X.K "list" r (rdE X.K W fa))) (hs : MethS X.K r g) : PE X e (rdE X.K W (mBM g fa aNil)) :=
  PEi h fun σ H Q ⟨I, m, l, c, R, L, A⟩ => ⟨I, m, l, c, R, L, After.mono (After.bind (rep := rD X.K) A) fun v1 H1 ⟨I1, m1, c1, d1, E1, R1, p1, A1⟩ => by
    have A1 : After (rD X.K) X.K I1 m1 H1 _ Q (if isL d1 c1 = true then (Mi.R.ok ([] : List D) c1).bind fun xs c2 => g d1 xs c2 else .stuck) := A1
    by_cases hl : isL d1 c1 = true
    · rw [if_pos hl] at A1
      obtain ⟨ds, hds⟩ := Option.isSome_iff_exists.mp hl
      obtain ⟨a, xs, e1, h1, _⟩ := lst_at R1 p1 hds
      subst e1
      exact ⟨.inl ⟨rfl, xs, h1⟩, hs I1 H1 m1 c1 _ [] d1 [] _ Q R1 p1 .nil A1⟩
    · rw [if_neg hl] at A1
      exact A1.elim⟩
end L2.Mi

/-! sum, max, min of a list of numbers -/
namespace L2.Mi
open PySem PySem.Spec PyProof.Rows L2
section
variable {K : PySem.W.Frag} {I H : Hp} {m : List Addr} {c : Cs}
end
end L2.Mi
namespace L2.Mi
open PySem
end L2.Mi

/-! a written dict of several keys, a new cell -/
namespace L2.Mi
open PySem PySem.Spec PyProof.Rows L2
abbrev MD := Ls → Cs → R (List (D × D))
def rP (K : PySem.W.Frag) : Hp → List Addr → List (V × V) → List (D × D) → Prop := fun I m vs ds => Paired (fun v d => Rep K I m v.1 d.1 ∧ Rep K I m v.2 d.2) vs ds
def dNil : MD := fun _ c => .ok [] c
def dCons (a b : ME) (t : MD) : MD := fun l c => (a l c).bind fun x c1 => (b l c1).bind fun y c2 => (t l c2).bind fun ps c3 => .ok ((x, y) :: ps) c3
/-- the written pairs, read -/
def MPs (K : PySem.W.Frag) (W : WX) (trs : List (TE × TE)) (f : MD) : Prop := ∀ σ H Q, rd (rP K) K W f σ H Q → tPairs trs σ H Q
theorem mps_nil {K : PySem.W.Frag} {W : WX} : MPs K W [] dNil := fun σ H Q ⟨I, m, l, c, R, L, A⟩ => A.here R .nil
theorem mps_cons {K : PySem.W.Frag} {W : WX} {fa fb : ME} {trs : List (TE × TE)} {f : MD} (h : MPs K W trs f) : MPs K W ((rdE K W fa, rdE K W fb) :: trs) (dCons fa fb f) := fun σ H Q ⟨I, m, l, c, R, L, A⟩ =>
  ⟨I, m, l, c, R, L, After.mono (After.bind (rep := rD K) A) fun v1 H1 ⟨I1, m1, c1, d1, E1, R1, p1, A1⟩ =>
    ⟨I1, m1, l, c1, R1, L.ext E1, After.mono (After.bind (rep := rD K) A1) fun v2 H2 ⟨I2, m2, c2, d2, E2, R2, p2, A2⟩ =>
      h σ H2 _ ⟨I2, m2, l, c2, R2, (L.ext E1).ext E2, After.mono (After.bind (rep := rP K) A2) fun vs H3 ⟨I3, m3, c3, ds, E3, R3, p3, A3⟩ =>
        A3.here R3 (.cons ⟨Rep.ext (Rep.ext p1 E2) E3, Rep.ext p2 E3⟩ p3)⟩⟩⟩
def keyed : List (D × D) → Option (List (Key × D))
  | [] => some []
  | (.int i, d) :: r => match keyed r with
    | some ks => some ((.inl i, d) :: ks)
    | none => none
  | (.str s, d) :: r => match keyed r with
    | some ks => some ((.inr s, d) :: ks)
    | none => none
  | _ :: _ => none
theorem keyed_reps {K : PySem.W.Frag} {I : Hp} {m : List Addr} : ∀ {vs : List (V × V)} {ds : List (D × D)} {ks : List (Key × D)}, rP K I m vs ds → keyed ds = some ks → ∃ kvs : List (Key × V), vs = kvs.map (fun kv => (kV kv.1, kv.2)) ∧ RepK K I m kvs ks
  | _, _, _, .nil, e => by cases e; exact ⟨[], rfl, .nil⟩
  | _, _, _, .cons (a := v) (b := d) (l₂ := ds) h t, e => by
    obtain ⟨v1, v2⟩ := v
    obtain ⟨d1, d2⟩ := d
    obtain ⟨p1, p2⟩ := h
    have p1 : Rep K I m v1 d1 := p1
    have p2 : Rep K I m v2 d2 := p2
    cases p1 with
    | int i =>
      have e : (match keyed ds with
        | some ks => some ((Sum.inl i, d2) :: ks)
        | none => none) = some _ := e
      cases q : keyed ds with
      | none => rw [q] at e; cases e
      | some ks =>
        rw [q] at e
        cases e
        obtain ⟨kvs, rfl, r⟩ := keyed_reps t q
        exact ⟨(.inl i, v2) :: kvs, rfl, .cons p2 r⟩
    | str i =>
      have e : (match keyed ds with
        | some ks => some ((Sum.inr i, d2) :: ks)
        | none => none) = some _ := e
      cases q : keyed ds with
      | none => rw [q] at e; cases e
      | some ks =>
        rw [q] at e
        cases e
        obtain ⟨kvs, rfl, r⟩ := keyed_reps t q
        exact ⟨(.inr i, v2) :: kvs, rfl, .cons p2 r⟩
    | _ => cases e
def mergeKD (kvs more : List (Key × D)) : List (Key × D) := more.foldl (fun acc kv => putKD acc kv.1 kv.2) kvs
theorem RepK.merge {K : PySem.W.Frag} {I : Hp} {m : List Addr} : ∀ {more : List (Key × V)} {rs : List (Key × D)} {kvs : List (Key × V)} {ds : List (Key × D)}, RepK K I m more rs → RepK K I m kvs ds → RepK K I m (mergeK kvs more) (mergeKD ds rs)
  | _, _, _, _, .nil, r => r
  | _, _, _, _, .cons (k := k) (v := v) (vs := vs) (d := d) (ds := ds) h t, r => by
    have q := RepK.merge t (RepK.put (k := k) h r)
    exact q
def mDict (f : MD) : ME := fun l c => (f l c).bind fun ps c1 => match keyed ps with
  | some ks => if ks.length ≤ 15 then .ok (.ref c1.length) (c1 ++ [.dct (mergeKD [] ks)]) else .stuck
  | none => .stuck
theorem me_dict {X : Cx} {W : WX} {pos : Pos} {keys : List (Option Expr)} {values : List Expr} {trs : List (TE × TE)} {f : MD} (h : PPs X pos keys values trs) (hm : MPs X.K W trs f) (hall : keys.all (·.isSome) = true) (hl : keys.length = values.length) (h0 : keys ≠ []) (h15 : keys.length ≤ 15) : PE X (.Dict keys values pos) (rdE X.K W (mDict f)) :=
  PEi (pe_disp h hall hl h0 h15) fun σ H Q ⟨I, m, l, c, R, L, A⟩ => by
    intro p np
    have nI := R.same.free np
    have nm := R.fresh np
    have E0 : Ext I m H I m (upd H p (.dK [])) := ⟨Same.refl I, Pre.refl m, fun b o h1 hT h2 h3 => ⟨by rw [upd_ne (ne_of_none h1 np)]; exact h1, h2, h3⟩⟩
    refine hm σ _ _ ⟨I, m, l, c, R.sideO (fun x z => by rw [np] at z; cases z) (fun o z => by rw [np] at z; first | (cases z; done) | (cases z; exact ⟨(fun _ q => nomatch q), (fun _ q => nomatch q)⟩)) nI nm, L, After.mono (After.bindAt (rep := rP X.K) A E0) fun v H2 ⟨I2, m2, c2, d2, E2, R2, p2, A2⟩ => ?_⟩
    obtain ⟨f1, f2, f3⟩ := E2.fr p _ upd_same ⟨(fun _ z => nomatch z), (fun _ z => nomatch z)⟩ nI nm
    have A2 : After (rD X.K) X.K I m H _ _ (match keyed d2 with
      | some ks => if ks.length ≤ 15 then .ok (.ref c2.length) (c2 ++ [.dct (mergeKD [] ks)]) else .stuck
      | none => .stuck) := A2
    cases q : keyed d2 with
    | none => rw [q] at A2; exact A2.elim
    | some ks =>
      rw [q] at A2
      obtain ⟨kvs, e, r⟩ := keyed_reps p2 q
      by_cases z : ks.length ≤ 15
      · have A2 : After (rD X.K) X.K I m H _ _ (if ks.length ≤ 15 then .ok (.ref c2.length) (c2 ++ [.dct (mergeKD [] ks)]) else .stuck) := A2
        rw [if_pos z] at A2
        refine ⟨f1, kvs, e, by rw [r.length]; exact z, ?_⟩
        have R3 : Rel X.K I2 (upd H2 p (.dK (mergeK [] kvs))) m2 c2 := R2.sideO (fun x z => by rw [f1] at z; cases z) (fun o z => by rw [f1] at z; first | (cases z; done) | (cases z; exact ⟨(fun _ q => nomatch q), (fun _ q => nomatch q)⟩)) f2 f3
        have R4 : Rel X.K I2 (upd H2 p (.dK (mergeK [] kvs))) (m2 ++ [p]) (c2 ++ [.dct (mergeKD [] ks)]) := R3.adoptC f3 f2 (fun x z => by rw [upd_same] at z; cases z) (fun o z => by rw [upd_same] at z; first | (cases z; done) | (cases z; exact ⟨(fun _ q => nomatch q), (fun _ q => nomatch q)⟩)) ⟨f2, mergeK [] kvs, upd_same, (RepK.merge r .nil).mono (Same.refl _) (pre_app _ _)⟩
        refine A2 _ _ _ _ ⟨(E0.trans E2).same, (E0.trans E2).pre.trans (pre_app _ _), fun b o h1 hT h2 h3 => ?_⟩ R4 (.ref ?_)
        · obtain ⟨q1, q2, q3⟩ := (E0.trans E2).fr b o h1 hT h2 h3
          have nb : b ≠ p := ne_of_none h1 np
          refine ⟨by rw [upd_ne nb]; exact q1, q2, fun z => ?_⟩
          rcases List.mem_append.mp z with z | z
          · exact q3 z
          · simp only [List.mem_singleton] at z; exact nb z
        · rw [← R2.len, List.getElem?_append_right (Nat.le_refl _), Nat.sub_self]
          rfl
      · have A2 : After (rD X.K) X.K I m H _ _ (if ks.length ≤ 15 then .ok (.ref c2.length) (c2 ++ [.dct (mergeKD [] ks)]) else .stuck) := A2
        rw [if_neg z] at A2; exact A2.elim
end L2.Mi

/-! dict(pairs) -/
namespace L2.Mi
open PySem PySem.Spec PyProof.Rows L2
section
variable {K : PySem.W.Frag} {I H : Hp} {m : List Addr} {c : Cs}
def keyOf : D → Option Key
  | .int i => some (.inl i)
  | .str s => some (.inr s)
  | _ => none
theorem keyOf_at {v : V} {d : D} {k : Key} (p : Rep K I m v d) (e : keyOf d = some k) : v = kV k := by
  cases p <;> first | (cases e; rfl) | cases e
end
end L2.Mi

/-! [*xs, ..] -/
namespace L2.Mi
open PySem PySem.Spec PyProof.Rows L2
section
variable {X : Cx} {W : WX} {e : Expr} {es : List Expr} {fa : ME} {ga : MA} {p : Pos}
def aStar (a : ME) (t : MA) : MA := fun l c => (a l c).bind fun x c1 => match seqOf x c1 with
  | some xs => (t l c1).bind fun ys c2 => .ok (xs ++ ys) c2
  | none => .stuck
theorem ma_star (he : PE X e (rdE X.K W fa)) (hr : PA X es (rdA X.K W ga)) (hs : starEach (.Starred e p :: es) X.env = (true, eval e X.env) :: starEach es X.env := by rfl) : PA X (.Starred e p :: es) (rdA X.K W (aStar fa ga)) :=
  PAi (StX.pa_star he hr hs) fun σ H Q ⟨I, m, l, c, R, L, A⟩ => ⟨I, m, l, c, R, L, After.mono (After.bind (rep := rD X.K) A) fun v1 H1 ⟨I1, m1, c1, d1, E1, R1, p1, A1⟩ => by
    have A1 : After (rA X.K) X.K I1 m1 H1 _ Q (match seqOf d1 c1 with
      | some xs => (ga l c1).bind fun ys c2 => .ok (xs ++ ys) c2
      | none => .stuck) := A1
    cases q : seqOf d1 c1 with
    | none => rw [q] at A1; exact A1.elim
    | some xs =>
      rw [q] at A1
      obtain ⟨a, ys, rfl, h1, h2⟩ := seq_at R1 p1 q
      refine ⟨a, ys, rfl, (by first | exact h1 | exact h1.symm), I1, m1, l, c1, R1, L.ext E1, After.mono (After.bind (rep := rA X.K) A1) fun v2 H2 ⟨I2, m2, c2, d2, E2, R2, p2, A2⟩ => ?_⟩
      exact A2.here R2 (Reps.append (Reps.ext h2 E2) p2)⟩
end
end L2.Mi

/-! range(a, b, c) -/
namespace L2.Mi
open PySem PySem.Spec PyProof.Rows L2
def rangeC (lo s : Int) (n : Nat) : List D := (List.range n).map fun i => .int (lo + (i : Nat) * s)
def r3ok (i j s : Int) : Prop := s ≠ 0 ∧ s.natAbs < 1073741824 ∧ Builtin.Range.small i j s = true ∧ 0 ≤ Builtin.Range.rangeSize i j s
instance (i j s : Int) : Decidable (r3ok i j s) := inferInstanceAs (Decidable (s ≠ 0 ∧ s.natAbs < 1073741824 ∧ Builtin.Range.small i j s = true ∧ 0 ≤ Builtin.Range.rangeSize i j s))
def r3 (i j s : Int) (c : Cs) : R (List D) := if r3ok i j s then .ok (rangeC i s (Builtin.Range.rangeSize i j s).toNat) c else .stuck
end L2.Mi

/-! zip and enumerate over lists, tuples, texts in any mix -/
namespace L2.Mi
open PySem PySem.Spec PyProof.Rows L2

inductive Sr where
  | l (a : Addr)
  | t (a : Addr)
  | s (z : Str)
def Sr.v : Sr → V
  | .l a => .ref a
  | .t a => .ref a
  | .s z => .str z
def Sr.adr : Sr → List Addr
  | .l a => [a]
  | .t a => [a]
  | .s _ => []
def signsV (z : Str) : List V := z.cps.toList.map fun k => .str ⟨#[k]⟩
def Sr.Items (K : PySem.W.Frag) (H : Hp) (vs : List V) : Sr → Prop
  | .l a => SqL K H a vs
  | .t a => SqT K H a vs
  | .s z => vs = signsV z
def Sr.Itr (it : Addr) (i : Nat) (h : Heap) : Sr → Prop
  | .l a => h.IsListIter it a i
  | .t a => h.IsTupleIter it a i
  | .s z => ∃ t, h.IsStrIter it (strIterType z) z t i
theorem Sr.obj {src : Sr} {it : Addr} {i : Nat} {h : Heap} (st : src.Itr it i h) : ∃ o, h.get? it = some o ∧ ∀ v, o.data ≠ .cell v := by
  cases src with
  | l a => obtain ⟨o, h1, h2, h3⟩ := st; exact ⟨o, h1, fun v q => by rw [h3] at q; cases q⟩
  | t a => obtain ⟨o, h1, h2, h3⟩ := st; exact ⟨o, h1, fun v q => by rw [h3] at q; cases q⟩
  | s z => obtain ⟨t, o, h1, h2, h3⟩ := st; exact ⟨o, h1, fun v q => by rw [h3] at q; cases q⟩
theorem Sr.at {src : Sr} {it : Addr} {i : Nat} {h h' : Heap} (st : src.Itr it i h) (k : ∀ o, h.get? it = some o → h'.get? it = some o) : src.Itr it i h' := by
  cases src with
  | l a => obtain ⟨o, h1, h2⟩ := st; exact ⟨o, k o h1, h2⟩
  | t a => obtain ⟨o, h1, h2⟩ := st; exact ⟨o, k o h1, h2⟩
  | s z => obtain ⟨t, o, h1, h2⟩ := st; exact ⟨t, o, k o h1, h2⟩
theorem paired_getR {α β : Type} {R : α → β → Prop} : ∀ {xs : List α} {ys : List β} {j : Nat} {y : β}, Paired R xs ys → ys[j]? = some y → ∃ x, xs[j]? = some x ∧ R x y
  | _, _, _, _, .nil, e => by simp at e
  | _, _, 0, _, .cons h _, e => by simp at e; subst e; exact ⟨_, rfl, h⟩
  | _, _, j + 1, y, .cons _ t, e => by
    obtain ⟨x, h1, h2⟩ := paired_getR (j := j) (y := y) t (by simpa using e)
    exact ⟨x, by simpa using h1, h2⟩
section
variable {X : Cx} {pins : List (Addr × Obj)} {σ : St} {H : Hp} {s : Shared}
theorem Sr.inj {src : Sr} {xs ys : List V} (I : Inv X pins σ H s) (h1 : src.Items X.K H xs) (h2 : src.Items X.K H ys) : xs = ys := by
  cases src with
  | l a => exact I.list_inj h1 h2
  | t a => exact I.tuple_inj h1 h2
  | s z => exact (show xs = signsV z from h1).trans (show ys = signsV z from h2).symm
theorem Sr.lt {src : Sr} {xs : List V} (I : Inv X pins σ H s) (h1 : src.Items X.K H xs) : ∀ a ∈ src.adr, a < s.heap.objs.size := by
  cases src with
  | l a =>
    obtain ⟨its, rv, p, _⟩ := I.list h1
    intro b hb
    rw [List.mem_singleton.mp hb]
    exact p.lt
  | t a =>
    obtain ⟨its, rv, p, _⟩ := I.tuple h1
    intro b hb
    rw [List.mem_singleton.mp hb]
    obtain ⟨o, e, _⟩ := (show s.heap.IsTuple a its.toArray from p)
    exact Heap.lt_size e
  | s z => intro b hb; cases hb
theorem Sr.draws {src : Sr} {it : Addr} {i : Nat} {vs : List V} (I : Inv X pins σ H s) (hc : X.calm = true) (hq : src.Items X.K H vs) (st : src.Itr it i s.heap) (hne : ∀ a ∈ src.adr, a ≠ it) :
    ∃ (P : Nat → Value → Prop) (S : Nat → Heap → Prop), Draws X.prog X.w X.A.in1 it (it :: src.adr) vs.length P S ∧ S i s.heap ∧ (∀ j h, S j h → src.Itr it j h) ∧ ∀ j u, P j u → ∃ x, vs[j]? = some x ∧ RelV x u := by
  have hh : X.A.in1.handled = none := I.ok.hd hc
  cases src with
  | l a =>
    obtain ⟨its, rv, p, hz⟩ := I.list hq
    refine ⟨fun i v => its.toArray[i]? = some v, fun i h => h.IsListIter it a i ∧ h.IsList a its.toArray, by have := Draws.list (prog := X.prog) (w := X.w) hh it a (hne a (by simp [Sr.adr])) its.toArray; rw [List.size_toArray, ← rv.length] at this; exact this, ⟨st, p.isList⟩, fun j h q => q.1, fun j u q => ?_⟩
    have q : its[j]? = some u := by simpa using q
    exact paired_getR rv q
  | t a =>
    obtain ⟨its, rv, p, hz⟩ := I.tuple hq
    refine ⟨fun i v => its.toArray[i]? = some v, fun i h => h.IsTupleIter it a i ∧ h.IsTuple a its.toArray, by have := Draws.tuple (prog := X.prog) (w := X.w) hh it a (hne a (by simp [Sr.adr])) its.toArray; rw [List.size_toArray, ← rv.length] at this; exact this, ⟨st, p⟩, fun j h q => q.1, fun j u q => ?_⟩
    have q : its[j]? = some u := by simpa using q
    exact paired_getR rv q
  | s z =>
    obtain ⟨t, st⟩ := st
    have hv : vs = signsV z := hq
    subst hv
    refine ⟨_, _, by have := Draws.text (prog := X.prog) (w := X.w) hh it z t; rw [show z.cps.size = (signsV z).length by simp [signsV]] at this; exact this, st, fun j h q => ⟨t, q⟩, fun j u q => ?_⟩
    obtain ⟨c, u', hc', rfl⟩ := q
    refine ⟨.str ⟨#[c]⟩, ?_, ⟨_, rfl⟩⟩
    unfold signsV
    rw [List.getElem?_map, Array.getElem?_toList, hc']
    rfl
end

/-! ### zip -/
/-! ### enumerate -/
/-! ### over plain values -/
end L2.Mi

/-! x != y by an own ==; str(x) by an own __str__ -/
namespace L2.Mi
open PySem PySem.Spec PyProof.Rows L2

section
variable {X : Cx} {W : WX} {e o a b : Expr} {es : List Expr} {fa fb fo : ME} {ga : MA} {ns : List Str} {pos p : Pos} {k : Nat} {tbl : Tbl} {mm : Str} {g0 : D → D → Cs → R D}
end
end L2.Mi

/-! plain reasoning: cells that only grow, walks over typed lists, own objects -/
namespace L2.Mi
open PySem PySem.Spec PyProof.Rows L2

/-- the cells of c stand at the head of c' -/
def Pfx (c c' : Cs) : Prop := ∃ e, c' = c ++ e
theorem Pfx.refl (c : Cs) : Pfx c c := ⟨[], by simp⟩
theorem Pfx.trans {a b c : Cs} (h : Pfx a b) (g : Pfx b c) : Pfx a c := by
  obtain ⟨e, rfl⟩ := h; obtain ⟨f, rfl⟩ := g
  exact ⟨e ++ f, by simp⟩
theorem Pfx.app {a b : Cs} (h : Pfx a b) (x : Cs) : Pfx a (b ++ x) := h.trans ⟨x, rfl⟩
theorem Pfx.one (c x : Cs) : Pfx c (c ++ x) := ⟨x, rfl⟩
theorem Pfx.get {c c' : Cs} {k : Nat} {x : Cell} (h : Pfx c c') (e : c[k]? = some x) : c'[k]? = some x := by
  obtain ⟨f, rfl⟩ := h
  rw [List.getElem?_append_left (List.getElem?_eq_some_iff.mp e).1]
  exact e
theorem Pfx.at {c c' : Cs} (h : Pfx c c') {k : Nat} (hk : k < c.length) : c'[k]? = c[k]? := by
  obtain ⟨f, rfl⟩ := h
  exact List.getElem?_append_left hk
theorem Pfx.len {c c' : Cs} (h : Pfx c c') : c.length ≤ c'.length := by obtain ⟨f, rfl⟩ := h; simp
theorem Pfx.bx {c c' : Cs} {k : Nat} {n : Int} (h : Pfx c c') (b : Bx c k n) : Bx c' k n := by obtain ⟨f, rfl⟩ := h; exact bx_app b f
/-- a cell above the first ones is set -/
theorem Pfx.set {c c' : Cs} (h : Pfx c c') {k : Nat} (hk : c.length ≤ k) (x : Cell) : Pfx c (c'.set k x) := by
  obtain ⟨f, rfl⟩ := h
  exact ⟨f.set (k - c.length) x, by rw [List.set_append_right _ _ hk]⟩
theorem Ok.nox {α : Type} {r : R α} {Q : α → Cs → Prop} (h : Ok r Q) : Ok r.nox Q := by
  obtain ⟨a, c, rfl, q⟩ := h
  exact ⟨a, c, rfl, q⟩
theorem Ok.eq {α : Type} {r : R α} {d : α} {c : Cs} (h : Ok r fun x c' => x = d ∧ c' = c) : r = .ok d c := by
  obtain ⟨a, c', e, rfl, rfl⟩ := h
  exact e

/-! ### comprehensions over typed lists -/
section
variable {α : Type} {g : MG} {t : MT} {e : ME} {l lw : Ls} {c c0 : Cs} {Q : D → Cs → Prop}
theorem compW_G {w : Wk} {xs : List α} {enc F : α → D} {P : α → Bool} (hw : ∀ c', Pfx c0 c' → ∀ i, i ≤ xs.length → w i c' = some (xs.map enc)[i]?)
    (h : ∀ a ∈ xs, ∀ c', Pfx c0 c' → Ok (g (enc a) lw c') fun l1 c1 => Pfx c0 c1 ∧ Ok (t l1 c1) fun k c2 => k = P a ∧ Pfx c0 c2 ∧ (P a = true → Ok (e l1 c2) fun d c3 => d = F a ∧ Pfx c0 c3)) :
    ∀ (k n i : Nat) (acc : List D) (c : Cs), xs.length - i = k → i ≤ xs.length → k < n → Pfx c0 c → acc.length + k ≤ sizeLine → ∃ c', Pfx c0 c' ∧ compW g t e lw w n i acc c = .ok (acc ++ ((xs.drop i).filter P).map F) c'
  | k, 0, _, _, _, _, _, hn, _, _ => absurd hn (Nat.not_lt_zero _)
  | 0, n + 1, i, acc, c, hk, hi, hn, hp, hl => by
    have hi : i = xs.length := by omega
    refine ⟨c, hp, ?_⟩
    unfold compW
    rw [hw c hp i (by omega), List.getElem?_eq_none (by simp; omega), List.drop_eq_nil_of_le (by omega)]
    simp
  | k + 1, n + 1, i, acc, c, hk, hi, hn, hp, hl => by
    have hi : i < xs.length := by omega
    obtain ⟨l1, c1, e1, p1, kb, c2, e2, hkb, p2, h3⟩ := h xs[i] (List.getElem_mem hi) c hp
    have ih := fun acc c' hp hl => compW_G hw h k n (i + 1) acc c' (by omega) (by omega) (by omega) hp hl
    have hd : xs.drop i = xs[i] :: xs.drop (i + 1) := List.drop_eq_getElem_cons hi
    unfold compW
    rw [hw c hp i (by omega), List.getElem?_map, List.getElem?_eq_getElem hi]
    simp only [Option.map_some, e1, R.nox_ok, R.bind_ok, e2]
    cases q : P xs[i] with
    | true =>
      rw [q] at hkb
      subst hkb
      obtain ⟨d, c3, e3, rfl, p3⟩ := h3 q
      obtain ⟨c', hp', e'⟩ := ih (acc ++ [F xs[i]]) c3 p3 (by simp; omega)
      refine ⟨c', hp', ?_⟩
      simp only [e3, R.nox_ok, R.bind_ok]
      rw [if_pos (by omega), e', hd, List.filter_cons_of_pos q]
      simp
    | false =>
      rw [q] at hkb
      subst hkb
      obtain ⟨c', hp', e'⟩ := ih acc c2 p2 (by omega)
      refine ⟨c', hp', ?_⟩
      simp only []
      rw [e', hd, List.filter_cons_of_neg (by rw [q]; exact Bool.false_ne_true)]
theorem ok_lcG {it : MK} {js : List Nat} (xs : List α) (enc F : α → D) (P : α → Bool) (hl : xs.length ≤ 1000000)
    (hit : Ok (it l c) fun w c1 => Pfx c c1 ∧ ∀ c', Pfx c1 c' → ∀ i, i ≤ xs.length → w i c' = some (xs.map enc)[i]?)
    (h : ∀ a ∈ xs, ∀ c', Pfx c c' → Ok (g (enc a) (wipeL l js) c') fun l1 c1 => Pfx c' c1 ∧ Ok (t l1 c1) fun k c2 => k = P a ∧ Pfx c1 c2 ∧ (P a = true → Ok (e l1 c2) fun d c3 => d = F a ∧ Pfx c2 c3))
    (q : ∀ c', Pfx c c' → Q (.lst ((xs.filter P).map F)) c') : Ok (mLcW it js g t e l c) Q := by
  have hz : sizeLine = 16777216 := sizeLine_eq
  refine Ok.bind (hit.mono fun w c1 ⟨p1, hw⟩ => ?_)
  obtain ⟨c', hp, e'⟩ := compW_G (g := g) (t := t) (e := e) (lw := wipeL l js) (F := F) (P := P) hw (fun a ha c' hp => (h a ha c' (p1.trans hp)).mono fun l1 c2 ⟨p2, h2⟩ => ⟨hp.trans p2, h2.mono fun k c3 ⟨e3, p3, h3⟩ => ⟨e3, (hp.trans p2).trans p3, fun ek => (h3 ek).mono fun d c4 ⟨e4, p4⟩ => ⟨e4, ((hp.trans p2).trans p3).trans p4⟩⟩⟩)
    xs.length fuelW 0 [] c1 (by omega) (by omega) (by unfold fuelW; omega) (Pfx.refl _) (by simp; omega)
  rw [List.drop_zero, List.nil_append] at e'
  exact ⟨_, _, by rw [e']; rfl, q c' (p1.trans hp)⟩
/-- .. nothing is changed -/
theorem ok_lcT {it : MK} {js : List Nat} (xs : List α) (enc F : α → D) (P : α → Bool) (hl : xs.length ≤ 1000000)
    (hit : Ok (it l c) fun w c1 => c1 = c ∧ ∀ i, i ≤ xs.length → w i c = some (xs.map enc)[i]?)
    (h : ∀ a ∈ xs, Ok (g (enc a) (wipeL l js) c) fun l1 c1 => c1 = c ∧ Ok (t l1 c) fun k c2 => k = P a ∧ c2 = c ∧ (P a = true → Ok (e l1 c) fun d c3 => d = F a ∧ c3 = c))
    (q : Q (.lst ((xs.filter P).map F)) c) : Ok (mLcW it js g t e l c) Q := by
  have hz : sizeLine = 16777216 := sizeLine_eq
  refine Ok.bind (hit.mono fun w c1 ⟨p1, hw⟩ => ?_)
  subst p1
  have go : ∀ (k n i : Nat) (acc : List D), xs.length - i = k → i ≤ xs.length → k < n → acc.length + k ≤ sizeLine → compW g t e (wipeL l js) w n i acc c1 = .ok (acc ++ ((xs.drop i).filter P).map F) c1 := by
    intro k
    induction k with
    | zero =>
      intro n i acc hk hi hn hl
      cases n with
      | zero => omega
      | succ n =>
        unfold compW
        rw [hw i (by omega), List.getElem?_eq_none (by simp; omega), List.drop_eq_nil_of_le (by omega)]
        simp
    | succ k ih =>
      intro n i acc hk hi hn hl
      cases n with
      | zero => omega
      | succ n =>
        have hi : i < xs.length := by omega
        obtain ⟨l1, c1', e1, rfl, kb, c2, e2, hkb, rfl, h3⟩ := h xs[i] (List.getElem_mem hi)
        have hd : xs.drop i = xs[i] :: xs.drop (i + 1) := List.drop_eq_getElem_cons hi
        unfold compW
        rw [hw i (by omega), List.getElem?_map, List.getElem?_eq_getElem hi]
        simp only [Option.map_some, e1, R.nox_ok, R.bind_ok, e2]
        cases qq : P xs[i] with
        | true =>
          rw [qq] at hkb
          subst hkb
          obtain ⟨d, c3, e3, rfl, rfl⟩ := h3 qq
          simp only [e3, R.nox_ok, R.bind_ok]
          rw [if_pos (by omega), ih n (i + 1) _ (by omega) (by omega) (by omega) (by simp; omega), hd, List.filter_cons_of_pos qq]
          simp
        | false =>
          rw [qq] at hkb
          subst hkb
          simp only []
          rw [ih n (i + 1) _ (by omega) (by omega) (by omega) (by omega), hd, List.filter_cons_of_neg (by rw [qq]; exact Bool.false_ne_true)]
  exact ⟨_, _, by rw [go xs.length fuelW 0 [] (by omega) (by omega) (by unfold fuelW; omega) (by simp; omega)]; rfl, by simpa using q⟩
theorem filter_all {β : Type} (xs : List β) : xs.filter (fun _ => true) = xs := List.filter_eq_self.mpr fun _ _ => rfl
theorem ok_lcY {it : MK} {js : List Nat} (xs : List α) (enc F : α → D) (hl : xs.length ≤ 1000000)
    (hit : Ok (it l c) fun w c1 => c1 = c ∧ ∀ i, i ≤ xs.length → w i c = some (xs.map enc)[i]?)
    (h : ∀ a ∈ xs, Ok (g (enc a) (wipeL l js) c) fun l1 c1 => c1 = c ∧ Ok (e l1 c) fun d c3 => d = F a ∧ c3 = c)
    (q : Q (.lst (xs.map F)) c) : Ok (mLcW it js g tYesM e l c) Q :=
  ok_lcT xs enc F (fun _ => true) hl hit (fun a ha => (h a ha).mono fun l1 c1 ⟨e1, h1⟩ => ⟨e1, ⟨true, c, rfl, rfl, rfl, fun _ => h1⟩⟩) (by rw [filter_all]; exact q)
/-- a list of items told beforehand, as a walk -/
theorem mLc_fix {it : MI} {js : List Nat} {ds : List D} (hit : it l c = .ok ds c) (hl : ds.length ≤ 1000000) : mLc it js g t e l c = mLcW (kFix it) js g t e l c := by
  unfold mLc mLcW kFix
  rw [hit]
  simp only [R.bind_ok]
  rw [compW_fix ds.length fuelW 0 [] c (by omega) (by unfold fuelW; omega), List.drop_zero]
theorem ok_mlc {it : MI} {js : List Nat} {ds : List D} (hit : it l c = .ok ds c) (hl : ds.length ≤ 1000000) (h : Ok (mLcW (kFix it) js g t e l c) Q) : Ok (mLc it js g t e l c) Q := by rw [mLc_fix hit hl]; exact h
theorem ok_kfix {it : MI} {ds : List D} {QW : Wk → Cs → Prop} (hit : it l c = .ok ds c) (q : QW (fixW ds) c) : Ok (kFix it l c) QW := ⟨_, _, by unfold kFix; rw [hit]; rfl, q⟩
/-- what is walked where nothing can change -/
def treeSeq : D → Option (List D)
  | .lst ds => some ds
  | .ro ds => some ds
  | .tup ds => some ds
  | .str s => some (chrs s)
  | _ => none
theorem wAny_tree {x : D} {ds : List D} (h : treeSeq x = some ds) : wAny x c = .ok (fixW ds) c := by
  cases x <;> first | (cases h; rfl) | cases h
theorem ok_ktree {a : ME} {xs : List α} {enc : α → D} (h : Ok (a l c) fun x c1 => c1 = c ∧ treeSeq x = some (xs.map enc)) : Ok (kAny a l c) fun w c1 => c1 = c ∧ ∀ i, i ≤ xs.length → w i c = some (xs.map enc)[i]? :=
  Ok.bind (h.mono fun x c1 ⟨e, ht⟩ => by subst e; exact ⟨_, _, wAny_tree ht, rfl, fun _ _ => rfl⟩)
theorem rangeL0 (n : Nat) : rangeL 0 n = (List.range n).map fun i => D.int (i : Nat) := by
  unfold rangeL
  refine List.map_congr_left fun i _ => ?_
  rw [Int.zero_add]
theorem small_nat {n : Nat} (h : n ≤ 1000000) : small62 (n : Int) := by
  have e : (2 : Int) ^ 62 = 4611686018427387904 := by decide
  unfold small62
  rw [e]
  omega
theorem r1_eq {t : MA} {n : Nat} (h : Ok (t l c) fun xs c1 => c1 = c ∧ xs = [.int (n : Int)]) (hn : n ≤ 1000000) : iR1 t l c = .ok ((List.range n).map fun i => D.int (i : Nat)) c := by
  have h2 : Ok (iR1 t l c) fun ds c1 => ds = rangeL 0 n ∧ c1 = c := ok_r1 (h.mono fun xs c1 ⟨e1, e2⟩ => ⟨n, e2, small_nat hn, by rw [Int.toNat_natCast], e1⟩)
  rw [h2.eq, rangeL0]
theorem ok_kr1 {t : MA} {n : Nat} {QW : Wk → Cs → Prop} (h : Ok (t l c) fun xs c1 => c1 = c ∧ xs = [.int (n : Int)]) (hn : n ≤ 1000000) (q : QW (fixW ((List.range n).map fun i => D.int (i : Nat))) c) : Ok (kFix (iR1 t) l c) QW :=
  ok_kfix (r1_eq h hn) q
/-- [e for i in range(n)] -/
theorem ok_lcR {m : MA} {js : List Nat} (n : Nat) (F : Nat → D) (hn : n ≤ 1000000) (hm : Ok (m l c) fun xs c1 => c1 = c ∧ xs = [.int (n : Int)])
    (h : ∀ i, i < n → Ok (g (.int (i : Nat)) (wipeL l js) c) fun l1 c1 => c1 = c ∧ Ok (e l1 c) fun d c3 => d = F i ∧ c3 = c)
    (q : Q (.lst ((List.range n).map F)) c) : Ok (mLc (iR1 m) js g tYesM e l c) Q :=
  ok_mlc (r1_eq hm hn) (by simp; exact hn) (ok_lcY (List.range n) (fun i => D.int (i : Nat)) F (by simp; exact hn) (ok_kr1 hm hn ⟨rfl, fun _ _ => rfl⟩) (fun a ha => h a (List.mem_range.mp ha)) q)
end

/-! ### loops over typed lists -/
section
variable {α : Type} {g : MG} {f : MS} {l : Ls} {c : Cs} {QS : Fl → Cs → Prop}
theorem forD_T {xs : List α} {enc : α → D} (P : List α → Ls → Cs → Prop) (hd : ∀ l c, P [] l c → QS (.nx l) c)
    (ht : ∀ x rest l c, P (x :: rest) l c → Ok (g (enc x) l c) fun l1 c1 => OkS (f l1 c1) fun fl c2 => match fl with
      | .nx l2 => P rest l2 c2
      | .ct l2 => P rest l2 c2
      | .bk l2 => QS (.nx l2) c2
      | .rt d => QS (.rt d) c2) : ∀ (xs : List α) l c, P xs l c → OkS (forD g f (xs.map enc) l c) QS := fun xs l c h =>
  OkS.for (fun ds l c => ∃ ys : List α, ds = ys.map enc ∧ P ys l c) (fun l c ⟨ys, e, p⟩ => by
      cases ys with
      | nil => exact hd l c p
      | cons y ys => simp at e) (fun d ds l c ⟨ys, e, p⟩ => by
      cases ys with
      | nil => simp at e
      | cons y ys =>
        simp only [List.map_cons, List.cons.injEq] at e
        obtain ⟨rfl, rfl⟩ := e
        refine (ht y ys l c p).mono fun l1 c1 h1 => h1.mono fun fl c2 h2 => ?_
        cases fl with
        | nx l2 => exact ⟨ys, rfl, h2⟩
        | ct l2 => exact ⟨ys, rfl, h2⟩
        | bk l2 => exact h2
        | rt d => exact h2) _ _ _ ⟨xs, rfl, h⟩
theorem os_forY {it : MI} (xs : List α) (enc : α → D) (P : List α → Ls → Cs → Prop) (ha : Ok (it l c) fun ds c1 => ds = xs.map enc ∧ P xs l c1)
    (hd : ∀ l c, P [] l c → QS (.nx l) c)
    (ht : ∀ x rest l c, P (x :: rest) l c → Ok (g (enc x) l c) fun l1 c1 => OkS (f l1 c1) fun fl c2 => match fl with
      | .nx l2 => P rest l2 c2
      | .ct l2 => P rest l2 c2
      | .bk l2 => QS (.nx l2) c2
      | .rt d => QS (.rt d) c2) : OkS (sFor it g f l c) QS :=
  os_for (ha.mono fun ds c1 ⟨h1, h2⟩ => by subst h1; exact forD_T (xs := xs) P hd ht xs l c1 h2)
theorem os_forR {m : MA} (n : Nat) (P : List Nat → Ls → Cs → Prop) (hn : n ≤ 1000000) (hm : Ok (m l c) fun xs c1 => c1 = c ∧ xs = [.int (n : Int)]) (h0 : P (List.range n) l c)
    (hd : ∀ l c, P [] l c → QS (.nx l) c)
    (ht : ∀ x rest l c, P (x :: rest) l c → Ok (g (.int (x : Nat)) l c) fun l1 c1 => OkS (f l1 c1) fun fl c2 => match fl with
      | .nx l2 => P rest l2 c2
      | .ct l2 => P rest l2 c2
      | .bk l2 => QS (.nx l2) c2
      | .rt d => QS (.rt d) c2) : OkS (sFor (iR1 m) g f l c) QS :=
  os_forY (List.range n) (fun i => D.int (i : Nat)) P (Ok.of (r1_eq hm hn) ⟨rfl, h0⟩) hd ht
end

/-! ### zip, enumerate over trees -/
section
variable {l : Ls} {c : Cs}
end

section
variable {it : MI} {iw : MK} {js : List Nat} {g : MG} {t : MT} {e : ME} {f : MS} {l : Ls} {c : Cs} {Q : D → Cs → Prop} {QS : Fl → Cs → Prop}
theorem at_mul {x y : D} (h : Ok (mulI x y c) Q) : Ok (mulI x y c) Q := h
theorem at_mod {x y : D} (h : Ok (modI x y c) Q) : Ok (modI x y c) Q := h
theorem at_div {x y : D} (h : Ok (divI x y c) Q) : Ok (divI x y c) Q := h
theorem at_pow {x y : D} (h : Ok (powI x y c) Q) : Ok (powI x y c) Q := h
theorem at_lc (h : Ok (mLc it js g t e l c) Q) : Ok (mLc it js g t e l c) Q := h
theorem at_lcW (h : Ok (mLcW iw js g t e l c) Q) : Ok (mLcW iw js g t e l c) Q := h
theorem at_for (h : OkS (sFor it g f l c) QS) : OkS (sFor it g f l c) QS := h
theorem at_forW (h : OkS (sForW iw g f l c) QS) : OkS (sForW iw g f l c) QS := h
end
/-! ### own objects -/
section
variable {o a : ME} {t : MA} {l : Ls} {c : Cs} {Q : D → Cs → Prop} {n mm : Str} {g : List D → Cs → R D} {g0 : D → D → Cs → R D} {x y : D} {fs : List (Str × D)}
theorem viaT_eq {α : Type} {r : (List D → Cs → R D) → List (Str × D) → R α} (h : insOf x c = some (n, fs)) : viaT [(n, g)] x c r = r g fs := by
  unfold viaT
  rw [h]
  simp [List.lookup]
theorem ok_prop (h : Ok (o l c) fun x c1 => (∃ fs, insOf x c1 = some (n, fs)) ∧ Ok (g [x] c1) Q) : Ok (mProp [(n, g)] o l c) Q :=
  Ok.bind (h.mono fun x c1 ⟨⟨fs, h1⟩, h2⟩ => by rw [viaT_eq h1]; exact h2.nox)
theorem ok_meth (h : Ok (o l c) fun x c1 => (∃ fs, insOf x c1 = some (n, fs) ∧ fs.lookup mm = none) ∧ Ok (t l c1) fun xs c2 => Ok (g (x :: xs) c2) Q) : Ok (mMeth [(n, g)] mm o t l c) Q :=
  Ok.bind (h.mono fun x c1 ⟨⟨fs, h1, h3⟩, h2⟩ => by rw [viaT_eq h1, h3]; exact Ok.bind h2)
theorem ok_fld {f : Str} (h : Ok (o l c) fun x c1 => ∃ fs d, insOf x c1 = some (n, fs) ∧ fs.lookup f = some d ∧ Q d c1) : Ok (mFld [n] f o l c) Q :=
  Ok.bind (h.mono fun x c1 ⟨fs, d, h1, h2, q⟩ => ⟨d, c1, by simp [fldR, h1, fldO, h2], q⟩)
theorem ok_inI {neg : Bool} (h : insOf y c = some (n, fs)) (q : Ok (g [y, x] c) fun r c2 => ∃ b, r = .bl b ∧ Q (.bl (sgn neg b)) c2) : Ok (inI [(n, g)] neg g0 x y c) Q := by
  unfold inI
  rw [h]
  simp only []
  rw [viaT_eq h]
  exact Ok.bind (q.mono fun r c2 ⟨b, e, q⟩ => by subst e; exact ⟨_, _, rfl, q⟩)
theorem ok_ixI (h : insOf x c = some (n, fs)) (q : Ok (g [x, y] c) Q) : Ok (ixI [(n, g)] g0 x y c) Q := by
  unfold ixI
  rw [h]
  simp only []
  rw [viaT_eq h]
  exact q
theorem ok_star {Q : List D → Cs → Prop} (h : Ok (a l c) fun x c1 => ∃ xs, seqOf x c1 = some xs ∧ Ok (t l c1) fun ys c2 => Q (xs ++ ys) c2) : Ok (aStar a t l c) Q :=
  Ok.bind (h.mono fun x c1 ⟨xs, e, q⟩ => by
    rw [e]
    exact Ok.bind (q.mono fun ys c2 q => ⟨_, _, rfl, q⟩))
end
end L2.Mi

/-! a, b, .. = a list -/
namespace L2.Mi
open PySem PySem.Spec PyProof.Rows L2
end L2.Mi

namespace L2.Mi
open PySem PySem.Spec PyProof.Rows L2
/-! comprehensions whose list is changed later: cells -/
theorem Rel.pushA {K : PySem.W.Frag} {I H : Hp} {m : List Addr} {c : Cs} (r : Rel K I H m c) {p : Addr} {vs : List V} {ds : List D} (hH : H p = some (.lst vs)) (hI : I p = none) (nm : p ∉ m) (q : Reps K I m vs ds) : Rel K I H (m ++ [p]) (c ++ [.lst ds]) := by
  have hp := pre_app m p
  refine ⟨r.same, by simp [r.len], fun i j a h1 h2 => ?_, fun k a x h1 h2 => ?_, r.tabs.upm (nt_some hH ⟨(fun _ z => nomatch z), (fun _ z => nomatch z)⟩)⟩
  · rcases Nat.lt_or_ge i m.length with hi | hi
    · rcases Nat.lt_or_ge j m.length with hj | hj
      · rw [List.getElem?_append_left hi] at h1
        rw [List.getElem?_append_left hj] at h2
        exact r.nd i j a h1 h2
      · rw [List.getElem?_append_left hi] at h1
        rw [List.getElem?_append_right hj] at h2
        have e : a = p := by
          cases z : j - m.length with
          | zero => rw [z] at h2; simpa using h2.symm
          | succ n => rw [z] at h2; simp at h2
        exact absurd (List.mem_of_getElem? h1) (e ▸ nm)
    · rcases Nat.lt_or_ge j m.length with hj | hj
      · rw [List.getElem?_append_left hj] at h2
        rw [List.getElem?_append_right hi] at h1
        have e : a = p := by
          cases z : i - m.length with
          | zero => rw [z] at h1; simpa using h1.symm
          | succ n => rw [z] at h1; simp at h1
        exact absurd (List.mem_of_getElem? h2) (e ▸ nm)
      · have hi' := (List.getElem?_eq_some_iff.mp h1).1
        have hj' := (List.getElem?_eq_some_iff.mp h2).1
        simp at hi' hj'
        omega
  · rcases Nat.lt_or_ge k m.length with hk | hk
    · rw [List.getElem?_append_left hk] at h1
      rw [List.getElem?_append_left (by rw [← r.len]; exact hk)] at h2
      have q := r.cell k a x h1 h2
      cases x with
      | lst es =>
        obtain ⟨q1, ws, q2, q3⟩ := q
        exact ⟨q1, ws, q2, q3.mono (Same.refl I) hp⟩
      | dct es =>
        obtain ⟨q1, ws, q2, q3⟩ := q
        exact ⟨q1, ws, q2, q3.mono (Same.refl I) hp⟩
      | ins C es =>
        obtain ⟨q1, dx, ws, q2, q3, q4, q5, q6⟩ := q
        exact ⟨q1, dx, ws, q2, fun z => by
          rcases List.mem_append.mp z with z | z
          · exact q3 z
          · simp only [List.mem_singleton] at z
            exact ne_of q4 hH (by intro y; cases y) z, q4, q5, q6.mono (Same.refl I) hp⟩
      | frz d => exact ⟨q.1, q.2.mono (Same.refl I) hp⟩
    · have hk' := (List.getElem?_eq_some_iff.mp h1).1
      simp at hk'
      have e : k = m.length := by omega
      subst e
      rw [List.getElem?_append_right (Nat.le_refl _)] at h1
      rw [r.len, List.getElem?_append_right (Nat.le_refl _)] at h2
      simp at h1 h2
      subst h1; subst h2
      exact ⟨hI, vs, hH, q.mono (Same.refl I) hp⟩

def mLcM (it : MI) (js : List Nat) (g : MG) (t : MT) (e : ME) : ME := fun l c => (it l c).bind fun ds c1 => (compD g t e (wipeL l js) ds [] c1).bind fun xs c2 => .ok (.ref c2.length) (c2 ++ [Cell.lst xs])
theorem lc_readM {K : PySem.W.Frag} {W : WX} {fi : MI} {g : MG} {ft : MT} {fe : ME} {js : List Nat} {g0 : TG} (good : Good g0 js) (rg : ∀ v σ H Q, rdG K W0 g v σ H Q → g0 v σ H Q) {σ : St} {H : Hp} {Q : VK} (h : rdE K W (mLcM fi js g ft fe) σ H Q) :
    tLc (rdI K W fi) g0 (rdT K W0 ft) (rdE K W0 fe) js σ H Q := by
  obtain ⟨I, m, l, c, R, L, A⟩ := h
  refine ⟨I, m, l, c, R, L, After.mono (After.bind (rep := rI' K) A) fun J H1 ⟨I1, m1, c1, ds, E1, R1, w1, A1⟩ => ?_⟩
  intro Dn hD
  have nI := R1.same.free hD
  have nm := R1.fresh hD
  refine ⟨fun i n H => ∃ I' m' c' acc vs, n = ds.length - i ∧ Ext I1 m1 H1 I' m' H ∧ Rel K I' H m' c' ∧ Reps K I' m' vs acc ∧ H Dn = some (.lst vs) ∧ I' Dn = none ∧ Dn ∉ m' ∧
    After (rD K) K I1 m1 H1 (fun cls dd H' => W cls dd σ H') Q ((compD g ft fe (wipeL l js) (ds.drop i) acc c').bind fun xs c2 => .ok (.ref c2.length) (c2 ++ [Cell.lst xs])),
    ⟨_, I1, m1, c1, [], [], rfl, ⟨Same.refl _, Pre.refl _, fun b o h1 hT h2 h3 => ⟨by rw [upd_ne (ne_of_none h1 hD)]; exact h1, h2, h3⟩⟩, R1.side (vs := []) (.inl hD) nI nm, .nil, upd_same, nI, nm, A1⟩, ?_⟩
  rintro i n H' ⟨I', m', c', acc, vs, rfl, E', R', p', hH', hI', hm', A'⟩
  obtain ⟨wg, ws⟩ := w1 i I' H' m' c' E'.same E'.pre R'
  cases q : ds[i]? with
  | none =>
    have hi : ds.length ≤ i := List.getElem?_eq_none_iff.mp q
    rw [List.drop_eq_nil_of_le hi] at A'
    refine .inl ⟨ws hi, ?_⟩
    have RP := R'.pushA hH' hI' hm' p'
    refine A' I' (m' ++ [Dn]) H' (.ref Dn) ⟨E'.same, E'.pre.trans (pre_app m' Dn), fun b o h1 hT h2 h3 => ?_⟩ RP (Rep.ref ?_)
    · obtain ⟨q1, q2, q3⟩ := E'.fr b o h1 hT h2 h3
      exact ⟨q1, q2, fun hm => (List.mem_append.mp hm).elim q3 fun hm => ne_of_none h1 hD (List.mem_singleton.mp hm)⟩
    · rw [← R'.len, List.getElem?_append_right (Nat.le_refl _), Nat.sub_self]
      rfl
  | some d =>
    have hi : i < ds.length := (List.getElem?_eq_some_iff.mp q).1
    have hd : ds.drop i = d :: ds.drop (i + 1) := by
      rw [List.drop_eq_getElem_cons hi, (List.getElem?_eq_some_iff.mp q).2]
    rw [hd] at A'
    obtain ⟨go, yl⟩ := wg d q
    refine .inr ⟨go, fun H2 => ∃ I2 m2 c2 acc2 vs2, Ext I1 m1 H1 I2 m2 H2 ∧ Rel K I2 H2 m2 c2 ∧ Reps K I2 m2 vs2 acc2 ∧ H2 Dn = some (.lst vs2) ∧ I2 Dn = none ∧ Dn ∉ m2 ∧
      After (rD K) K I1 m1 H1 (fun cls dd H' => W cls dd σ H') Q ((compD g ft fe (wipeL l js) (ds.drop (i + 1)) acc2 c2).bind fun xs c2 => .ok (.ref c2.length) (c2 ++ [Cell.lst xs])),
      fun H2 ⟨I2, m2, c2, acc2, vs2, e2, r2, pp2, h2, i2, n2, a2⟩ => ⟨ds.length - (i + 1), by omega, I2, m2, c2, acc2, vs2, rfl, e2, r2, pp2, h2, i2, n2, a2⟩, fun x H3 y => ?_⟩
    obtain ⟨I3, E3, R3, p3⟩ := yl x H3 y
    have Lw := ((locs_wipe L js).ext E1).ext (E'.trans E3)
    have A3 : After (rD K) K I1 m1 H1 (fun cls dd H' => W cls dd σ H') Q (((g d (wipeL l js) c').nox.bind fun l1 c1 => (ft l1 c1).nox.bind fun k c2 => match k with
      | true => (fe l1 c2).nox.bind fun x c3 => if acc.length < sizeLine then compD g ft fe (wipeL l js) (ds.drop (i + 1)) (acc ++ [x]) c3 else .stuck
      | false => compD g ft fe (wipeL l js) (ds.drop (i + 1)) acc c2).bind fun xs c2 => .ok (.ref c2.length) (c2 ++ [Cell.lst xs])) := A'
    have asc : ∀ {α β γ : Type} (r : Mi.R α) (f : α → Cs → Mi.R β) (h : β → Cs → Mi.R γ), (r.bind f).bind h = r.bind fun a c => (f a c).bind h := fun r f h => by cases r <;> rfl
    rw [asc] at A3
    refine good x σ H3 _ (rg _ _ _ _ ⟨I3, m', wipeL l js, c', d, R3, Lw, p3, After.mono (After.nox (After.bindAt (rep := rL K) A3 (E'.trans E3))) fun σ4 H4 ⟨I4, m4, c4, l4, E4, R4, L4, A4⟩ => ?_⟩)
    rw [asc] at A4
    have EE := (E'.trans E3).trans E4
    refine ⟨I4, m4, l4, c4, R4, L4, After.mono (After.nox (After.bindAt (rep := rB) A4 EE)) fun b H5 ⟨I5, m5, c5, b5, E5, R5, p5, A5⟩ => ?_⟩
    cases (show b = b5 from p5)
    have F5 := (E3.trans E4).trans E5
    cases b with
    | false =>
      obtain ⟨f1, f2, f3⟩ := F5.fr _ _ hH' ⟨(fun _ z => nomatch z), (fun _ z => nomatch z)⟩ hI' hm'
      exact iteF ⟨I5, m5, c5, acc, vs, EE.trans E5, R5, p'.ext F5, f1, f2, f3, A5⟩
    | true =>
      have A6 : After (rD K) K I1 m1 H1 (fun cls dd H' => W cls dd σ H') Q (((fe l4 c5).nox.bind fun x c3 => if acc.length < sizeLine then compD g ft fe (wipeL l js) (ds.drop (i + 1)) (acc ++ [x]) c3 else .stuck).bind fun xs c2 => .ok (.ref c2.length) (c2 ++ [Cell.lst xs])) := A5
      rw [asc] at A6
      have L4' : Locs K I4 m4 σ4 l4 := L4
      refine iteT ⟨I5, m5, l4, c5, R5, L4'.ext E5, After.mono (After.nox (After.bindAt (rep := rD K) A6 (EE.trans E5))) fun z H7 ⟨I7, m7, c7, d7, E7, R7, p7, A7⟩ => ?_⟩
      have F7 := F5.trans E7
      obtain ⟨f1, f2, f3⟩ := F7.fr _ _ hH' ⟨(fun _ z => nomatch z), (fun _ z => nomatch z)⟩ hI' hm'
      by_cases hz : acc.length < sizeLine
      · have A8 : After (rD K) K I1 m1 H1 (fun cls dd H' => W cls dd σ H') Q ((if acc.length < sizeLine then compD g ft fe (wipeL l js) (ds.drop (i + 1)) (acc ++ [d7]) c7 else .stuck).bind fun xs c2 => .ok (.ref c2.length) (c2 ++ [Cell.lst xs])) := A7
        rw [if_pos hz] at A8
        refine ⟨vs, f1, by rw [p'.length]; exact hz, I7, m7, c7, acc ++ [d7], vs ++ [z], ?_, R7.side (.inr f1) f2 f3, (p'.ext F7).append (.cons p7 .nil), upd_same, f2, f3, A8⟩
        have G := (EE.trans E5).trans E7
        refine ⟨G.same, G.pre, fun b o h1 hT h2 h3 => ?_⟩
        obtain ⟨q1, q2, q3⟩ := G.fr b o h1 hT h2 h3
        exact ⟨by rw [upd_ne (ne_of_none h1 hD)]; exact q1, q2, q3⟩
      · have A8 : After (rD K) K I1 m1 H1 (fun cls dd H' => W cls dd σ H') Q ((if acc.length < sizeLine then compD g ft fe (wipeL l js) (ds.drop (i + 1)) (acc ++ [d7]) c7 else .stuck).bind fun xs c2 => .ok (.ref c2.length) (c2 ++ [Cell.lst xs])) := A7
        rw [if_neg hz] at A8
        exact A8.elim

end L2.Mi
namespace PySem
section
variable {prog : Program} {w : World} {A : Around} {E : Value → Shared → Prop} {s : Shared} {l : Addr} {xs : Array (Int × Tok)}
end
end PySem
namespace L2.Mi
open PySem PySem.Spec PyProof.Rows L2
section
variable {prog : Program} {w : World} {A : Around} {E : Value → Shared → Prop} {s : Shared} {l : Addr} {its : List Value} {ns : List Int} {Q : Value → Shared → Prop}
end
section
variable {X : Cx}
end
section
variable {K : PySem.W.Frag}
end
theorem lookup_relabel_fc {env : Env} : ∀ {names : List (Str × NameKind)} {x : Str}, names.lookup x = some .cell ∨ names.lookup x = some .free →
    (names.map fun (n, k) => if (k == NameKind.free && env.scope.kind == .function && env.kindOf n == some .cell) then (n, NameKind.cell) else (n, k)).lookup x = some .cell ∨
    (names.map fun (n, k) => if (k == NameKind.free && env.scope.kind == .function && env.kindOf n == some .cell) then (n, NameKind.cell) else (n, k)).lookup x = some .free
  | [], x, h => by simp at h
  | (n, k) :: r, x, h => by
    have ih := @lookup_relabel_fc env r x
    show List.lookup x ((if (k == NameKind.free && env.scope.kind == .function && env.kindOf n == some .cell) = true then (n, NameKind.cell) else (n, k)) :: _) = _ ∨ List.lookup x ((if (k == NameKind.free && env.scope.kind == .function && env.kindOf n == some .cell) = true then (n, NameKind.cell) else (n, k)) :: _) = _
    cases hx : x == n with
    | true =>
      simp only [List.lookup_cons, hx] at h
      by_cases hc : (k == NameKind.free && env.scope.kind == .function && env.kindOf n == some .cell) = true
      · rw [if_pos hc]; simp only [List.lookup_cons, hx]; exact .inl trivial
      · rw [if_neg hc]; simp only [List.lookup_cons, hx]; exact h
    | false =>
      simp only [List.lookup_cons, hx] at h
      by_cases hc : (k == NameKind.free && env.scope.kind == .function && env.kindOf n == some .cell) = true
      · rw [if_pos hc]; simp only [List.lookup_cons, hx]; exact ih h
      · rw [if_neg hc]; simp only [List.lookup_cons, hx]; exact ih h
/-- a block within a block -/
theorem blkOk_in {N : List Str} {outer scope : Scope} {env : Env} {own : List (Str × Nat)} (h : blkC N outer scope own = true) : BlkOk N (relabel outer env) scope own := by
  obtain ⟨h1, h2, h3, h4, h5⟩ := blkOk_by h
  exact ⟨h1, h2, h3, fun y hy e => lookup_relabel_fc (h4 y hy e), h5⟩
end L2.Mi

/-! plain reasoning where exceptions are raised -/
namespace L2.Mi
open PySem PySem.Spec PyProof.Rows L2
def Xo {α : Type} (r : R α) (Q : α → Cs → Prop) (X : Ex → Cs → Prop) : Prop := match r with
  | .stuck => False
  | .ok a c => Q a c
  | .exc x c => X x c
def XS (r : RS) (Q : Fl → Cs → Prop) (X : Ex → Cs → Prop) : Prop := match r with
  | .stuck => False
  | .go f c => Q f c
  | .exc x _ c => X x c
section
variable {α β : Type} {X : Ex → Cs → Prop}
theorem OkS.xs {r : RS} {Q : Fl → Cs → Prop} (h : OkS r Q) : XS r Q X := by
  obtain ⟨a, c, rfl, h⟩ := h
  exact h
theorem Xo.bind {r : R α} {f : α → Cs → R β} {Q : β → Cs → Prop} (h : Xo r (fun a c => Xo (f a c) Q X) X) : Xo (r.bind f) Q X := by
  cases r <;> exact h
theorem Xo.mono {r : R α} {Q Q' : α → Cs → Prop} {X' : Ex → Cs → Prop} (h : Xo r Q X) (w : ∀ a c, Q a c → Q' a c) (wx : ∀ x c, X x c → X' x c) : Xo r Q' X' := by
  cases r with
  | stuck => exact h
  | ok a c => exact w a c h
  | exc x c => exact wx x c h
theorem Xo.of {r : R α} {Q : α → Cs → Prop} {a : α} {c : Cs} (e : r = .ok a c) (h : Q a c) : Xo r Q X := by rw [e]; exact h
theorem XS.seq {r : R α} {l : Ls} {f : α → Cs → RS} {Q : Fl → Cs → Prop} (h : Xo r (fun a c => XS (f a c) Q X) X) : XS (r.seq l f) Q X := by
  cases r <;> exact h
theorem XS.mono {r : RS} {Q Q' : Fl → Cs → Prop} {X' : Ex → Cs → Prop} (h : XS r Q X) (w : ∀ a c, Q a c → Q' a c) (wx : ∀ x c, X x c → X' x c) : XS r Q' X' := by
  cases r with
  | stuck => exact h
  | go a c => exact w a c h
  | exc x l c => exact wx x c h
theorem XS.next {r : RS} {g : Ls → Cs → RS} {Q : Fl → Cs → Prop} (h : XS r (fun f c => match f with
  | .nx l => XS (g l c) Q X
  | f => Q f c) X) : XS (r.next g) Q X := by
  cases r with
  | stuck => exact h
  | exc x l c => exact h
  | go f c => cases f <;> exact h
theorem Xo.fun {n a : Nat} {b : MS} {ds : List D} {c : Cs} {Q : D → Cs → Prop} (hl : ds.length = a) (h : XS (b (ds.map some ++ List.replicate (n - a) none) c) (fun f c => match f with
  | .rt d => Q d c
  | .nx _ => Q .non c
  | _ => False) X) : Xo (mFun n a b ds c) Q X := by
  unfold mFun
  rw [if_pos hl]
  revert h
  generalize b (ds.map some ++ List.replicate (n - a) none) c = r
  intro h
  cases r with
  | stuck => exact h
  | exc x l c => exact h
  | go f c => cases f <;> first | exact h | exact h.elim
end
section
variable {l : Ls} {c : Cs} {Q : D → Cs → Prop} {a b e o : ME} {t : MA} {QS : Fl → Cs → Prop} {X : Ex → Cs → Prop} {f g : MS}
end
end L2.Mi

/-! list(text) -/
namespace L2.Mi
open PySem PySem.Spec PyProof.Rows L2
section
variable {K : PySem.W.Frag} {I : Hp} {m : List Addr}
end
end L2.Mi

/-! x in xs, of data of any depth; slices of tuples -/
namespace L2.Mi
open PySem PySem.Spec PyProof.Rows L2
def seqP : PyData → Option (List PyData)
  | .list xs => some xs
  | .tuple xs => some xs
  | _ => none
def inOk (a : PyData) (xs : List PyData) : Bool := PyData.canLayAll0 xs && a.canLay0 && decide (a.depth ≤ 60)
def rInDx (neg : Bool) (K : PySem.W.Frag) : R2 := fun x y H Q => ∃ d e xs, Dx K H x d ∧ Dx K H y e ∧ seqP e = some xs ∧ inOk d xs = true ∧ Q (.bl (sgn neg (xs.any fun z => PyData.eqv z d))) H
theorem op_inDx {X : Cx} (hu : X.A.units + 64 < cLine) : OpR X (compareOp .In) (rInDx false X.K) := by
  intro pins s σ H x y v u Q I rx ry h
  obtain ⟨d, e, xs, hd, he, hs, ho, q⟩ := h
  obtain ⟨as, r1⟩ := (Dx.rx I hd rx).reads
  obtain ⟨bs, r2⟩ := (Dx.rx I he ry).reads
  simp only [inOk, Bool.and_eq_true, decide_eq_true_eq] at ho
  have hm : min (PyData.depthAll xs) d.depth ≤ 60 := Nat.le_trans (Nat.min_le_right _ _) ho.2
  cases e with
  | list ys =>
    cases hs
    exact SeqAt.in_list_reads r2 r1 ho.1.1 ho.1.2 (by omega) ⟨.bl _, H, I, rfl, q⟩
  | tuple ys =>
    cases hs
    exact SeqAt.in_tuple_reads r2 r1 ho.1.1 ho.1.2 (by omega) ⟨.bl _, H, I, rfl, q⟩
  | _ => cases hs
theorem op_notinDx {X : Cx} (hu : X.A.units + 64 < cLine) : OpR X (compareOp .NotIn) (rInDx true X.K) := by
  intro pins s σ H x y v u Q I rx ry h
  obtain ⟨d, e, xs, hd, he, hs, ho, q⟩ := h
  obtain ⟨as, r1⟩ := (Dx.rx I hd rx).reads
  obtain ⟨bs, r2⟩ := (Dx.rx I he ry).reads
  simp only [inOk, Bool.and_eq_true, decide_eq_true_eq] at ho
  have hm : min (PyData.depthAll xs) d.depth ≤ 60 := Nat.le_trans (Nat.min_le_right _ _) ho.2
  cases e with
  | list ys =>
    cases hs
    exact SeqAt.notIn_list_reads r2 r1 ho.1.1 ho.1.2 (by omega) ⟨.bl _, H, I, rfl, q⟩
  | tuple ys =>
    cases hs
    exact SeqAt.notIn_tuple_reads r2 r1 ho.1.1 ho.1.2 (by omega) ⟨.bl _, H, I, rfl, q⟩
  | _ => cases hs
def inQ (neg : Bool) (d e : D) (c : Cs) : R D := match toPyC 30 c d with
  | some a => match toPyC 30 c e with
    | some b => match seqP b with
      | some xs => if inOk a xs = true then .ok (.bl (sgn neg (xs.any fun z => PyData.eqv z a))) c else .stuck
      | none => .stuck
    | none => .stuck
  | none => .stuck
def inY (neg : Bool) (d e : D) (c : Cs) : R D := match inX neg d e c with
  | .stuck => inQ neg d e c
  | r => r
def rInY (K : PySem.W.Frag) (neg : Bool) : R2 := fun x y H Q => rInA K neg x y H Q ∨ rInDx neg K x y H Q
theorem op_inY {X : Cx} (hu : X.A.units + 64 < cLine) : OpR X (compareOp .In) (rInY X.K false) := op_inA.or (op_inDx hu)
theorem op_notinY {X : Cx} (hu : X.A.units + 64 < cLine) : OpR X (compareOp .NotIn) (rInY X.K true) := op_notinA.or (op_notinDx hu)
theorem os_inY {K : PySem.W.Frag} {neg : Bool} : OpS K (rInY K neg) (inY neg) := fun I H m c v1 v2 d1 d2 W Q R p1 p2 A => by
  unfold inY at A
  cases e : inX neg d1 d2 c with
  | ok a c' => rw [e] at A; exact .inl (os_inX I H m c v1 v2 d1 d2 W Q R p1 p2 (by rw [e]; exact A))
  | exc x c' => rw [e] at A; exact .inl (os_inX I H m c v1 v2 d1 d2 W Q R p1 p2 (by rw [e]; exact A))
  | stuck =>
    rw [e] at A
    have A : After (rD K) K I m H W Q (inQ neg d1 d2 c) := A
    unfold inQ at A
    cases q1 : toPyC 30 c d1 with
    | none => rw [q1] at A; exact A.elim
    | some a =>
      cases q2 : toPyC 30 c d2 with
      | none => rw [q1, q2] at A; exact A.elim
      | some b =>
        rw [q1, q2] at A
        cases q3 : seqP b with
        | none => simp only [q3] at A; exact A.elim
        | some xs =>
          simp only [q3] at A
          by_cases ho : inOk a xs = true
          · rw [if_pos ho] at A
            exact .inr ⟨a, b, xs, dx_of R 30 _ _ _ p1 q1, dx_of R 30 _ _ _ p2 q2, q3, ho, A.here R (.bl _)⟩
          · rw [if_neg ho] at A
            exact A.elim
end L2.Mi

/-! sep.join(elt for x in list) where the element reads captured names -/
namespace L2.Gx
open PySem PySem.Spec PyProof.Rows L2
section
variable {X : Cx} {pins : List (Addr × Obj)} {σ : L2.St} {H : Hp} {s : Shared}
end
section
variable {X : Cx}
end
/-! ### the captured names -/
section
variable {X : Cx} {pins : List (Addr × Obj)} {σ : L2.St} {H1 : Hp} {s1 s₂ : Shared} {P : Addr} {scope : Scope} {cenv : Env}
end
end L2.Gx

/-! joins of generators over rows, as computations -/
namespace L2.Mi
open PySem PySem.Spec PyProof.Rows L2
section
variable {X : Cx} {W : WX}
/-- what is asked of a generator's scope, before anything runs -/
def genOk (sc scope : Scope) : Bool := scope.names.all fun y => !(y.2 == NameKind.cell) && (!(y.2 == NameKind.free) || sc.names.lookup y.1 == some NameKind.cell || sc.names.lookup y.1 == some NameKind.free)
structure GenK (env : Env) (scope : Scope) (x : Str) : Prop where
  kind : scope.kind = .function
  co : scope.isCoroutine = false
  dot : scope.names.lookup (".0" : Str) = some NameKind.local
  loc : scope.names.lookup x = some .local
  ok : genOk env.scope scope = true
theorem GenK.gen {scope : Scope} {x : Str} (G : GenK X.env scope x) (ok : X.Ok) : GxR.GenS X.env scope x := by
  have h := List.all_eq_true.mp G.ok
  refine ⟨G.kind, G.co, fun y hy e => ?_, G.dot, G.loc, fun y hy e => ?_⟩
  · have q := h y hy
    rw [e] at q
    cases q
  · have q := h y hy
    rw [e] at q
    have q : (X.env.scope.names.lookup y.1 == some NameKind.cell || X.env.scope.names.lookup y.1 == some NameKind.free) = true := q
    rcases Bool.or_eq_true_iff.mp q with q | q
    · exact ok.has y.1 (.inl (beq_iff_eq.mp q))
    · exact ok.has y.1 (.inr (beq_iff_eq.mp q))
end
end L2.Mi

/-! sorted of ints; joins of self.f[j][i] for i in a list -/
namespace L2.Mi
open PySem PySem.Spec PyProof.Rows L2
section
variable {K : PySem.W.Frag} {I : Hp} {m : List Addr}
end
/-! ### self.f[j][i] for i in a list -/
section
variable {X : Cx} {W : WX}
end
end L2.Mi

/-! comprehensions of two clauses -/
namespace L2.Mi
open PySem PySem.Spec PyProof.Rows L2
theorem Locs.mono {K : PySem.W.Frag} {I I1 : Hp} {m m1 : List Addr} {σ : St} {ls : Ls} (l : Locs K I m σ ls) (s : Same I I1) (p : Pre m m1) : Locs K I1 m1 σ ls :=
  ⟨l.len, fun i d h => let ⟨v, h1, h2⟩ := l.at_ i d h; ⟨v, h1, h2.mono s p⟩⟩
end L2.Mi

/-! expressions over a caught exception's field, in its own suite -/
namespace L2.Mi
open PySem PySem.Spec PyProof.Rows L2
section
variable {X : Cx} {W : WX} {e b : Expr} {rest : List Expr} {i : Nat} {a : Addr} {cls : Value} {d : Option Addr} {A B : Ex → ME} {pos p p2 : Pos} {n : Str} {ns : List Str}
end
end L2.Mi

/-! d[key] of a dict: a cell, or one that never changes -/
namespace L2.Mi
open PySem PySem.Spec PyProof.Rows L2
def getK (ds : List (Key × D)) (k : Key) : Option D := (ds.find? fun kv => decide (kv.1 = k)).map (·.2)
def dctOf (x : D) (c : Cs) : Option (List (Key × D)) := match x with
  | .dct ds => some ds
  | .ref k => match c[k]? with
    | some (.dct ds) => some ds
    | _ => none
  | _ => none
def dgetI (x y : D) (c : Cs) : R D := match keyOf y, dctOf x c with
  | some k, some ds => match getK ds k with
    | some d => .ok d c
    | none => .stuck
  | _, _ => .stuck
theorem RepK.get {K : PySem.W.Frag} {I : Hp} {m : List Addr} {k : Key} {d : D} : ∀ {vs : List (Key × V)} {ds : List (Key × D)}, RepK K I m vs ds → getK ds k = some d → ∃ v, valV vs k = some v ∧ Rep K I m v d
  | _, _, .nil, e => by cases e
  | _, _, .cons (k := k1) h t, e => by
    unfold getK at e
    unfold valV
    rw [List.find?_cons] at e ⊢
    by_cases hk : k1 = k
    · simp only [hk, decide_true] at e ⊢
      cases e
      exact ⟨_, rfl, h⟩
    · simp only [hk, decide_false] at e ⊢
      exact RepK.get t e
theorem u1 {A : Around} {k : Nat} (hr : Room k A) : A.units + 1 < cLine := by have := hr.un; omega
section
variable {X : Cx} {W : WX} {o i : Expr} {fo fi : ME} {pos : Pos}
theorem me_dget (hu : X.A.units + 1 < cLine) (ho : PE X o (rdE X.K W fo)) (hi : PE X i (rdE X.K W fi)) (hs : NoSl i) : PE X (.Subscript o i pos) (rdE X.K W (mOp dgetI fo fi)) :=
  PEi (pe_dget hu ho hi hs) fun σ H Q ⟨I, m, l, c, R, L, A⟩ => ⟨I, m, l, c, R, L, After.mono (After.bind (rep := rD X.K) A) fun v1 H1 ⟨I1, m1, c1, d1, E1, R1, p1, A1⟩ =>
    ⟨I1, m1, l, c1, R1, L.ext E1, After.mono (After.bind (rep := rD X.K) A1) fun v2 H2 ⟨I2, m2, c2, d2, E2, R2, p2, A2⟩ => by
      have p1 := Rep.ext p1 E2
      have A2 : After (rD X.K) X.K I2 m2 H2 (fun cls dd H' => W cls dd σ H') Q (match keyOf d2, dctOf d1 c2 with
        | some k, some ds => match getK ds k with
          | some d => .ok d c2
          | none => .stuck
        | _, _ => .stuck) := A2
      cases qk : keyOf d2 with
      | none => rw [qk] at A2; exact A2.elim
      | some k =>
        rw [qk] at A2
        cases qd : dctOf d1 c2 with
        | none => rw [qd] at A2; exact A2.elim
        | some ds =>
          rw [qd] at A2
          have A2 : After (rD X.K) X.K I2 m2 H2 (fun cls dd H' => W cls dd σ H') Q (match getK ds k with
            | some d => .ok d c2
            | none => .stuck) := A2
          cases qg : getK ds k with
          | none => rw [qg] at A2; exact A2.elim
          | some d =>
            rw [qg] at A2
            have hv : v2 = kV k := by
              cases p2 with
              | int n => cases qk; rfl
              | str n => cases qk; rfl
              | _ => cases qk
            have hdk : ∃ a vs, v1 = .ref a ∧ H2 a = some (.dK vs) ∧ RepK X.K I2 m2 vs ds := by
              cases p1 with
              | dct h r => cases qd; exact ⟨_, _, rfl, R2.same _ _ h, r⟩
              | @ref j a h =>
                simp only [dctOf] at qd
                cases z : c2[j]? with
                | none => rw [z] at qd; cases qd
                | some x =>
                  rw [z] at qd
                  cases x with
                  | dct es =>
                    cases qd
                    obtain ⟨_, vs, h1, h2⟩ := R2.cell j a _ h z
                    exact ⟨a, vs, rfl, h1, h2⟩
                  | _ => cases qd
              | _ => cases qd
            obtain ⟨a, vs, rfl, h1, h2⟩ := hdk
            obtain ⟨v, g1, g2⟩ := h2.get qg
            exact ⟨a, v, rfl, .inl ⟨vs, k, .inl h1, hv, g1.symm⟩, A2.here R2 g2⟩⟩⟩
end
end L2.Mi

/-! xs[lo:hi:step] of a list: a new list -/
namespace L2.Mi
open PySem PySem.Spec PyProof.Rows L2
section
variable {X : Cx} {W : WX} {e : Expr} {lo hi st : Option Expr} {te : TE} {tl th tk : TO} {p2 pos : Pos}
end
end L2.Mi

/-! x += e, x -= e of numbers and texts -/
namespace L2.Mi
open PySem PySem.Spec PyProof.Rows L2
end L2.Mi

/-! xs.extend(ys) -/
namespace L2.Mi
open PySem PySem.Spec PyProof.Rows L2
end L2.Mi

/-! {k: v for x in xs if ..}: a new cell -/
namespace L2.Mi
open PySem PySem.Spec PyProof.Rows L2
def dcW (g : MG) (t : MT) (kx vx : ME) (lw : Ls) (w : Wk) : Nat → Nat → List (Key × D) → Cs → R (List (Key × D))
  | 0, _, _, _ => .stuck
  | n + 1, i, acc, c => match w i c with
    | none => .stuck
    | some none => .ok acc c
    | some (some d) => (g d lw c).nox.bind fun l1 c1 => (t l1 c1).nox.bind fun k c2 => match k with
      | true => (kx l1 c2).nox.bind fun y c3 => (vx l1 c3).nox.bind fun z c4 => match keyOf y with
        | some k => if acc.length < sizeLine then dcW g t kx vx lw w n (i + 1) (putKD acc k z) c4 else .stuck
        | none => .stuck
      | false => dcW g t kx vx lw w n (i + 1) acc c2
def mDc (it : MK) (js : List Nat) (g : MG) (t : MT) (kx vx : ME) : ME := fun l c => (it l c).bind fun w c1 => (dcW g t kx vx (wipeL l js) w fuelW 0 [] c1).bind fun xs c2 => .ok (.ref c2.length) (c2 ++ [Cell.dct xs])
theorem dc_read {K : PySem.W.Frag} {W : WX} {fi : MK} {g : MG} {ft : MT} {fk fv : ME} {js : List Nat} {g0 : TG} (good : Good g0 js) (rg : ∀ v σ H Q, rdG K W0 g v σ H Q → g0 v σ H Q) {σ : St} {H : Hp} {Q : VK} (h : rdE K W (mDc fi js g ft fk fv) σ H Q) :
    tDc (rdK K W fi) g0 (rdT K W0 ft) (rdE K W0 fk) (rdE K W0 fv) js σ H Q := by
  obtain ⟨I, m, l, c, R, L, A⟩ := h
  refine ⟨I, m, l, c, R, L, After.mono (After.bind (rep := rW K) A) fun J H1 ⟨I1, m1, c1, w, E1, R1, w1, A1⟩ => ?_⟩
  intro Dn hD
  have nI := R1.same.free hD
  have nm := R1.fresh hD
  have asc : ∀ {α β γ : Type} (r : Mi.R α) (f : α → Cs → Mi.R β) (h : β → Cs → Mi.R γ), (r.bind f).bind h = r.bind fun a c => (f a c).bind h := fun r f h => by cases r <;> rfl
  refine ⟨fun i n H => ∃ I' m' c' acc vs, Ext I1 m1 H1 I' m' H ∧ Rel K I' H m' c' ∧ RepK K I' m' vs acc ∧ H Dn = some (.dK vs) ∧ I' Dn = none ∧ Dn ∉ m' ∧
    After (rD K) K I1 m1 H1 (fun cls dd H' => W cls dd σ H') Q ((dcW g ft fk fv (wipeL l js) w n i acc c').bind fun xs c2 => .ok (.ref c2.length) (c2 ++ [Cell.dct xs])),
    ⟨_, I1, m1, c1, [], [], ⟨Same.refl _, Pre.refl _, fun b o h1 hT h2 h3 => ⟨by rw [upd_ne (ne_of_none h1 hD)]; exact h1, h2, h3⟩⟩, R1.sideO (fun x z => by rw [hD] at z; cases z) (fun o z => by rw [hD] at z; first | (cases z; done) | (cases z; exact ⟨(fun _ q => nomatch q), (fun _ q => nomatch q)⟩)) nI nm, .nil, upd_same, nI, nm, A1⟩, ?_⟩
  rintro i n H' ⟨I', m', c', acc, vs, E', R', p', hH', hI', hm', A'⟩
  obtain ⟨wg, ws⟩ := w1 i I' H' m' c' E'.same E'.pre R'
  cases n with
  | zero => exact A'.elim
  | succ n =>
    have A' : After (rD K) K I1 m1 H1 (fun cls dd H' => W cls dd σ H') Q ((match w i c' with
      | none => .stuck
      | some none => .ok acc c'
      | some (some d) => (g d (wipeL l js) c').nox.bind fun l1 c1 => (ft l1 c1).nox.bind fun k c2 => match k with
        | true => (fk l1 c2).nox.bind fun y c3 => (fv l1 c3).nox.bind fun z c4 => match keyOf y with
          | some k => if acc.length < sizeLine then dcW g ft fk fv (wipeL l js) w n (i + 1) (putKD acc k z) c4 else .stuck
          | none => .stuck
        | false => dcW g ft fk fv (wipeL l js) w n (i + 1) acc c2 : Mi.R (List (Key × D))).bind fun xs c2 => .ok (.ref c2.length) (c2 ++ [Cell.dct xs])) := A'
    cases q : w i c' with
    | none => rw [q] at A'; exact A'.elim
    | some od =>
      rw [q] at A'
      cases od with
      | none =>
        refine .inl ⟨ws q, ?_⟩
        have RP : Rel K I' H' (m' ++ [Dn]) (c' ++ [.dct acc]) := R'.adoptC hm' hI' (fun x z => by rw [hH'] at z; cases z) (fun o z => by rw [hH'] at z; first | (cases z; done) | (cases z; exact ⟨(fun _ q => nomatch q), (fun _ q => nomatch q)⟩)) ⟨hI', vs, hH', p'.mono (Same.refl _) (pre_app m' Dn)⟩
        refine A' I' (m' ++ [Dn]) H' (.ref Dn) ⟨E'.same, E'.pre.trans (pre_app m' Dn), fun b o h1 hT h2 h3 => ?_⟩ RP (Rep.ref ?_)
        · obtain ⟨q1, q2, q3⟩ := E'.fr b o h1 hT h2 h3
          exact ⟨q1, q2, fun hm => (List.mem_append.mp hm).elim q3 fun hm => ne_of_none h1 hD (List.mem_singleton.mp hm)⟩
        · rw [← R'.len, List.getElem?_append_right (Nat.le_refl _), Nat.sub_self]
          rfl
      | some d =>
        obtain ⟨go, yl⟩ := wg d q
        refine .inr ⟨go, fun H2 => ∃ I2 m2 c2 acc2 vs2, Ext I1 m1 H1 I2 m2 H2 ∧ Rel K I2 H2 m2 c2 ∧ RepK K I2 m2 vs2 acc2 ∧ H2 Dn = some (.dK vs2) ∧ I2 Dn = none ∧ Dn ∉ m2 ∧
          After (rD K) K I1 m1 H1 (fun cls dd H' => W cls dd σ H') Q ((dcW g ft fk fv (wipeL l js) w n (i + 1) acc2 c2).bind fun xs c2 => .ok (.ref c2.length) (c2 ++ [Cell.dct xs])),
          fun H2 ⟨I2, m2, c2, acc2, vs2, e2, r2, pp2, h2, i2, n2, a2⟩ => ⟨n, Nat.lt_succ_self n, I2, m2, c2, acc2, vs2, e2, r2, pp2, h2, i2, n2, a2⟩, fun x H3 y => ?_⟩
        obtain ⟨I3, E3, R3, p3⟩ := yl x H3 y
        have Lw := ((locs_wipe L js).ext E1).ext (E'.trans E3)
        have A3 : After (rD K) K I1 m1 H1 (fun cls dd H' => W cls dd σ H') Q (((g d (wipeL l js) c').nox.bind fun l1 c1 => (ft l1 c1).nox.bind fun k c2 => match k with
          | true => (fk l1 c2).nox.bind fun y c3 => (fv l1 c3).nox.bind fun z c4 => match keyOf y with
            | some k => if acc.length < sizeLine then dcW g ft fk fv (wipeL l js) w n (i + 1) (putKD acc k z) c4 else .stuck
            | none => .stuck
          | false => dcW g ft fk fv (wipeL l js) w n (i + 1) acc c2).bind fun xs c2 => .ok (.ref c2.length) (c2 ++ [Cell.dct xs])) := A'
        rw [asc] at A3
        refine good x σ H3 _ (rg _ _ _ _ ⟨I3, m', wipeL l js, c', d, R3, Lw, p3, After.mono (After.nox (After.bindAt (rep := rL K) A3 (E'.trans E3))) fun σ4 H4 ⟨I4, m4, c4, l4, E4, R4, L4, A4⟩ => ?_⟩)
        rw [asc] at A4
        have EE := (E'.trans E3).trans E4
        refine ⟨I4, m4, l4, c4, R4, L4, After.mono (After.nox (After.bindAt (rep := rB) A4 EE)) fun b H5 ⟨I5, m5, c5, b5, E5, R5, p5, A5⟩ => ?_⟩
        cases (show b = b5 from p5)
        have F5 := (E3.trans E4).trans E5
        cases b with
        | false =>
          obtain ⟨f1, f2, f3⟩ := F5.fr _ _ hH' ⟨(fun _ z => nomatch z), (fun _ z => nomatch z)⟩ hI' hm'
          exact iteF ⟨I5, m5, c5, acc, vs, EE.trans E5, R5, p'.mono F5.same F5.pre, f1, f2, f3, A5⟩
        | true =>
          have A6 : After (rD K) K I1 m1 H1 (fun cls dd H' => W cls dd σ H') Q (((fk l4 c5).nox.bind fun y c3 => (fv l4 c3).nox.bind fun z c4 => match keyOf y with
            | some k => if acc.length < sizeLine then dcW g ft fk fv (wipeL l js) w n (i + 1) (putKD acc k z) c4 else .stuck
            | none => .stuck).bind fun xs c2 => .ok (.ref c2.length) (c2 ++ [Cell.dct xs])) := A5
          rw [asc] at A6
          have L4' : Locs K I4 m4 σ4 l4 := L4
          refine iteT ⟨I5, m5, l4, c5, R5, L4'.ext E5, After.mono (After.nox (After.bindAt (rep := rD K) A6 (EE.trans E5))) fun y6 H6 ⟨I6, m6, c6, d6, E6, R6, p6, A7⟩ => ?_⟩
          rw [asc] at A7
          refine ⟨I6, m6, l4, c6, R6, (L4'.ext E5).ext E6, After.mono (After.nox (After.bindAt (rep := rD K) A7 ((EE.trans E5).trans E6))) fun z H7 ⟨I7, m7, c7, d7, E7, R7, p7, A8⟩ => ?_⟩
          have F7 := (F5.trans E6).trans E7
          obtain ⟨f1, f2, f3⟩ := F7.fr _ _ hH' ⟨(fun _ z => nomatch z), (fun _ z => nomatch z)⟩ hI' hm'
          have A8 : After (rD K) K I1 m1 H1 (fun cls dd H' => W cls dd σ H') Q ((match keyOf d6 with
            | some k => if acc.length < sizeLine then dcW g ft fk fv (wipeL l js) w n (i + 1) (putKD acc k d7) c7 else .stuck
            | none => .stuck).bind fun xs c2 => .ok (.ref c2.length) (c2 ++ [Cell.dct xs])) := A8
          cases qk : keyOf d6 with
          | none => rw [qk] at A8; exact A8.elim
          | some k =>
            rw [qk] at A8
            have hy := keyOf_at p6 qk
            have A9 : After (rD K) K I1 m1 H1 (fun cls dd H' => W cls dd σ H') Q ((if acc.length < sizeLine then dcW g ft fk fv (wipeL l js) w n (i + 1) (putKD acc k d7) c7 else .stuck).bind fun xs c2 => .ok (.ref c2.length) (c2 ++ [Cell.dct xs])) := A8
            by_cases hz : acc.length < sizeLine
            · rw [if_pos hz] at A9
              refine ⟨vs, k, hy, f1, by rw [p'.length]; exact hz, I7, m7, c7, putKD acc k d7, putK vs k z, ?_, R7.sideO (fun x z => by rw [f1] at z; cases z) (fun o z => by rw [f1] at z; first | (cases z; done) | (cases z; exact ⟨(fun _ q => nomatch q), (fun _ q => nomatch q)⟩)) f2 f3, RepK.put p7 (p'.mono F7.same F7.pre), upd_same, f2, f3, A9⟩
              have G := ((EE.trans E5).trans E6).trans E7
              refine ⟨G.same, G.pre, fun b o h1 hT h2 h3 => ?_⟩
              obtain ⟨q1, q2, q3⟩ := G.fr b o h1 hT h2 h3
              exact ⟨by rw [upd_ne (ne_of_none h1 hD)]; exact q1, q2, q3⟩
            · rw [if_neg hz] at A9
              exact A9.elim
section
variable {X : Cx} {fa : ME}
theorem ps_setDc {i : Nat} {y : Str} {py : Pos} {kx vx tg iter : Expr} {ifs : List Expr} {scope : Scope} {own : List (Str × Nat)} {pos spos : Pos} {wi : TI} {g : TG} {tt : TT} {tk tv : TE} (hc : X.calm = true) (hN : X.N.Nodup) (hy : X.N[i]? = some y) (hyl : X.env.scope.names.lookup y = some .local)
    (hsw : swapsWith (.DictComp kx vx [⟨tg, iter, ifs, 0⟩] scope pos) (some (.Name y py)) spos.line X.env = pure true) (hi : PI X tg iter wi) (ok : BlkOk X.N X.env.scope scope own)
    (hg : ∀ (s : Shared) (H : Hp) (C : Addr) (cl : List (Str × Addr)) (fp : List Addr), PG (X.blk s H scope (compEnvC scope cl C X.env) fp) tg g) (ht : ∀ (s : Shared) (H : Hp) (C : Addr) (cl : List (Str × Addr)) (fp : List Addr), PTs (X.blk s H scope (compEnvC scope cl C X.env) fp) ifs tt)
    (hk : ∀ (s : Shared) (H : Hp) (C : Addr) (cl : List (Str × Addr)) (fp : List Addr), PE (X.blk s H scope (compEnvC scope cl C X.env) fp) kx tk)
    (he : ∀ (s : Shared) (H : Hp) (C : Addr) (cl : List (Str × Addr)) (fp : List Addr), PE (X.blk s H scope (compEnvC scope cl C X.env) fp) vx tv) (hs : ∀ x, foldedSetIterable iter X.env x = pure x := by intro _; rfl) :
    PS X (.Assign [.Name y py] (.DictComp kx vx [⟨tg, iter, ifs, 0⟩] scope pos) spos) (tAsg (tDc wi g tt tk tv (own.map (·.2))) (gName i)) := by
  refine ⟨fun pins s σ H D I h => ?_⟩
  rw [exec_Assign_Name_used _ _ _ _ hsw]
  refine wpAny_bind (wpAny_standAt (wpAny_bind ?_))
  show wpAny _ X.A (do let _ ← comprehension (.DictComp kx vx [⟨tg, iter, ifs, 0⟩] scope pos) scope X.env (firstIterPos [⟨tg, iter, ifs, 0⟩] pos) newDict false (eval iter X.env) (some (assign (.Name y py) X.env))) _ _ s
  have h : tDc wi g tt tk tv (own.map (·.2)) σ H (fun x H1 => gName i x σ H1 D.nx) := h
  refine wpAny_bind (thn (dc_core (Qf := fun _ s' => SP X pins D .next s') hc hN I hi ok hg ht hk he hs h fun L C s' m H' I' q hn f => ?_) fun _ s' hq => wpAny_pure (wpAny_pure hq))
  show wpAny _ _ (assign (.Name y py) X.env (.ref L)) _ _ _
  refine wpAny_assign_Name (store_ok2 (v := V.ref L) I' hN hy (.inl hyl) rfl (fun s2 I2 ⟨a, sb, ha⟩ => ?_) (.inr hyl))
  obtain ⟨f0, f1, f2, f3, f4, f5⟩ := f
  have haC : C ≠ a := by
    rcases ha with z | z
    · rw [z]; exact f1
    · exact fun e => f4 y a z e.symm
  refine ⟨m, hn.sameBut sb haC, fun h3 sb3 => ?_⟩
  exact ⟨_, H', I2.turned (t' := s2.toks) (fun b o hb e => (sb3.2 b hb).trans e) f0 f1 f3 f4 f5, q⟩
theorem sw_trueD {kx vx : Expr} {gs : List Comprehension} {scope : Scope} {pos py : Pos} {y : Str} {l : Nat} {env : Env} (hk : env.scope.kind = .function) (hy : env.scope.names.lookup y = some .local) (hl : (py.line == pos.line) = true)
    (ha : (scope.names.any fun (n, k) => n == y && (k == .local || k == .cell)) = false) : swapsWith (.DictComp kx vx gs scope pos) (some (.Name y py)) l env = pure true := by
  have ky : env.kindOf y = some .local := hy
  have hb : env.blockKind = .function := by unfold Env.blockKind; rw [hk]; rfl
  unfold swapsWith
  simp only [hb, ky, ha, Expr.pos, hl]
  rfl
end
end L2.Mi

/-! the signs of a shown value -/
namespace L2.Mi
open PySem PySem.Spec PyProof.Rows L2 PySem.StrLaws PySem.Builtin.Str
def CpOk (s : Str) : Prop := ∀ k ∈ s.cps.toList, k < 1114112
theorem cpok_app {a b : Str} (ha : CpOk a) (hb : CpOk b) : CpOk (a ++ b) := fun k hk => by
  rcases mem_cps_append.mp hk with h | h
  · exact ha k h
  · exact hb k h
theorem char_cp (c : Char) : c.toNat < 1114112 := by
  have := c.valid
  unfold UInt32.isValidChar Nat.isValidChar at this
  show c.val.toNat < 1114112
  omega
theorem cpok_of (s : String) : CpOk (Str.ofString s) := fun k hk => by
  rw [signs_ofString] at hk
  obtain ⟨c, _, rfl⟩ := List.mem_map.mp hk
  exact char_cp c
theorem hex_cp {n : Nat} {l : List Char} : ∀ k ∈ List.replicate n 48 ++ l.map Char.toNat, k < 1114112 := fun k hk => by
  rcases List.mem_append.mp hk with h | h
  · rw [(List.mem_replicate.mp h).2]; decide
  · obtain ⟨c, _, rfl⟩ := List.mem_map.mp h
    exact char_cp c
theorem two_cp {a b : Nat} (ha : a < 1114112) (hb : b < 1114112) : ∀ k ∈ [a, b], k < 1114112 := fun k hk => by
  simp only [List.mem_cons, List.not_mem_nil, or_false] at hk
  rcases hk with rfl | rfl
  · exact ha
  · exact hb
theorem reprChar_cp {q c : Nat} (hc : c < 1114112) : ∀ k ∈ reprChar q c, k < 1114112 := by
  have ap : ∀ {a b : Nat} {l : List Nat}, a < 1114112 → b < 1114112 → (∀ k ∈ l, k < 1114112) → ∀ k ∈ [a, b] ++ l, k < 1114112 := fun ha hb hl k hk => by
    rcases List.mem_append.mp hk with h | h
    · exact two_cp ha hb k h
    · exact hl k h
  unfold reprChar
  dsimp only
  repeat' split
  · exact two_cp (by decide) hc
  · exact two_cp (by decide) (by decide)
  · exact two_cp (by decide) (by decide)
  · exact two_cp (by decide) (by decide)
  · intro k hk; rw [List.mem_singleton.mp hk]; exact hc
  · exact ap (by decide) (by decide) hex_cp
  · exact ap (by decide) (by decide) hex_cp
  · exact ap (by decide) (by decide) hex_cp
theorem foldl_repr_cp {q : Nat} : ∀ (l : List Nat) (acc : Array Nat), (∀ c ∈ l, c < 1114112) → (∀ k ∈ acc.toList, k < 1114112) → ∀ k ∈ (l.foldl (fun out c => out ++ (reprChar q c).toArray) acc).toList, k < 1114112
  | [], acc, _, h => h
  | c :: r, acc, h, ha => by
    simp only [List.foldl_cons]
    refine foldl_repr_cp r _ (fun d hd => h d (List.mem_cons_of_mem _ hd)) fun k hk => ?_
    rw [Array.toList_append] at hk
    rcases List.mem_append.mp hk with z | z
    · exact ha k z
    · exact reprChar_cp (h c List.mem_cons_self) k z
theorem reprText_cp {x : Str} (hx : CpOk x) : CpOk (reprText x) := fun k hk => by
  have hq : reprQuote x < 1114112 := by unfold reprQuote; split <;> decide
  have hk : k ∈ ((x.cps.foldl (fun out c => out ++ (reprChar (reprQuote x) c).toArray) #[reprQuote x]).push (reprQuote x)).toList := hk
  rw [Array.toList_push, ← Array.foldl_toList] at hk
  rcases List.mem_append.mp hk with z | z
  · refine foldl_repr_cp _ _ hx (fun k hk => ?_) k z
    rw [show (#[reprQuote x] : Array Nat).toList = [reprQuote x] from rfl, List.mem_singleton] at hk
    rw [hk]; exact hq
  · rw [List.mem_singleton.mp z]; exact hq
theorem textFrom_cp : ∀ (ts : List Str) (k : Nat) (acc : Str), CpOk acc → (∀ t ∈ ts, CpOk t) → CpOk (textFrom k acc ts)
  | [], _, _, h, _ => h
  | t :: ts, k, acc, h, h2 => textFrom_cp ts (k + 1) _ (cpok_app (cpok_app h (by split <;> exact cpok_of _)) (h2 t List.mem_cons_self)) fun u hu => h2 u (List.mem_cons_of_mem _ hu)
theorem join_cp {sep : Str} {ts : List Str} (hs : CpOk sep) (h : ∀ t ∈ ts, CpOk t) : CpOk (Str.join sep ts) := fun k hk => by
  rcases (mem_join sep k ts).mp hk with ⟨t, ht, hk⟩ | ⟨_, hk⟩
  · exact h t ht k hk
  · exact hs k hk
mutual
theorem shown_cp : ∀ p : PyData, bP p = true → CpOk p.shown
  | .none, _ => cpok_of _
  | .bool b, _ => by cases b <;> exact cpok_of _
  | .int i, _ => cpok_of _
  | .str s, h => reprText_cp fun k hk => of_decide_eq_true (List.all_eq_true.mp (show (s.cps.toList.all fun k => decide (k < 1114112)) = true from h) k hk)
  | .list xs, h => cpok_app (textFrom_cp _ _ _ (cpok_of _) (shownAll_cp xs h)) (cpok_of _)
  | .tuple xs, h => cpok_app (cpok_app (cpok_of _) (join_cp (cpok_of _) (shownAll_cp xs h))) (by split <;> exact cpok_of _)
  | .dict kvs, h => cpok_app (cpok_app (cpok_of _) (join_cp (cpok_of _) (shownKv_cp kvs h))) (cpok_of _)
theorem shownAll_cp : ∀ ps : List PyData, bPs ps = true → ∀ t ∈ PyData.shownAll ps, CpOk t
  | [], _, t, ht => nomatch ht
  | p :: ps, h, t, ht => by
    simp only [bPs, Bool.and_eq_true] at h
    rcases List.mem_cons.mp ht with rfl | ht
    · exact shown_cp p h.1
    · exact shownAll_cp ps h.2 t ht
theorem shownKv_cp : ∀ ps : List (PyData × PyData), bPk ps = true → ∀ t ∈ PyData.shownKv ps, CpOk t
  | [], _, t, ht => nomatch ht
  | (k, v) :: ps, h, t, ht => by
    simp only [bPk, Bool.and_eq_true] at h
    rcases List.mem_cons.mp ht with rfl | ht
    · exact cpok_app (cpok_app (shown_cp k h.1.1) (cpok_of _)) (shown_cp v h.1.2)
    · exact shownKv_cp ps h.2 t ht
end
end L2.Mi

namespace L2.Mi
open PySem PySem.Spec PyProof.Rows L2
/-! plain reasoning, third part: what the walker uses -/
section
variable {α : Type} {g : MG} {t : MT} {a e : ME} {js : List Nat} {l : Ls} {c : Cs} {Q : D → Cs → Prop}
theorem iLst_of {ds : List D} (h : a l c = .ok (.lst ds) c) : iLst a l c = .ok ds c := by
  unfold iLst
  rw [h]
  rfl
/-- [e for x in list if t] -/
theorem ok_LT (xs : List α) (enc F : α → D) (P : α → Bool) (hl : xs.length ≤ 1000000) (ha : Ok (a l c) fun d c1 => d = .lst (xs.map enc) ∧ c1 = c)
    (h : ∀ x ∈ xs, Ok (g (enc x) (wipeL l js) c) fun l1 c1 => c1 = c ∧ Ok (t l1 c) fun k c2 => k = P x ∧ c2 = c ∧ (P x = true → Ok (e l1 c) fun d c3 => d = F x ∧ c3 = c))
    (q : Q (.lst ((xs.filter P).map F)) c) : Ok (mLc (iLst a) js g t e l c) Q := by
  have hit := iLst_of ha.eq
  exact ok_mlc hit (by rw [List.length_map]; exact hl) (ok_lcT xs enc F P hl (ok_kfix hit ⟨rfl, fun _ _ => rfl⟩) h q)
theorem ok_WT (xs : List α) (enc F : α → D) (P : α → Bool) (hl : xs.length ≤ 1000000) (ha : Ok (a l c) fun x c1 => c1 = c ∧ treeSeq x = some (xs.map enc))
    (h : ∀ x ∈ xs, Ok (g (enc x) (wipeL l js) c) fun l1 c1 => c1 = c ∧ Ok (t l1 c) fun k c2 => k = P x ∧ c2 = c ∧ (P x = true → Ok (e l1 c) fun d c3 => d = F x ∧ c3 = c))
    (q : Q (.lst ((xs.filter P).map F)) c) : Ok (mLcW (kAny a) js g t e l c) Q :=
  ok_lcT xs enc F P hl (ok_ktree ha) h q
theorem ok_WY (xs : List α) (enc F : α → D) (hl : xs.length ≤ 1000000) (ha : Ok (a l c) fun x c1 => c1 = c ∧ treeSeq x = some (xs.map enc))
    (h : ∀ x ∈ xs, Ok (g (enc x) (wipeL l js) c) fun l1 c1 => c1 = c ∧ Ok (e l1 c) fun d c3 => d = F x ∧ c3 = c)
    (q : Q (.lst (xs.map F)) c) : Ok (mLcW (kAny a) js g tYesM e l c) Q :=
  ok_lcY xs enc F hl (ok_ktree ha) h q
end
theorem mapO_ints (n : Nat) (c : Cs) : ∀ is : List Int, mapO (toPyC (n + 1) c) (is.map D.int) = some (is.map PyData.int)
  | [] => rfl
  | i :: is => by
    rw [List.map_cons]
    unfold mapO
    rw [mapO_ints n c is]
    rfl
end L2.Mi

/-! lambdas of one parameter that their bodies do not read, handed to a def that calls them -/
namespace LamY
open PySem PySem.Spec PyProof.Rows L2 LamX
/-- one parameter; captured names and globals -/
structure LamS1 (sc scope : Scope) (par : Str) : Prop where
  kind : scope.kind = .function
  co : scope.isCoroutine = false
  gen : scope.isGenerator = false
  parl : scope.names.lookup par = some .local
  own : ∀ y ∈ scope.names, (y.2 = .local → y.1 = par) ∧ y.2 ≠ .cell
  free : ∀ y ∈ scope.names, y.2 = .free → sc.names.lookup y.1 = some .cell ∨ sc.names.lookup y.1 = some .free
def lamS1B (sc scope : Scope) (par : Str) : Bool :=
  decide (scope.kind = .function) && !scope.isCoroutine && !scope.isGenerator && decide (scope.names.lookup par = some .local) && scope.names.all fun y => (!decide (y.2 = .local) || decide (y.1 = par)) && !decide (y.2 = .cell) && (!decide (y.2 = .free) || decide (sc.names.lookup y.1 = some .cell) || decide (sc.names.lookup y.1 = some .free))
theorem lamS1_by {sc scope : Scope} {par : Str} (h : lamS1B sc scope par = true) : LamS1 sc scope par := by
  unfold lamS1B at h
  simp only [Bool.and_eq_true, Bool.or_eq_true, Bool.not_eq_true', decide_eq_true_eq, decide_eq_false_iff_not, List.all_eq_true] at h
  obtain ⟨⟨⟨⟨h1, h2⟩, h3⟩, h5⟩, h4⟩ := h
  refine ⟨h1, h2, h3, h5, fun y hy => ⟨fun e => ?_, (h4 y hy).1.2⟩, fun y hy e => ?_⟩
  · rcases (h4 y hy).1.1 with z | z
    · exact absurd e z
    · exact z
  · rcases (h4 y hy).2 with (z | z) | z
    · exact absurd e z
    · exact .inl z
    · exact .inr z
theorem LamS1.has {X : Cx} {scope : Scope} {par : Str} (L : LamS1 X.env.scope scope par) (ok : X.Ok) : ∀ y ∈ scope.names, y.2 = .free → ∃ c, X.env.cells.lookup y.1 = some c := fun y hy e => by
  rcases L.free y hy e with k | k
  · exact ok.has _ (.inl k)
  · exact ok.has _ (.inr k)
section
variable {X : Cx} {pins : List (Addr × Obj)} {σ : L2.St} {H HZ : Hp} {s s1 : Shared}
/-- the lambda is made; what stood stays, but for the table -/
theorem lam_make3 {T : List (Addr × Str)} {c P : Addr} {params : Arguments} {body : Expr} {scope : Scope} {pos : Pos} {E : Value → Shared → Prop} {Q : Value → Shared → Prop} (I : Inv X pins σ H s) (TB : TabB X.base X.mg c P) (hcode : X.env.code = .ref c)
    (hm : (P, X.env.qual ++ "<lambda>") ∈ T) (hu : ∀ p ∈ T, p.1 = P → p.2 = X.env.qual ++ "<lambda>") (hT : Tabs T H) (hdef : defaultsOf params X.env = ([], [])) (hfree : ∀ y ∈ scope.names, y.2 = .free → ∃ c, X.env.cells.lookup y.1 = some c)
    (h : ∀ (f c' : Addr) (pm ctv : Value) (H1 : Hp) (s' : Shared), Inv X pins σ H1 s' → (∀ b o, b ≠ P → H b = some o → H1 b = some o) → Tabs T H1 →
      s'.heap.get? f = some (PySem.W.kla_obj "<lambda>" (X.env.qual ++ "<lambda>") params body scope (cloFrom X.env.cells scope.names []) pm c' ctv) → H1 f = none → f ∉ frs X.stack → H1 c' = some (CodeO c' (X.env.qual ++ "<lambda>")) → Q (.ref f) s') :
    wpAny (model X.prog X.w) X.A (eval (.Lambda params body scope pos) X.env) Q E s := by
  obtain ⟨ps, hP, ht, ha⟩ := hT _ hm
  refine PySem.W.kla_eval hdef ?_
  have bP : s.heap.BuiltinsAt X.mg P := TB.bm.keeps I.bk
  have hP' : s.heap.get? P = some { cls := .none, data := .fields ps } := I.hok P _ hP
  have nofr : ∀ f, s.heap.objs.size ≤ f → f ∉ frs X.stack := fun f hf z => by
    rcases List.mem_cons.mp (I.stkSub _ z) with e | e
    · have h1 := I.lt
      rw [← e] at h1
      exact Nat.lt_irrefl _ (Nat.lt_of_lt_of_le h1 hf)
    · exact I.nofs hf e
  cases hc : codeAmong pos ps.toList with
  | none =>
    refine PySem.W.kla_makeFunction (mg := X.mg) (c := c) (P := P) (ps := ps) (closure_ok hfree) I.ok.glob (I.mod.glob.keeps I.bk) hcode (TB.code.keeps I.bk) hP' ht hc TB.gP bP fun c' ctv h' tk hx hge hlt hrec htb => ?_
    obtain ⟨c2, oc, vs, t, e2, hoc, hd, hv⟩ := hrec
    cases e2
    have hsz : s.heap.objs.size ≤ h'.objs.size := Nat.le_trans hge (Nat.le_of_lt hlt)
    have nC : H c' = none := I.hok.fresh hge
    have I1 := inv_table (t' := tk) (more := #[rawInt pos.line, rawInt pos.col, .ref c']) (h' := h'.push (PySem.W.kla_obj "<lambda>" (X.env.qual ++ "<lambda>") params body scope (cloFrom X.env.cells scope.names []) ((X.mg "__name__").getD .none) c' ctv)) I hP
      (fun b o hb e => Heap.get?_push_of_some _ (hx b o hb e)) (Heap.get?_push_of_some _ htb) hge ⟨oc, vs, t, Heap.get?_push_of_some _ hoc, hd, hv⟩
    have hE : ∀ b o, b ≠ P → H b = some o → upd (upd H P (.tbl (ps ++ #[rawInt pos.line, rawInt pos.col, .ref c']))) c' (CodeO c' (X.env.qual ++ "<lambda>")) b = some o := fun b o n e => by
      rw [upd_ne (ne_of_none e nC), upd_ne n]
      exact e
    have hE2 : ∀ b o, H b = some o → (∀ ps, o ≠ .tbl ps) → upd (upd H P (.tbl (ps ++ #[rawInt pos.line, rawInt pos.col, .ref c']))) c' (CodeO c' (X.env.qual ++ "<lambda>")) b = some o := fun b o e n =>
      hE b o (fun z => n ps (Option.some.inj (e.symm.trans (by rw [z]; exact hP)))) e
    have eL : (ps ++ #[rawInt pos.line, rawInt pos.col, .ref c']).toList = ps.toList ++ [rawInt pos.line, rawInt pos.col, .ref c'] := by simp
    refine h h'.objs.size c' ((X.mg "__name__").getD .none) ctv _ _ I1 hE (fun p hp => ?_) (Heap.get?_push_size _ rfl) ?_ (nofr _ hsz) upd_same
    · by_cases hb : p.1 = P
      · rw [hu p hp hb, hb]
        refine ⟨_, by rw [upd_ne (ne_of_none hP nC), upd_same], by rw [eL]; exact PySem.TriplesOk_snoc _ _ _ _ ht, fun p' cv hcv => ?_⟩
        rw [eL] at hcv
        rcases among_app _ ht hcv with z | z
        · obtain ⟨c0, e1, e2⟩ := ha p' cv z
          exact ⟨c0, e1, hE2 _ _ e2 codeO_ne⟩
        · exact ⟨c', z, upd_same⟩
      · obtain ⟨ps', a1, a2, a3⟩ := hT p hp
        refine ⟨ps', by rw [upd_ne (ne_of_none a1 nC), upd_ne hb]; exact a1, a2, fun p' cv hcv => ?_⟩
        obtain ⟨c0, e1, e2⟩ := a3 p' cv hcv
        exact ⟨c0, e1, hE2 _ _ e2 codeO_ne⟩
    · have n1 : h'.objs.size ≠ c' := Nat.ne_of_gt hlt
      have n2 : h'.objs.size ≠ P := Nat.ne_of_gt (Nat.lt_of_lt_of_le (Heap.lt_size hP') hsz)
      rw [upd_ne n1, upd_ne n2]
      exact I.hok.fresh hsz
  | some cv =>
    obtain ⟨c', e, hco⟩ := ha pos cv hc
    subst e
    refine PySem.W.kla_makeFunctionHit (mg := X.mg) (c := c) (P := P) (ps := ps) (closure_ok hfree) I.ok.glob (I.mod.glob.keeps I.bk) hcode (TB.code.keeps I.bk) hP' ht hc bP fun ctv h' tk hx hsz => ?_
    have I1 : Inv X pins σ H { s with heap := h'.push (PySem.W.kla_obj "<lambda>" (X.env.qual ++ "<lambda>") params body scope (cloFrom X.env.cells scope.names []) ((X.mg "__name__").getD .none) c' ctv), toks := tk } := I.kept fun b o e => Heap.get?_push_of_some _ (hx b o e)
    exact h h'.objs.size c' ((X.mg "__name__").getD .none) ctv H _ I1 (fun b o _ e => e) hT (Heap.get?_push_size _ rfl) (I.hok.fresh hsz) (nofr _ hsz) hco
theorem lam_start3 {A : Around} {outer : List Env} {E : XK} {scope : Scope} {par : Str} {f c' : Addr} {h₁ : Heap} {tk : Nat} {u : Value} (I : Inv X pins σ H s) (L : LamS1 X.env.scope scope par) (hN : ∀ (i : Nat) (v : V), X.N[i]? = some par → σ[i]? ≠ some (some v)) (e0 : Env0 X.prog X.w X.K X.mg X.base A outer s1 HZ) (hd : A.handled = none)
    (un : Un (frs X.stack) [] H HZ s.heap s1.heap) (hns : h₁.Ns s1.heap.objs.size fun y => ([(par, u)] : List (Str × Value)).reverse.lookup y) (kp : ∀ b o, s1.heap.get? b = some o → h₁.get? b = some o) :
    Inv (lamCx X A outer s1 HZ E scope f c') [] σ HZ { s1 with heap := h₁, toks := tk } := by
  have hfree := L.has I.ok
  have cm : ∀ {y c}, (cloFrom X.env.cells scope.names []).lookup y = some c → X.env.cells.lookup y = some c := fun {y c} e => by
    rcases cloFrom_mem (PySem.mem_of_lookup e) with hm | ⟨h1, h2⟩
    · cases hm
    · obtain ⟨c1, hc⟩ := hfree _ h1 rfl
      have hc : X.env.cells.lookup y = some c1 := hc
      have e2 : c = c1 := by
        rw [h2, hc] <;> rfl
      rw [e2]
      exact hc
  have look : ∀ {y}, scope.names.lookup y = some .free → ∃ c, (cloFrom X.env.cells scope.names []).lookup y = some c := fun {y} hl => by
    have hy : (y, NameKind.free) ∈ scope.names := PySem.mem_of_lookup hl
    exact mem_lookup (cloFrom_has (cells := X.env.cells) (acc := []) hy)
  have cellK : ∀ {c : Addr} {v : Option Value}, H c = none → s.heap.IsCell c v → h₁.IsCell c v := fun {c v} n ⟨o, ho, hd⟩ => by
    obtain ⟨sl, q⟩ := un.any ho n (by simp)
    exact ⟨_, kp _ _ q, hd⟩
  have noA : ∀ b : Addr, b ∉ (lamCx X A outer s1 HZ E scope f c').ex := fun b z => absurd (show b ∈ ([] : List Addr) from z) (by simp)
  refine ⟨⟨e0.mod, L.kind, rfl, rfl, Nat.le_refl _, fun y z c e1 e2 => I.ok.inj y z c (cm e1) (cm e2), fun y hy => ?_, fun y c z _ => ?_, fun _ => hd, Around.frames_deeper e0.frames, .inr ⟨rfl, rfl⟩, fun b z => absurd z (noA b), e0.bs, e0.bsz, fun b _ _ => noA b,
      fun b z => absurd z (noA b), e0.funs, e0.frf⟩,
    rfl, e0.bare, Un.kept kp, ⟨_, hns, fun i y v e1 e2 e3 => ?_⟩, fun y c e => ?_, e0.hok.fresh (Nat.le_refl _), fun y c e => ?_, fun q hq => absurd (show q ∈ ([] : List (Addr × Obj)) ++ [] from hq) (by simp), e0.hok.kept kp, I.len⟩
  · have hy : scope.names.lookup y = some .cell ∨ scope.names.lookup y = some .free := hy
    rcases hy with hy | hy
    · exact absurd rfl (L.own _ (PySem.mem_of_lookup hy)).2
    · exact look hy
  · have z : false = true := z
    cases z
  · have e3 : Vis scope y := e3
    have e1 : X.N[i]? = some y := e1
    rcases e3 with k | k | k
    · have := (L.own _ (PySem.mem_of_lookup k)).1 rfl
      exact absurd e2 (hN i v (this ▸ e1))
    · exact absurd rfl (L.own _ (PySem.mem_of_lookup k)).2
    · obtain ⟨m, hn, hl⟩ := I.loc
      have hvis : Vis X.env.scope y := (L.free _ (PySem.mem_of_lookup k) rfl).elim (fun k => .inr (.inl k)) (fun k => .inr (.inr k))
      obtain ⟨w', r, q⟩ := hl i y v e1 e2 hvis
      obtain ⟨c2, h2⟩ := look k
      refine ⟨w', r, .inr ⟨.inr k, c2, h2, ?_⟩⟩
      have c1 := cm h2
      rcases q with ⟨k', _⟩ | ⟨_, c3, e', z⟩
      · have k' : X.env.scope.names.lookup y = some .local := k'
        rcases L.free _ (PySem.mem_of_lookup k) rfl with k2 | k2 <;> rw [show X.env.scope.names.lookup y = _ from k2] at k' <;> cases k'
      · rw [c1] at e'
        cases e'
        exact cellK (I.freeC y _ c1) z
  · obtain ⟨w', z⟩ := I.cell y c (cm e)
    exact ⟨w', cellK (I.freeC y c (cm e)) z⟩
  · obtain ⟨v, o, ho, hd⟩ := I.cell y c (cm e)
    exact un.free c o ho (I.freeC y c (cm e)) (by simp)
/-- a(0), in the def that got the lambda: that def's context was entered at s -/
theorem pe_act1 {CXg : CXT} {Eg : XK} {Ng : List Str} {qg : Str} {sg : Scope} {g f c' : Addr} {cdg pm ctv : Value} {params : Arguments} {body : Expr} {scope : Scope} {par : Str} {k i : Nat} {a : Str} {pn : List (Addr × Obj)} {xe : Value → Shared → Prop} {W : WX} {t : XK → TE} {z : Int} {j : _} {p1 p2 p3 : Pos}
    (I : Inv X pins σ H s) (L : LamS1 X.env.scope scope par) (hNp : ∀ (i : Nat) (v : V), X.N[i]? = some par → σ[i]? ≠ some (some v)) (hf : s.heap.get? f = some (PySem.W.kla_obj "<lambda>" (X.env.qual ++ "<lambda>") params body scope (cloFrom X.env.cells scope.names []) pm c' ctv)) (hfn : H f = none) (hfr : f ∉ frs X.stack)
    (hbind : ∀ u : Value, bindArgs (PySem.W.kla_fn "<lambda>" (X.env.qual ++ "<lambda>") params body scope (cloFrom X.env.cells scope.names []) pm (.ref c') ctv) ⟨[u], []⟩ = pure [(par, u)])
    (tk : Takes ((cxOf CXg X.prog X.w X.K X.mg X.base Ng qg sg g cdg X.A X.stack s H Eg).tr pn xe) W) (hr : Room (k + 1) (X.A.deeper (envOfC qg sg s.heap.objs.size g cdg)))
    (hbody : ∀ (A : Around) (outer : List Env) (s : Shared) (H : Hp) (E : XK), Room k (A.deeper (lamEnv X scope s.heap.objs.size f c')) → A.guards = X.A.guards → PE (lamCx X A outer s H E scope f c') body (t E))
    (hN : Ng[i]? = some a) (hv : Vis sg a) (hd : (a == ("__debug__" : Str)) = false := by decide) (hcd : (a == ("__classdict__" : Str)) = false := by decide) :
    PE ((cxOf CXg X.prog X.w X.K X.mg X.base Ng qg sg g cdg X.A X.stack s H Eg).tr pn xe) (.Call (.Name a p1) [.Constant (.int z) j p3] [] p2)
      (fun σZ HZ Q => σZ[i]? = some (some (.ref f)) ∧ HZ c' = some (CodeO c' (X.env.qual ++ "<lambda>")) ∧ t (fun cls d H' => W cls d σZ H') σ HZ Q) := by
  refine ⟨fun pinsZ sZ σZ HZ Q IZ h => ?_⟩
  obtain ⟨hs, hc, ht⟩ := h
  refine wpAny_Call_Name_kw (thn ((pe_var (pos := p1) (i := i) hN hv hd hcd).run pinsZ sZ σZ HZ (fun v H1 => v = .ref f ∧ H1 = HZ) IZ ⟨.ref f, hs, rfl, rfl⟩) fun u s0 ⟨v, H1, I0, r1, q1⟩ => ?_)
  obtain ⟨ev, eH⟩ := q1
  subst ev
  rw [eH] at I0
  obtain rfl : u = Value.ref f := r1
  have of0 : s0.heap.get? f = some (PySem.W.kla_obj "<lambda>" (X.env.qual ++ "<lambda>") params body scope (cloFrom X.env.cells scope.names []) pm c' ctv) := I0.base.keep f _ hf hfn hfr (fun z => nomatch (show f ∈ ([] : List Addr) from z))
  refine PySem.W.callWith_F ⟨_, _, _, _, of0⟩ (thn ((pa_cons (pe_int (i := z) (j := j) (pos := p3)) pa_nil).run p2 pinsZ s0 σZ HZ (fun vs H1 => vs.length = 1 ∧ H1 = HZ) I0 ⟨rfl, rfl⟩) fun us s1 ⟨vs, H2, I1, r2, hlen, eH2⟩ => ?_)
  rw [eH2] at I1
  have of1 : s1.heap.get? f = some (PySem.W.kla_obj "<lambda>" (X.env.qual ++ "<lambda>") params body scope (cloFrom X.env.cells scope.names []) pm c' ctv) := I1.base.keep f _ hf hfn hfr (fun z => nomatch (show f ∈ ([] : List Addr) from z))
  refine ⟨⟨_, _, _, _, of1⟩, ?_⟩
  obtain ⟨uu, rfl⟩ : ∃ uu, us = [uu] := by
    have := r2.length
    rw [hlen] at this
    match us, this with
    | [uu], _ => exact ⟨uu, rfl⟩
  have un : Un (frs X.stack) [] H HZ s.heap s1.heap := I1.base
  obtain ⟨⟨oc, vs', tt, hoc, hdc, hvc⟩, _, _⟩ := I1.hok c' _ hc
  have rc : codeAny (model X.prog X.w) (X.A.deeper (envOfC qg sg s.heap.objs.size g cdg)) (.call (.ref f) ⟨[uu], []⟩) (CR (CX X.prog X.w) (envOfC qg sg s.heap.objs.size g cdg :: X.stack) X.prog X.w HZ s1 Q (fun cls d H' => W cls d σZ H')) s1 := by
    refine PySem.W.kla_callFunE hr.depth of1 rfl L.co L.gen rfl ⟨c', oc, vs', tt, rfl, hoc, hdc, hvc⟩ ?_
    rw [hbind]
    refine wpAny_pure (wpAny_newFunctionEnv (fun y hy => (L.own y hy).2) (fun y hy => by rw [List.mem_singleton.mp hy]; exact L.parl) (fun h₁ hns hsb => ⟨I1.nolimit.fresh _ hsb, ?_⟩) L.kind)
    show codeAny _ _ (.expr body (lamEnv X scope s1.heap.objs.size f c')) _ _
    have kp : ∀ b o, s1.heap.get? b = some o → h₁.get? b = some o := fun b o e => hsb.extBut b o (Nat.ne_of_lt (Heap.lt_size e)) (Heap.get?_push_of_some _ e)
    have J : Inv (lamCx X (X.A.deeper (envOfC qg sg s.heap.objs.size g cdg)) (envOfC qg sg s.heap.objs.size g cdg :: X.stack) s1 HZ (fun cls d H' => W cls d σZ H') scope f c') [] σ HZ { s1 with heap := h₁, toks := s1.toks + ([(par, uu)] : List (Str × Value)).length } :=
      lam_start3 I L hNp I1.env0 hr.hd un hns kp
    refine PySem.W.kla_codeExpr (wpAny_mono ((hbody _ _ s1 HZ _ (hr.deeper _) rfl).run [] _ _ HZ Q J ht) (fun v s' hq => ?_) fun e s' hq => hq)
    obtain ⟨w', H', J', rv, q⟩ := hq
    exact ⟨w', H', J'.os, J'.bare, J'.base, J'.hok, rv, q⟩
  refine wpAny_call (codeAny_mono rc fun r s' hq => ?_)
  cases r with
  | error e => exact tk e s' (XE.of_call I1 (fun _ _ _ h => h) hq)
  | ok fl =>
    cases fl with
    | ret u => exact I1.after hq
    | next => exact False.elim hq
    | brk => exact False.elim hq
    | cont => exact False.elim hq
end
end LamY
namespace L2.Mi
open PySem PySem.Spec PyProof.Rows L2 LamX LamY
section
variable {K : PySem.W.Frag} {I H H1 : Hp} {m : List Addr} {c : Cs}
/-- what stands outside is known from now on -/
theorem Rel.know {p : Addr} {q : Heap → Prop} (r : Rel K I H m c) (h : H p = some (.ext q)) : Rel K (upd I p (.ext q)) H m c ∧ Ext I m H (upd I p (.ext q)) m H := by
  have sI : Same I (upd I p (.ext q)) := fun b u e => by
    by_cases hb : b = p
    · subst hb
      rw [upd_same]
      have := r.same _ _ e
      rw [h] at this
      exact this
    · rw [upd_ne hb]
      exact e
  have kn : ∀ b, H b ≠ some (.ext q) → I b = none → upd I p (.ext q) b = none := fun b n e => by
    rw [upd_ne (fun z => n (by rw [z]; exact h))]
    exact e
  refine ⟨⟨fun b u e => ?_, r.len, r.nd, fun k a x h1 h2 => ?_, ⟨fun P hP => ?_, fun z hz => ?_⟩⟩, sI, Pre.refl m, fun b o h1 hT h2 h3 => ⟨h1, kn b (fun z => hT.2 q (by rw [h1] at z; exact Option.some.inj z)) h2, h3⟩⟩
  · by_cases hb : b = p
    · subst hb
      rw [upd_same] at e
      cases e
      exact h
    · rw [upd_ne hb] at e
      exact r.same _ _ e
  · have z := r.cell k a x h1 h2
    cases x with
    | lst es =>
      obtain ⟨q1, ws, q2, q3⟩ := z
      exact ⟨kn a (by rw [q2]; exact nofun) q1, ws, q2, q3.mono sI (Pre.refl m)⟩
    | dct es =>
      obtain ⟨q1, ws, q2, q3⟩ := z
      exact ⟨kn a (by rw [q2]; exact nofun) q1, ws, q2, q3.mono sI (Pre.refl m)⟩
    | ins C es =>
      obtain ⟨q1, dx, ws, q2, q3, q4, ⟨A, hA, q5⟩, q6⟩ := z
      exact ⟨kn a (by rw [q5]; exact nofun) q1, dx, ws, kn dx (by rw [q4]; exact nofun) q2, q3, q4, ⟨A, hA, q5⟩, q6.mono sI (Pre.refl m)⟩
    | frz d =>
      obtain ⟨q1, q2⟩ := z
      refine ⟨fun e => ?_, q2.mono sI (Pre.refl m)⟩
      by_cases hb : a = p
      · rw [hb, upd_same] at e
        cases e
      · rw [upd_ne hb] at e
        exact q1 e
  · obtain ⟨⟨ps, p1, p2⟩, p3, p4⟩ := r.tabs.g P hP
    exact ⟨⟨ps, p1, p2⟩, kn P (by rw [p1]; exact nofun) p3, p4⟩
  · obtain ⟨⟨ps, p1, p2⟩, p3, p4⟩ := r.tabs.l z hz
    exact ⟨⟨ps, p1, p2⟩, kn _ (by rw [p1]; exact nofun) p3, p4⟩
/-- a lambda's table has grown -/
theorem Rel.lamtab {p0 : Nat × Nat × Str} (hp0 : p0 ∈ lamL) (r : Rel K I H m c) (e : ∀ b o, b ≠ p0.2.1 → H b = some o → H1 b = some o) (T1 : ∀ p ∈ lamL, TabS H1 p.2.1 p.2.2) : Rel K I H1 m c ∧ Ext I m H I m H1 := by
  obtain ⟨⟨ps, p1, p2⟩, p3, p4⟩ := r.tabs.l p0 hp0
  have nI : ∀ b o, I b = some o → b ≠ p0.2.1 := fun b o e z => by rw [z, p3] at e; cases e
  have nH : ∀ b o, H b = some o → (∀ q, o ≠ .tbl q) → b ≠ p0.2.1 := fun b o e n z => by rw [z, p1] at e; exact n ps (Option.some.inj e).symm
  refine ⟨⟨fun b o h => e b o (nI b o h) (r.same b o h), r.len, r.nd, fun k a x h1 h2 => ?_, ⟨fun P hP => ?_, fun z hz => ?_⟩⟩, Same.refl I, Pre.refl m, fun b o h1 hT h2 h3 => ⟨e b o (nH b o h1 hT.1) h1, h2, h3⟩⟩
  · have q := r.cell k a x h1 h2
    cases x with
    | lst es =>
      obtain ⟨q1, ws, q2, q3⟩ := q
      exact ⟨q1, ws, e _ _ (nH _ _ q2 nofun) q2, q3⟩
    | dct es =>
      obtain ⟨q1, ws, q2, q3⟩ := q
      exact ⟨q1, ws, e _ _ (nH _ _ q2 nofun) q2, q3⟩
    | ins C es =>
      obtain ⟨q1, dx, ws, q2, q3, q4, ⟨A, hA, q5⟩, q6⟩ := q
      exact ⟨q1, dx, ws, q2, q3, e _ _ (nH _ _ q4 nofun) q4, ⟨A, hA, e _ _ (nH _ _ q5 nofun) q5⟩, q6⟩
    | frz d => exact q
  · obtain ⟨⟨qs, q1, q2⟩, q3, q4⟩ := r.tabs.g P hP
    have ne : P ≠ p0.2.1 := fun z => lamDis p0 hp0 (z ▸ hP)
    exact ⟨⟨qs, e _ _ ne q1, q2⟩, q3, q4⟩
  · obtain ⟨_, q3, q4⟩ := r.tabs.l z hz
    exact ⟨T1 z hz, q3, q4⟩
theorem Locs.up {I' : Hp} {m' : List Addr} {σ : St} {l : Ls} (L : Locs K I m σ l) (s : Same I I') (p : Pre m m') : Locs K I' m' σ l := ⟨L.len, fun i d h => let ⟨v, h1, h2⟩ := L.at_ i d h; ⟨v, h1, h2.mono s p⟩⟩
end
/-- a def that calls the lambda it gets -/
structure LamFn (P : Program) (w : World) (K : PySem.W.Frag) (mg : Str → Option Value) (base : Heap) (k : Nat) (f : Addr) (x : Str) (st : Stmt) (N : List Str) (a : Str) (b : ME → MS) : Prop where
  run : ∀ (cdv : Value) (A : Around) (outer : List Env) (s : Shared) (H : Hp) (E : XK), Room k (A.deeper (envOfC x (defScope st) s.heap.objs.size f cdv)) → A.guards = some [] → ∀ act : ME,
    (∀ (W : WX) (pn : List (Addr × Obj)) (xe : Value → Shared → Prop), Takes ((cxOf (CX P w) P w K mg base N x (defScope st) f cdv A outer s H E).tr pn xe) W → ∀ p1 p2 j p3,
      PE ((cxOf (CX P w) P w K mg base N x (defScope st) f cdv A outer s H E).tr pn xe) (.Call (.Name a p1) [.Constant (.int 0) j p3] [] p2) (rdE K W act)) →
    PSs (cxOf (CX P w) P w K mg base N x (defScope st) f cdv A outer s H E) (defBody st) (rdS K (fun cls d _ H' => E cls d H') (b act))
open Classical in
noncomputable def actL (i : Nat) (G : Addr → Hp → List Addr → Prop) (r : Cs → R D) : ME := fun l c => if l[0]? = some (some (.gh i G)) then r c else .stuck
theorem actL_at {i : Nat} {G : Addr → Hp → List Addr → Prop} {r : Cs → R D} {l : Ls} {c : Cs} (h : l[0]? = some (some (.gh i G))) : actL i G r l c = r c := if_pos h
/-- what comes of it does not lie on the lambda's own value -/
def LamPar (n : Nat) (b : ME → MS) : Prop := ∀ (i : Nat) (G : Addr → Hp → List Addr → Prop) (r : Cs → R D) (c : Cs), mFun n 1 (b (actL i G r)) [.gh i G] c = mFun n 1 (b fun _ c' => r c') [.non] c
def noX (r : R D) : R D := match r with
  | .exc _ _ => .stuck
  | r => r
def mLamCall (n : Nat) (b : ME → MS) (e : ME) : ME := fun l c => noX (mFun n 1 (b fun _ c' => e l c') [.non] c)
/-- .. where places of the caller are not seen by the lambda -/
def mLamCallN (js : List Nat) (n : Nat) (b : ME → MS) (e : ME) : ME := fun l c => noX (mFun n 1 (b fun _ c' => e (wipeL l js) c') [.non] c)
theorem me_lamcallN (js : List Nat) {X : Cx} {W : WX} {k : Nat} {x a par : Str} {g c P : Addr} {fd : FuncData} {st : Stmt} {N : List Str} {b : ME → MS} {fe : ME} {params : Arguments} {body : Expr} {scope : Scope} {p lpos pos : Pos}
    (F : Fun X.K x x st g fd) (S : FnScope N [a] (defScope st)) (G : LamFn X.prog X.w X.K X.mg X.base (k + 1) g x st N a b) (hN0 : N[0]? = some a) (hva : Vis (defScope st) a) (hpar : LamPar N.length b)
    (hr : Room (k + 2) X.A) (hgd : X.A.guards = some []) (hg : Gl X x) (hm : X.mg x = some (.ref g)) (hk : PySem.W.keepIn X.K (.ref g) = true) (hb : Binds X.K fd [a] [])
    (hcP : (c, P, X.env.qual ++ "<lambda>") ∈ lamL) (hu : ∀ p ∈ lamL, p.2.1 = P → p.2.2 = X.env.qual ++ "<lambda>") (tb : ∀ p ∈ allL, GxR.TabB X.base X.mg p.1 p.2) (hcode : X.env.code = .ref c)
    (L : LamS1 X.env.scope scope par) (hNp : ∀ i : Nat, X.N[i]? = some par → i ∈ js) (hdef : defaultsOf params X.env = ([], []))
    (hbind : ∀ (q : Str) (cl : List (Str × Addr)) (pm cv ctv u : Value), bindArgs (PySem.W.kla_fn "<lambda>" q params body scope cl pm cv ctv) ⟨[u], []⟩ = pure [(par, u)])
    (hbody : ∀ (A : Around) (outer : List Env) (s : Shared) (H : Hp) (E : XK) (f c' : Addr), Room k (A.deeper (lamEnv X scope s.heap.objs.size f c')) → A.guards = X.A.guards → PE (lamCx X A outer s H E scope f c') body (rdE X.K (fun cls d _ H' => E cls d H') fe))
    (hdb : (x == ("__debug__" : Str)) = false := by decide) (hd : (a == ("__debug__" : Str)) = false := by decide) (hcd : (a == ("__classdict__" : Str)) = false := by decide) :
    PE X (.Call (.Name x p) [.Lambda params body scope lpos] [] pos) (rdE X.K W (mLamCallN js N.length b fe)) := by
  refine ⟨fun pins s σ H Q J ⟨I0, m, l, c0, R, Lc, A⟩ => ?_⟩
  have A0 : After (rD X.K) X.K I0 m H (fun cls dd H' => W cls dd σ H') Q (noX (mFun N.length 1 (b fun _ c' => fe (wipeL l js) c') [.non] c0)) := A
  obtain ⟨oc, od, kV, doc, pm, an, cdv, ct, osl, rfl, lk, hcd0⟩ := F.ex
  have tbl := tb (c, P) (List.mem_append_right _ (List.mem_map.mpr ⟨_, hcP, rfl⟩))
  have TT : Tabs (lamL.map (·.2)) H := fun q hq => by
    obtain ⟨p0, h0, rfl⟩ := List.mem_map.mp hq
    exact (R.tabs.l p0 h0).1
  refine wpAny_Call_Name_kw (ld_glob J hg hm ?_ hdb)
  refine PySem.W.callWith_K (h₀ := X.base) J.ok.mod.kin hk ?_ (by rfl) (by rfl)
  show wpAny _ _ (spliced ((false, eval (.Lambda params body scope lpos) X.env) :: backTo pos (starEach [] X.env))) _ _ s
  refine Calls.spliced_cons (lam_make3 J ⟨tbl.code, tbl.bm, tbl.gP⟩ hcode (List.mem_map.mpr ⟨_, hcP, rfl⟩) (fun q hq e => by
    obtain ⟨p0, h0, rfl⟩ := List.mem_map.mp hq
    exact hu p0 h0 e) TT hdef (L.has J.ok) fun f c' pm' ctv H1 s' J1 eN T1 hf hfn hfr hco => ?_)
  refine Calls.spliced_nil ⟨J1.kIn, ?_⟩
  obtain ⟨R1, E1⟩ := R.lamtab hcP eN fun q hq => T1 _ (List.mem_map.mpr ⟨q, hq, rfl⟩)
  obtain ⟨R2, E2⟩ := R1.know (show H1 c' = some (.ext _) from hco)
  have E12 := E1.trans E2
  let Gd : Addr → Hp → List Addr → Prop := fun v I m => v = f ∧ I c' = some (CodeO c' (X.env.qual ++ "<lambda>")) ∧ Locs X.K I m (L2.wipe σ js) (wipeL l js)
  have rep : Rep X.K (upd I0 c' (CodeO c' (X.env.qual ++ "<lambda>"))) m (.ref f) (.gh 0 Gd) := Rep.gh (fun I I' m m' s p h => ⟨h.1, s _ _ h.2.1, h.2.2.up s p⟩) (show Gd f _ m from ⟨rfl, upd_same, (locs_wipe Lc js).up E12.same E12.pre⟩)
  have A1 := After.ext E12 A0
  rw [← hpar 0 Gd (fun c' => fe (wipeL l js) c') c0] at A1
  have rc : codeAny (model X.prog X.w) X.A (.call (.ref g) ⟨[.ref f], []⟩) (CR (CX X.prog X.w) X.stack X.prog X.w H1 s' Q (fun _ _ _ => False)) s' := by
    refine run_ofS (k := k + 1) (N := N) (ps := [a]) (us := [.ref f]) (vs := [.ref f]) lk hcd0 S hr J1.env0 (hb s' [.ref f] J1.kIn rfl) (.cons rfl .nil) rfl fun hr' => ?_
    refine ⟨_, G.run cdv X.A X.stack s' H1 (fun _ _ _ => False) hr' hgd (actL 0 Gd fun c' => fe (wipeL l js) c') (fun W pn xe tk p1 p2 j p3 => ?_), ?_⟩
    · refine PEi (pe_act1 (i := 0) (t := fun E => rdE X.K (fun cls d _ H' => E cls d H') fe) (J1.weak (L2.wipe_length σ js) fun i v e => (L2.wipe_some e).1) L (fun i v e1 e2 => absurd (hNp i e1) (L2.wipe_some e2).2) hf hfn hfr (fun u => hbind _ _ _ _ _ u) tk hr' (fun A outer s H E hr2 hg2 => hbody A outer s H E f c' hr2 hg2) hN0 hva hd hcd) fun σZ HZ Q2 ⟨I2, m2, lz, c2, Rz, Lz, Az⟩ => ?_
      by_cases h0 : lz[0]? = some (some (.gh 0 Gd))
      · rw [actL_at h0] at Az
        obtain ⟨v, e1, e2⟩ := Lz.at_ 0 _ h0
        cases e2 with
        | gh gm hgd =>
          obtain ⟨rfl, h1, h2⟩ := hgd
          exact ⟨e1, Rz.same _ _ h1, I2, m2, wipeL l js, c2, Rz, h2, Az⟩
      · have Az : After (rD X.K) X.K I2 m2 HZ _ Q2 (actL 0 Gd (fun c' => fe (wipeL l js) c') lz c2) := Az
        rw [show actL 0 Gd (fun c' => fe (wipeL l js) c') lz c2 = .stuck from if_neg h0] at Az
        exact Az.elim
    · have A2 : After (rD X.K) X.K (upd I0 c' (CodeO c' (X.env.qual ++ "<lambda>"))) m H1 (fun cls dd H' => W cls dd σ H') Q (noX (match b (actL 0 Gd fun c' => fe (wipeL l js) c') ([D.gh 0 Gd].map some ++ List.replicate (N.length - 1) none) c0 with
        | .go (.rt d) c' => .ok d c'
        | .go (.nx _) c' => .ok .non c'
        | .exc x _ c' => .exc x c'
        | _ => .stuck)) := by
        have e : mFun N.length 1 (b (actL 0 Gd fun c' => fe (wipeL l js) c')) [.gh 0 Gd] c0 = _ := if_pos rfl
        rw [e] at A1
        exact A1
      refine ⟨_, m, [D.gh 0 Gd].map some ++ List.replicate (N.length - 1) none, c0, R2, locs_start (.cons rep .nil), ?_⟩
      show AfterS _ _ _ _ _ _ (b (actL 0 Gd fun c' => fe (wipeL l js) c') ([D.gh 0 Gd].map some ++ List.replicate (N.length - 1) none) c0)
      cases q : b (actL 0 Gd fun c' => fe (wipeL l js) c') ([D.gh 0 Gd].map some ++ List.replicate (N.length - 1) none) c0 with
      | stuck => rw [q] at A2; exact A2.elim
      | exc x l' c' => rw [q] at A2; exact A2.elim
      | go fl c' =>
        rw [q] at A2
        cases fl with
        | nx l' => exact fun I' m' H' σ' e' r' _ => A2 I' m' H' .non e' r' Rep.non
        | rt d => exact fun I' m' H' v e' r' pv => A2 I' m' H' v e' r' pv
        | bk l' => exact A2.elim
        | ct l' => exact A2.elim
  refine wpAny_call (codeAny_mono rc fun r s2 hq => ?_)
  cases r with
  | error e =>
    obtain ⟨_, _, _, _, _, _, _, _, _, _, _, _, z⟩ := hq
    exact z.elim
  | ok fl =>
    cases fl with
    | ret u => exact J1.after hq
    | next => exact False.elim hq
    | brk => exact False.elim hq
    | cont => exact False.elim hq
theorem me_lamcall {X : Cx} {W : WX} {k : Nat} {x a par : Str} {g c P : Addr} {fd : FuncData} {st : Stmt} {N : List Str} {b : ME → MS} {fe : ME} {params : Arguments} {body : Expr} {scope : Scope} {p lpos pos : Pos}
    (F : Fun X.K x x st g fd) (S : FnScope N [a] (defScope st)) (G : LamFn X.prog X.w X.K X.mg X.base (k + 1) g x st N a b) (hN0 : N[0]? = some a) (hva : Vis (defScope st) a) (hpar : LamPar N.length b)
    (hr : Room (k + 2) X.A) (hgd : X.A.guards = some []) (hg : Gl X x) (hm : X.mg x = some (.ref g)) (hk : PySem.W.keepIn X.K (.ref g) = true) (hb : Binds X.K fd [a] [])
    (hcP : (c, P, X.env.qual ++ "<lambda>") ∈ lamL) (hu : ∀ p ∈ lamL, p.2.1 = P → p.2.2 = X.env.qual ++ "<lambda>") (tb : ∀ p ∈ allL, GxR.TabB X.base X.mg p.1 p.2) (hcode : X.env.code = .ref c)
    (L : LamS1 X.env.scope scope par) (hNp : ∀ i : Nat, X.N[i]? ≠ some par) (hdef : defaultsOf params X.env = ([], []))
    (hbind : ∀ (q : Str) (cl : List (Str × Addr)) (pm cv ctv u : Value), bindArgs (PySem.W.kla_fn "<lambda>" q params body scope cl pm cv ctv) ⟨[u], []⟩ = pure [(par, u)])
    (hbody : ∀ (A : Around) (outer : List Env) (s : Shared) (H : Hp) (E : XK) (f c' : Addr), Room k (A.deeper (lamEnv X scope s.heap.objs.size f c')) → A.guards = X.A.guards → PE (lamCx X A outer s H E scope f c') body (rdE X.K (fun cls d _ H' => E cls d H') fe))
    (hdb : (x == ("__debug__" : Str)) = false := by decide) (hd : (a == ("__debug__" : Str)) = false := by decide) (hcd : (a == ("__classdict__" : Str)) = false := by decide) :
    PE X (.Call (.Name x p) [.Lambda params body scope lpos] [] pos) (rdE X.K W (mLamCall N.length b fe)) :=
  me_lamcallN [] F S G hN0 hva hpar hr hgd hg hm hk hb hcP hu tb hcode L (fun i e => absurd e (hNp i)) hdef hbind hbody hdb hd hcd
theorem me_lamcallQ {X : Cx} {W : WX} {k : Nat} {x a par : Str} {g c P : Addr} {fd : FuncData} {st : Stmt} {N : List Str} {b : ME → MS} {fe : ME} {params : Arguments} {body : Expr} {scope : Scope} {p lpos pos : Pos} (q : Str) (XN : List Str)
    (F : Fun X.K x x st g fd) (S : FnScope N [a] (defScope st)) (G : LamFn X.prog X.w X.K X.mg X.base (k + 1) g x st N a b) (hN0 : N[0]? = some a) (hva : Vis (defScope st) a) (hpar : LamPar N.length b)
    (hr : Room (k + 2) X.A) (hgd : X.A.guards = some []) (hg : Gl X x) (hm : X.mg x = some (.ref g)) (hk : PySem.W.keepIn X.K (.ref g) = true) (hb : Binds X.K fd [a] [])
    (hq : X.env.qual ++ "<lambda>" = q) (hXN : X.N = XN) (hcP : (c, P, q) ∈ lamL) (hu : ∀ p ∈ lamL, p.2.1 = P → p.2.2 = q) (tb : ∀ p ∈ allL, GxR.TabB X.base X.mg p.1 p.2) (hcode : X.env.code = .ref c)
    (L : LamS1 X.env.scope scope par) (hNp : par ∉ XN) (hdef : defaultsOf params X.env = ([], []))
    (hbind : ∀ (q : Str) (cl : List (Str × Addr)) (pm cv ctv u : Value), bindArgs (PySem.W.kla_fn "<lambda>" q params body scope cl pm cv ctv) ⟨[u], []⟩ = pure [(par, u)])
    (hbody : ∀ (A : Around) (outer : List Env) (s : Shared) (H : Hp) (E : XK) (f c' : Addr), Room k (A.deeper (lamEnv X scope s.heap.objs.size f c')) → A.guards = X.A.guards → PE (lamCx X A outer s H E scope f c') body (rdE X.K (fun cls d _ H' => E cls d H') fe))
    (hdb : (x == ("__debug__" : Str)) = false := by decide) (hd : (a == ("__debug__" : Str)) = false := by decide) (hcd : (a == ("__classdict__" : Str)) = false := by decide) :
    PE X (.Call (.Name x p) [.Lambda params body scope lpos] [] pos) (rdE X.K W (mLamCall N.length b fe)) :=
  me_lamcall F S G hN0 hva hpar hr hgd hg hm hk hb (by rw [hq]; exact hcP) (fun p hp e => (hu p hp e).trans hq.symm) tb hcode L (fun i e => hNp (hXN ▸ List.mem_of_getElem? e)) hdef hbind hbody hdb hd hcd
theorem LamFn.mono {P : Program} {w : World} {K : PySem.W.Frag} {mg : Str → Option Value} {base : Heap} {j k : Nat} {f : Addr} {x : Str} {st : Stmt} {N : List Str} {a : Str} {b : ME → MS} (F : LamFn P w K mg base j f x st N a b) (h : j ≤ k) : LamFn P w K mg base k f x st N a b :=
  ⟨fun cdv A outer s H E hr => F.run cdv A outer s H E (hr.mono h)⟩
theorem takes_lam {X : Cx} {A : Around} {outer : List Env} {s : Shared} {H : Hp} {E : XK} {scope : Scope} {f c' : Addr} : Takes (lamCx X A outer s H E scope f c') (fun cls d _ H' => E cls d H') := takes_of (X := lamCx X A outer s H E scope f c') (E := E) rfl rfl rfl rfl
/-! the outcome does not lie on the locals -/
def finR : RS → R D
  | .go (.rt d) c' => .ok d c'
  | .go (.nx _) c' => .ok .non c'
  | .exc x _ c' => .exc x c'
  | _ => .stuck
def LI (f : Ex → MS) : Prop := ∀ (x : Ex) (l l' : Ls) (c : Cs), finR (quiet (f x l c)) = finR (quiet (f x l' c)) ∧ ∀ i, finR (wipe i (f x l c)) = finR (wipe i (f x l' c))
theorem li_ret {a : Ex → ME} (h : ∀ x l l' c, a x l c = a x l' c) : LI fun x => sRet (a x) := fun x l l' c => by
  show finR (quiet ((a x l c).seq l fun d c1 => .go (.rt d) c1)) = finR (quiet ((a x l' c).seq l' fun d c1 => .go (.rt d) c1)) ∧ ∀ i, finR (wipe i ((a x l c).seq l fun d c1 => .go (.rt d) c1)) = finR (wipe i ((a x l' c).seq l' fun d c1 => .go (.rt d) c1))
  rw [h x l l' c]
  cases a x l' c <;> exact ⟨rfl, fun _ => rfl⟩
def liAll : List HE → Prop
  | [] => True
  | .stop :: _ => True
  | .cl _ _ f :: r => LI f ∧ liAll r
theorem hd_same {ns : List Str} {x : Ex} {c : Cs} : ∀ {hs : List HE} {l l' : Ls}, liAll hs → l.length = l'.length → finR (hdR ns hs x l c) = finR (hdR ns hs x l' c)
  | [], _, _, _, _ => rfl
  | .stop :: _, _, _, _, _ => rfl
  | .cl n none f :: r, l, l', h, e => by
    unfold hdR
    by_cases h1 : x.cls ∈ ns
    · rw [if_pos h1, if_pos h1]
      by_cases h2 : exM x.cls n = true
      · rw [if_pos h2, if_pos h2]
        exact (h.1 x l l' c).1
      · rw [if_neg h2, if_neg h2]
        exact hd_same h.2 e
    · rw [if_neg h1, if_neg h1]
  | .cl n (some i) f :: r, l, l', h, e => by
    unfold hdR
    rw [e]
    by_cases h1 : x.cls ∈ ns ∧ i < l'.length
    · rw [if_pos h1, if_pos h1]
      by_cases h2 : exM x.cls n = true
      · rw [if_pos h2, if_pos h2]
        exact (h.1 x _ _ c).2 i
      · rw [if_neg h2, if_neg h2]
        exact hd_same h.2 e
    · rw [if_neg h1, if_neg h1]
theorem lam_try {ns : List Str} {hs : List HE} {A1 A2 : ME} {n : Nat} {d1 d2 : D} {c : Cs} (hA : A1 (some d1 :: List.replicate (n - 1) none) c = A2 (some d2 :: List.replicate (n - 1) none) c) (h : liAll hs) :
    mFun n 1 (sTry ns (sRet A1) hs) [d1] c = mFun n 1 (sTry ns (sRet A2) hs) [d2] c := by
  show finR (match (A1 (some d1 :: List.replicate (n - 1) none) c).seq (some d1 :: List.replicate (n - 1) none) (fun d c1 => RS.go (.rt d) c1) with
      | .exc x l1 c1 => hdR ns hs x l1 c1
      | r => r) = finR (match (A2 (some d2 :: List.replicate (n - 1) none) c).seq (some d2 :: List.replicate (n - 1) none) (fun d c1 => RS.go (.rt d) c1) with
      | .exc x l1 c1 => hdR ns hs x l1 c1
      | r => r)
  rw [hA]
  cases A2 (some d2 :: List.replicate (n - 1) none) c with
  | stuck => rfl
  | ok d c1 => rfl
  | exc x c1 => exact hd_same h (by simp)
end L2.Mi

/-! (a dict,) == (a text,) -/
namespace L2.Mi
open PySem PySem.Spec PyProof.Rows L2 PySem.SeqAt PySem.AutoSeq1
section
variable {K : PySem.W.Frag}
end
/-! slices of tuples, the whole too -/
end L2.Mi

/-! own == within an except suite -/
namespace L2.Mi
open PySem PySem.Spec PyProof.Rows L2
theorem _root_.L2H.RoomH.units {k : Nat} {A : Around} (r : L2H.RoomH k A) : A.units + 64 < cLine := by have := r.un; omega
/-- the def at f does what g says, also where an exception is handled; it raises none -/
structure HFn (P : Program) (w : World) (K : PySem.W.Frag) (mg : Str → Option Value) (base : Heap) (k : Nat) (f : Addr) (fd : FuncData) (ps : List Str) (g : List D → Cs → R D) : Prop where
  len : ∀ ds c, g ds c ≠ .stuck → ds.length = ps.length
  run : ∀ (A : Around) (outer : List Env) (s : Shared) (H : Hp) (args : Args) (us : List Value) (vs : List V) (Q : VK) (E : XK) (I : Hp) (m : List Addr) (c : Cs) (ds : List D) (q : Addr × Obj), L2H.RoomH k A → L2H.PinOk outer H s q → A.guards = some [] → Env0 P w K mg base A outer s H →
    BindsTo s fd args (ps.zip us) → Vals vs us → Rel K I H m c → Reps K I m vs ds → After (rD K) K I m H E Q (g ds c) → codeAny (model P w) A (.call (.ref f) args) (CR (CX P w) outer P w H s Q E) s
theorem HFn.mono {P : Program} {w : World} {K : PySem.W.Frag} {mg : Str → Option Value} {base : Heap} {j k : Nat} {f : Addr} {fd : FuncData} {ps : List Str} {g : List D → Cs → R D} (F : HFn P w K mg base j f fd ps g) (h : j ≤ k) : HFn P w K mg base k f fd ps g :=
  ⟨F.len, fun A outer s H args us vs Q E I m c ds q hr => F.run A outer s H args us vs Q E I m c ds q (hr.mono h)⟩
section
variable {X : Cx} {W : WX} {k : Nat} {tbl : Tbl} {mm : Str} {g0 : D → D → Cs → R D}
end
end L2.Mi

/-! plain reasoning, fourth part: comprehensions of two clauses -/
namespace L2.Mi
open PySem PySem.Spec PyProof.Rows L2
section
variable {α β : Type} {g g1 : MG} {t t1 : MT} {e : ME} {it it1 : MK} {js js1 : List Nat} {l lw : Ls} {c : Cs} {Q : D → Cs → Prop}
end
end L2.Mi

/-! for .. else -/
namespace L2.Mi
open PySem PySem.Spec PyProof.Rows L2
end L2.Mi

/-! an instance called -/
namespace L2.Mi
open PySem PySem.Spec PyProof.Rows L2 StX
section
variable {X : Cx} {W : WX} {fe e : Expr} {es : List Expr} {fo : ME} {ga : MA} {pos : Pos} {k : Nat} {tbl : Tbl}
end
end L2.Mi

namespace ScI
open PySem PySem.Spec PyProof.Rows L2 PpSet
section
variable {X : Cx}
end
end ScI
namespace ScI
open PySem
open Sem (wp)
open AutoSeq1 (wpAny_loadPart')
section
variable {prog : Program} {w : World} {A : Around} {E : Value → Shared → Prop} {s : Shared}
end
end ScI
namespace L2.Mi
open PySem PySem.Spec PyProof.Rows L2 PpSet ScI
/-! ### the members of a list of whole numbers, ascending -/
/-! ### whole numbers in a list, a tuple, a cell -/
section
variable {X : Cx} {W : WX}
/-! sorted(e) -/
/-! len(set(e)) -/
end
/-! sorted({x for x in e}) -/
section
variable {X : Cx} {W : WX}
end
end L2.Mi

/-! x == y, x != y by an own == where y may be an instance of another class -/
namespace L2.Mi
open PySem PySem.Spec PyProof.Rows L2
section
variable {X : Cx} {W : WX} {k : Nat} {tbl : Tbl} {g0 : D → D → Cs → R D} {ns : List Str}
end
/-! plain -/
section
variable {c : Cs} {x y : D} {Q : D → Cs → Prop} {n : Str} {g : List D → Cs → R D} {g0 : D → D → Cs → R D} {fs : List (Str × D)} {ns : List Str}
end
end L2.Mi

/-! zip(*rows) over texts of one length, as many as eight -/
namespace L2.Mi
open PySem PySem.Spec PyProof.Rows L2

/-- text iterators: each stands where it stands -/
def ItsAt (h : Heap) (its : List Addr) (zs : List Str) (f : Nat → Nat) : Prop :=
  ∀ (j : Nat) (it : Addr) (z : Str), its[j]? = some it → zs[j]? = some z → ∃ t, h.IsStrIter it (strIterType z) z t (f j)
section
variable {M : Model} {A : Around} {E : Value → Shared → Prop} {β : Type}
end

section
variable {prog : Program} {w : World} {A : Around} {E : Value → Shared → Prop}
theorem IsStrIter_at {h h' : Heap} {it : Addr} {ty : String} {z : Str} {t : Tok} {i : Nat} (st : h.IsStrIter it ty z t i) (k : ∀ o, h.get? it = some o → h'.get? it = some o) : h'.IsStrIter it ty z t i := by
  obtain ⟨o, h1, h2⟩ := st; exact ⟨o, k o h1, h2⟩
theorem ItsAt.at {h h' : Heap} {its : List Addr} {zs : List Str} {f : Nat → Nat} (st : ItsAt h its zs f) (k : ∀ it ∈ its, ∀ o, h.get? it = some o → h'.get? it = some o) : ItsAt h' its zs f := fun j it z e1 e2 => by
  obtain ⟨t, st⟩ := st j it z e1 e2
  exact ⟨t, IsStrIter_at st (k it (List.mem_of_getElem? e1))⟩
end
/-! ### the walk -/
/-! ### over plain values -/
/-! ### list(d) of a dict: its keys -/
end L2.Mi

/-! zip of three over lists, tuples, texts in any mix; the target is a tuple -/
namespace L2.Mi
open PySem PySem.Spec PyProof.Rows L2
end L2.Mi

/-! [f, g, ..][i](x, ..): a def chosen by index -/
namespace L2.Mi
open PySem PySem.Spec PyProof.Rows L2
section
variable {X : Cx} {W : WX} {e : Expr} {es : List Expr} {fe : Expr} {fi : ME} {ga gt : MA} {pos : Pos}
end
/-! ### three names as a comprehension's target -/
end L2.Mi

/-! lambdas that are kept in a list and called by a comprehension -/
namespace LamZ
open PySem PySem.Spec PyProof.Rows L2 LamX LamY
/-- the function object that is made of a lambda -/
def FunO (f : Addr) (o : Obj) : HO := .ext fun h => h.get? f = some o
section
variable {X : Cx} {pins : List (Addr × Obj)} {σ : L2.St} {H HZ : Hp} {s s1 : Shared}
/-- the lambda is made; what stood stays, but for the table -/
theorem lam_make4 {T : List (Addr × Str)} {c P : Addr} {params : Arguments} {body : Expr} {scope : Scope} {pos : Pos} {E : Value → Shared → Prop} {Q : Value → Shared → Prop} (I : Inv X pins σ H s) (TB : TabB X.base X.mg c P) (hcode : X.env.code = .ref c)
    (hm : (P, X.env.qual ++ "<lambda>") ∈ T) (hu : ∀ p ∈ T, p.1 = P → p.2 = X.env.qual ++ "<lambda>") (hT : Tabs T H) (hdef : defaultsOf params X.env = ([], [])) (hfree : ∀ y ∈ scope.names, y.2 = .free → ∃ c, X.env.cells.lookup y.1 = some c)
    (h : ∀ (f c' : Addr) (pm ctv : Value) (H1 : Hp) (s' : Shared), Inv X pins σ H1 s' → (∀ b o, b ≠ P → H b = some o → H1 b = some o) → Tabs T H1 →
      H1 f = some (FunO f (PySem.W.kla_obj "<lambda>" (X.env.qual ++ "<lambda>") params body scope (cloFrom X.env.cells scope.names []) pm c' ctv)) → c' ≠ f → H1 c' = some (CodeO c' (X.env.qual ++ "<lambda>")) → Q (.ref f) s') :
    wpAny (model X.prog X.w) X.A (eval (.Lambda params body scope pos) X.env) Q E s := by
  obtain ⟨ps, hP, ht, ha⟩ := hT _ hm
  refine PySem.W.kla_eval hdef ?_
  have bP : s.heap.BuiltinsAt X.mg P := TB.bm.keeps I.bk
  have hP' : s.heap.get? P = some { cls := .none, data := .fields ps } := I.hok P _ hP
  cases hc : codeAmong pos ps.toList with
  | none =>
    refine PySem.W.kla_makeFunction (mg := X.mg) (c := c) (P := P) (ps := ps) (closure_ok hfree) I.ok.glob (I.mod.glob.keeps I.bk) hcode (TB.code.keeps I.bk) hP' ht hc TB.gP bP fun c' ctv h' tk hx hge hlt hrec htb => ?_
    obtain ⟨c2, oc, vs, t, e2, hoc, hd, hv⟩ := hrec
    cases e2
    have hsz : s.heap.objs.size ≤ h'.objs.size := Nat.le_trans hge (Nat.le_of_lt hlt)
    have nC : H c' = none := I.hok.fresh hge
    have I0 := inv_table (t' := tk) (more := #[rawInt pos.line, rawInt pos.col, .ref c']) (h' := h') I hP hx htb hge ⟨oc, vs, t, hoc, hd, hv⟩
    have nf : ∀ b o, s.heap.get? b = some o → b ≠ h'.objs.size := fun b o e => Nat.ne_of_lt (Nat.lt_of_lt_of_le (Heap.lt_size e) hsz)
    have I1 := I0.laid (t' := tk) (a := h'.objs.size) (o := FunO h'.objs.size (PySem.W.kla_obj "<lambda>" (X.env.qual ++ "<lambda>") params body scope (cloFrom X.env.cells scope.names []) ((X.mg "__name__").getD .none) c' ctv)) (h' := h'.push (PySem.W.kla_obj "<lambda>" (X.env.qual ++ "<lambda>") params body scope (cloFrom X.env.cells scope.names []) ((X.mg "__name__").getD .none) c' ctv)) (fun b u e => Heap.get?_push_of_some _ e) (Nat.le_refl _) ⟨Heap.get?_push_size _ rfl, ⟨_, Heap.get?_push_size _ rfl⟩, fun h1 h2 e k => k _ e⟩
    have nfc : c' ≠ h'.objs.size := Nat.ne_of_lt hlt
    have nfP : P ≠ h'.objs.size := nf _ _ hP'
    have nH : ∀ b o, H b = some o → b ≠ h'.objs.size := fun b o e => Nat.ne_of_lt (Nat.lt_of_lt_of_le (I.hok.lt e) hsz)
    have hE : ∀ b o, b ≠ P → H b = some o → upd (upd (upd H P (.tbl (ps ++ #[rawInt pos.line, rawInt pos.col, .ref c']))) c' (CodeO c' (X.env.qual ++ "<lambda>"))) h'.objs.size (FunO h'.objs.size (PySem.W.kla_obj "<lambda>" (X.env.qual ++ "<lambda>") params body scope (cloFrom X.env.cells scope.names []) ((X.mg "__name__").getD .none) c' ctv)) b = some o := fun b o n e => by
      rw [upd_ne (nH _ _ e), upd_ne (ne_of_none e nC), upd_ne n]
      exact e
    have hE2 : ∀ b o, H b = some o → (∀ ps, o ≠ .tbl ps) → upd (upd (upd H P (.tbl (ps ++ #[rawInt pos.line, rawInt pos.col, .ref c']))) c' (CodeO c' (X.env.qual ++ "<lambda>"))) h'.objs.size (FunO h'.objs.size (PySem.W.kla_obj "<lambda>" (X.env.qual ++ "<lambda>") params body scope (cloFrom X.env.cells scope.names []) ((X.mg "__name__").getD .none) c' ctv)) b = some o := fun b o e n =>
      hE b o (fun z => n ps (Option.some.inj (e.symm.trans (by rw [z]; exact hP)))) e
    have eL : (ps ++ #[rawInt pos.line, rawInt pos.col, .ref c']).toList = ps.toList ++ [rawInt pos.line, rawInt pos.col, .ref c'] := by simp
    refine h h'.objs.size c' ((X.mg "__name__").getD .none) ctv _ _ I1 hE (fun p hp => ?_) upd_same nfc (by rw [upd_ne nfc, upd_same])
    · by_cases hb : p.1 = P
      · rw [hu p hp hb, hb]
        refine ⟨_, by rw [upd_ne nfP, upd_ne (ne_of_none hP nC), upd_same], by rw [eL]; exact PySem.TriplesOk_snoc _ _ _ _ ht, fun p' cv hcv => ?_⟩
        rw [eL] at hcv
        rcases among_app _ ht hcv with z | z
        · obtain ⟨c0, e1, e2⟩ := ha p' cv z
          exact ⟨c0, e1, hE2 _ _ e2 codeO_ne⟩
        · exact ⟨c', z, by rw [upd_ne nfc, upd_same]⟩
      · obtain ⟨ps', a1, a2, a3⟩ := hT p hp
        refine ⟨ps', by rw [upd_ne (nH _ _ a1), upd_ne (ne_of_none a1 nC), upd_ne hb]; exact a1, a2, fun p' cv hcv => ?_⟩
        obtain ⟨c0, e1, e2⟩ := a3 p' cv hcv
        exact ⟨c0, e1, hE2 _ _ e2 codeO_ne⟩
  | some cv =>
    obtain ⟨c', e, hco⟩ := ha pos cv hc
    subst e
    refine PySem.W.kla_makeFunctionHit (mg := X.mg) (c := c) (P := P) (ps := ps) (closure_ok hfree) I.ok.glob (I.mod.glob.keeps I.bk) hcode (TB.code.keeps I.bk) hP' ht hc bP fun ctv h' tk hx hsz => ?_
    have I1 := I.laid (t' := tk) (a := h'.objs.size) (o := FunO h'.objs.size (PySem.W.kla_obj "<lambda>" (X.env.qual ++ "<lambda>") params body scope (cloFrom X.env.cells scope.names []) ((X.mg "__name__").getD .none) c' ctv)) (h' := h'.push (PySem.W.kla_obj "<lambda>" (X.env.qual ++ "<lambda>") params body scope (cloFrom X.env.cells scope.names []) ((X.mg "__name__").getD .none) c' ctv)) (fun b u e => Heap.get?_push_of_some _ (hx b u e)) hsz ⟨Heap.get?_push_size _ rfl, ⟨_, Heap.get?_push_size _ rfl⟩, fun h1 h2 e k => k _ e⟩
    have nH : ∀ b o, H b = some o → b ≠ h'.objs.size := fun b o e => Nat.ne_of_lt (Nat.lt_of_lt_of_le (I.hok.lt e) hsz)
    have up : ∀ b o, H b = some o → upd H h'.objs.size (FunO h'.objs.size (PySem.W.kla_obj "<lambda>" (X.env.qual ++ "<lambda>") params body scope (cloFrom X.env.cells scope.names []) ((X.mg "__name__").getD .none) c' ctv)) b = some o := fun b o e => by rw [upd_ne (nH _ _ e)]; exact e
    exact h h'.objs.size c' ((X.mg "__name__").getD .none) ctv _ _ I1 (fun b o _ e => up b o e) (hT.ext up) upd_same (nH _ _ hco) (up _ _ hco)
/-- a(0), in the def that got the lambda: that def's context was entered at s -/
theorem pe_act2 {CXg : CXT} {Eg : XK} {Ng : List Str} {qg : Str} {sg : Scope} {g f c' : Addr} {cdg pm ctv : Value} {params : Arguments} {body : Expr} {scope : Scope} {par : Str} {k i : Nat} {a : Str} {pn : List (Addr × Obj)} {xe : Value → Shared → Prop} {W : WX} {t : XK → TE} {z : Int} {j : _} {p1 p2 p3 : Pos}
    (I : Inv X pins σ H s) (L : LamS1 X.env.scope scope par) (hNp : ∀ (i : Nat) (v : V), X.N[i]? = some par → σ[i]? ≠ some (some v))
    (hbind : ∀ u : Value, bindArgs (PySem.W.kla_fn "<lambda>" (X.env.qual ++ "<lambda>") params body scope (cloFrom X.env.cells scope.names []) pm (.ref c') ctv) ⟨[u], []⟩ = pure [(par, u)])
    (tk : Takes ((cxOf CXg X.prog X.w X.K X.mg X.base Ng qg sg g cdg X.A X.stack s H Eg).tr pn xe) W) (hr : Room (k + 1) (X.A.deeper (envOfC qg sg s.heap.objs.size g cdg)))
    (hbody : ∀ (A : Around) (outer : List Env) (s : Shared) (H : Hp) (E : XK), Room k (A.deeper (lamEnv X scope s.heap.objs.size f c')) → A.guards = X.A.guards → PE (lamCx X A outer s H E scope f c') body (t E))
    (hN : Ng[i]? = some a) (hv : Vis sg a) (hd : (a == ("__debug__" : Str)) = false := by decide) (hcd : (a == ("__classdict__" : Str)) = false := by decide) :
    PE ((cxOf CXg X.prog X.w X.K X.mg X.base Ng qg sg g cdg X.A X.stack s H Eg).tr pn xe) (.Call (.Name a p1) [.Constant (.int z) j p3] [] p2)
      (fun σZ HZ Q => σZ[i]? = some (some (.ref f)) ∧ HZ c' = some (CodeO c' (X.env.qual ++ "<lambda>")) ∧ HZ f = some (FunO f (PySem.W.kla_obj "<lambda>" (X.env.qual ++ "<lambda>") params body scope (cloFrom X.env.cells scope.names []) pm c' ctv)) ∧ t (fun cls d H' => W cls d σZ H') σ HZ Q) := by
  refine ⟨fun pinsZ sZ σZ HZ Q IZ h => ?_⟩
  obtain ⟨hs, hc, hf, ht⟩ := h
  refine wpAny_Call_Name_kw (thn ((pe_var (pos := p1) (i := i) hN hv hd hcd).run pinsZ sZ σZ HZ (fun v H1 => v = .ref f ∧ H1 = HZ) IZ ⟨.ref f, hs, rfl, rfl⟩) fun u s0 ⟨v, H1, I0, r1, q1⟩ => ?_)
  obtain ⟨ev, eH⟩ := q1
  subst ev
  rw [eH] at I0
  obtain rfl : u = Value.ref f := r1
  have of0 : s0.heap.get? f = some (PySem.W.kla_obj "<lambda>" (X.env.qual ++ "<lambda>") params body scope (cloFrom X.env.cells scope.names []) pm c' ctv) := (I0.hok f _ hf).1
  refine PySem.W.callWith_F ⟨_, _, _, _, of0⟩ (thn ((pa_cons (pe_int (i := z) (j := j) (pos := p3)) pa_nil).run p2 pinsZ s0 σZ HZ (fun vs H1 => vs.length = 1 ∧ H1 = HZ) I0 ⟨rfl, rfl⟩) fun us s1 ⟨vs, H2, I1, r2, hlen, eH2⟩ => ?_)
  rw [eH2] at I1
  have of1 : s1.heap.get? f = some (PySem.W.kla_obj "<lambda>" (X.env.qual ++ "<lambda>") params body scope (cloFrom X.env.cells scope.names []) pm c' ctv) := (I1.hok f _ hf).1
  refine ⟨⟨_, _, _, _, of1⟩, ?_⟩
  obtain ⟨uu, rfl⟩ : ∃ uu, us = [uu] := by
    have := r2.length
    rw [hlen] at this
    match us, this with
    | [uu], _ => exact ⟨uu, rfl⟩
  have un : Un (frs X.stack) [] H HZ s.heap s1.heap := I1.base
  obtain ⟨⟨oc, vs', tt, hoc, hdc, hvc⟩, _, _⟩ := I1.hok c' _ hc
  have rc : codeAny (model X.prog X.w) (X.A.deeper (envOfC qg sg s.heap.objs.size g cdg)) (.call (.ref f) ⟨[uu], []⟩) (CR (CX X.prog X.w) (envOfC qg sg s.heap.objs.size g cdg :: X.stack) X.prog X.w HZ s1 Q (fun cls d H' => W cls d σZ H')) s1 := by
    refine PySem.W.kla_callFunE hr.depth of1 rfl L.co L.gen rfl ⟨c', oc, vs', tt, rfl, hoc, hdc, hvc⟩ ?_
    rw [hbind]
    refine wpAny_pure (wpAny_newFunctionEnv (fun y hy => (L.own y hy).2) (fun y hy => by rw [List.mem_singleton.mp hy]; exact L.parl) (fun h₁ hns hsb => ⟨I1.nolimit.fresh _ hsb, ?_⟩) L.kind)
    show codeAny _ _ (.expr body (lamEnv X scope s1.heap.objs.size f c')) _ _
    have kp : ∀ b o, s1.heap.get? b = some o → h₁.get? b = some o := fun b o e => hsb.extBut b o (Nat.ne_of_lt (Heap.lt_size e)) (Heap.get?_push_of_some _ e)
    have J : Inv (lamCx X (X.A.deeper (envOfC qg sg s.heap.objs.size g cdg)) (envOfC qg sg s.heap.objs.size g cdg :: X.stack) s1 HZ (fun cls d H' => W cls d σZ H') scope f c') [] σ HZ { s1 with heap := h₁, toks := s1.toks + ([(par, uu)] : List (Str × Value)).length } :=
      lam_start3 I L hNp I1.env0 hr.hd un hns kp
    refine PySem.W.kla_codeExpr (wpAny_mono ((hbody _ _ s1 HZ _ (hr.deeper _) rfl).run [] _ _ HZ Q J ht) (fun v s' hq => ?_) fun e s' hq => hq)
    obtain ⟨w', H', J', rv, q⟩ := hq
    exact ⟨w', H', J'.os, J'.bare, J'.base, J'.hok, rv, q⟩
  refine wpAny_call (codeAny_mono rc fun r s' hq => ?_)
  cases r with
  | error e => exact tk e s' (XE.of_call I1 (fun _ _ _ h => h) hq)
  | ok fl =>
    cases fl with
    | ret u => exact I1.after hq
    | next => exact False.elim hq
    | brk => exact False.elim hq
    | cont => exact False.elim hq
end
end LamZ
namespace LamZ
open PySem PySem.Spec PyProof.Rows L2 LamX LamY
section
variable {X : Cx} {pins : List (Addr × Obj)} {σ : L2.St} {elt tg iter : Expr} {ifs : List Expr} {scope : Scope} {own : List (Str × Nat)} {pos : Pos} {g : TG} {tt : TT} {te : TE} {Q : VK}
/-- what stands over a block's context gives its def's back -/
abbrev Gives (X : Cx) (pins : List (Addr × Obj)) (σ : L2.St) (Y : Cx) : Prop := ∀ (pn : List (Addr × Obj)) (σ' : L2.St) (H' : Hp) (s' : Shared), Inv Y pn σ' H' s' → Inv X pins σ H' s'
/-- what each turn of the list's building asks for -/
def TurnsOf (J : It) (g : TG) (tt : TT) (te : TE) (σ : L2.St) (js : List Nat) (D : Addr) (Q : VK) (W : Nat → Nat → Hp → Prop) : Prop := ∀ i m H, W i m H →
  (J.stop i H ∧ Q (.ref D) H) ∨ (J.go i H ∧ ∃ Nx : Hp → Prop, (∀ H', Nx H' → ∃ m', m' < m ∧ W (i + 1) m' H') ∧ ∀ x H', J.yld i H x H' → g x (wipe σ js) H' fun σ2 H2 => wipe σ2 js = wipe σ js ∧ tt σ2 H2 fun b H3 =>
    if b = true then te σ2 H3 fun y H4 => ∃ acc, H4 D = some (.lst acc) ∧ acc.length < sizeLine ∧ Nx (upd H4 D (.lst (acc ++ [y]))) else Nx H3)
/-- the block's rules, told with the def's own context -/
abbrev BlkRules (X : Cx) (pins : List (Addr × Obj)) (σ : L2.St) (scope : Scope) (tg elt : Expr) (ifs : List Expr) (g : TG) (tt : TT) (te : TE) : Prop :=
  ∀ (s : Shared) (H : Hp) (C : Addr) (cl : List (Str × Addr)) (fp : List Addr), Gives X pins σ (X.blk s H scope (compEnvC scope cl C X.env) fp) →
    PG (X.blk s H scope (compEnvC scope cl C X.env) fp) tg g ∧ PTs (X.blk s H scope (compEnvC scope cl C X.env) fp) ifs tt ∧ PE (X.blk s H scope (compEnvC scope cl C X.env) fp) elt te
theorem lc_turns {s : Shared} {H : Hp} {it D : Addr} {fp : List Addr} {tn : Nat → Heap → Prop} {J : It} {W : Nat → Nat → Hp → Prop} {m0 : Nat} {R : Result → Shared → Prop}
    (hc : X.calm = true) (hN : X.N.Nodup) (I : Inv X pins σ H s) (ok : BlkOk X.N X.env.scope scope own) (T : Turn X.prog X.w X.K tg J fp it tn) (ht : tn 0 s.heap) (hf : ∀ b ∈ fp, FpOk X pins H b ∧ b < s.heap.objs.size)
    (hW : W 0 m0 H) (turn : TurnsOf J g tt te σ (own.map (·.2)) D Q W) (hY : BlkRules X pins σ scope tg elt ifs g tt te)
    (fin : ∀ s' H', Inv X pins σ H' s' → Q (.ref D) H' → (∃ m, s'.heap.Ns s.heap.objs.size m) → FpOk X pins H' s.heap.objs.size → R (.ok .next) s') :
    codeAny (model X.prog X.w) X.A (.compStart (.ListComp elt [⟨tg, iter, ifs, 0⟩] scope pos) 0 (.ref it) (.ref D) (compEnvC scope (cellsFrom (s.heap.objs.size + 1) scope.names (cloFrom X.env.cells scope.names [])) s.heap.objs.size X.env))
      R { s with heap := pushCells (s.heap.push { cls := .type "dict", data := .dict #[] }) scope.names } := by
  have gives : Gives X pins σ (X.blk s H scope (compEnvC scope (cellsFrom (s.heap.objs.size + 1) scope.names (cloFrom X.env.cells scope.names [])) s.heap.objs.size X.env) fp) := fun pn σ' H' s' Z =>
    I.call' (ch := fp) Z.os Z.base Z.hok Z.bare fun b hb => let z := (hf b hb).1; ⟨z.2.2.2.1, z.2.1, z.2.2.2.2.1, z.2.2.2.2.2⟩
  obtain ⟨pg, pt, pe⟩ := hY s H s.heap.objs.size _ fp gives
  have B0 := block_start I ok hN hf
  have t0 : tn 0 ({ s with heap := pushCells (s.heap.push { cls := .type "dict", data := .dict #[] }) scope.names } : Shared).heap := T.keep _ _ _ ht fun b _ o e => pushCells_keeps _ _ _ _ (Heap.get?_push_of_some _ e)
  have n0 : ∀ b ∈ fp, H b = none := fun b hb => (hf b hb).1.1
  have loc : (compEnvC scope (cellsFrom (s.heap.objs.size + 1) scope.names (cloFrom X.env.cells scope.names [])) s.heap.objs.size X.env).locals = s.heap.objs.size := rfl
  generalize compEnvC scope (cellsFrom (s.heap.objs.size + 1) scope.names (cloFrom X.env.cells scope.names [])) s.heap.objs.size X.env = ce at gives pg pt pe B0 loc ⊢
  generalize ({ s with heap := pushCells (s.heap.push { cls := .type "dict", data := .dict #[] }) scope.names } : Shared) = s0 at B0 t0 ⊢
  have stand : ∀ {σ' : L2.St} {H' : Hp} {s' : Shared}, Inv (X.blk s H scope ce fp) [] σ' H' s' → (∀ b ∈ fp, H' b = none) → ∀ b ∈ fp, FpOk (X.blk s H scope ce fp) [] H' b := fun {σ' H' s'} Z n b hb => by
    obtain ⟨e1, e2⟩ := Z.ok.exf b hb
    exact ⟨n b hb, e1, Z.ok.exfs b hb, .inl hb, e2, fun p hp => absurd hp (List.not_mem_nil)⟩
  have loop : codeAny (model X.prog X.w) X.A (.compLoop (.ListComp elt [⟨tg, iter, ifs, 0⟩] scope pos) 0 (.ref it) (.ref D) ce) R s0 := by
    refine compLoop_any (fun n s' => ∃ i H', Inv (X.blk s H scope ce fp) [] (wipe σ (own.map (·.2))) H' s' ∧ tn i s'.heap ∧ (∀ b ∈ fp, H' b = none) ∧ W i n H') (fun n s1 at1 => ?_) m0 ⟨0, H, B0, t0, n0, hW⟩
    obtain ⟨i, H1, B1, t1, n1, w1⟩ := at1
    rcases turn i n H1 w1 with ⟨st, q⟩ | ⟨go, Nx, less, step⟩
    case inl =>
      refine thnF (T.done (X.blk s H scope ce fp) rfl rfl rfl hc i [] s1 _ H1 (fun _ _ => False) B1 (stand B1 n1) t1 st) fun r s2 hr => ?_
      obtain ⟨rfl, B2⟩ := hr
      have free : H1 s.heap.objs.size = none := loc ▸ (show H1 ce.locals = none from B2.free)
      obtain ⟨m, ns, _⟩ := B2.loc
      exact fin s2 H1 (gives _ _ _ _ B2) q ⟨m, loc ▸ (show s2.heap.Ns ce.locals m from ns)⟩ (I.fpOk (Nat.le_refl _) free)
    case inr =>
      refine thnF (T.item (X.blk s H scope ce fp) rfl rfl rfl hc i [] s1 _ H1 (fun _ _ => False) B1 (stand B1 n1) t1 go) fun r s2 hr => ?_
      obtain ⟨u, rfl, hu⟩ := hr
      refine thnF hu fun _ s3 h3 => ?_
      obtain ⟨x, H3, B3, rx, y3, t3, n3⟩ := h3
      have P3 := B3.pinned (stand B3 n3) (T.obj _ _ t3)
      refine thnF (pg.run _ s3 _ H3 x u _ P3 rx (step x H3 y3)) fun _ s4 h4 => ?_
      obtain ⟨σ4, H4, B4, wd, q4⟩ := h4
      have onward : ∀ {s' : Shared} {H' : Hp}, Inv (X.blk s H scope ce fp) ([] ++ pinsAt fp s3.heap) σ4 H' s' → Nx H' → ∃ m, m < n ∧ ∃ i H', Inv (X.blk s H scope ce fp) [] (wipe σ (own.map (·.2))) H' s' ∧ tn i s'.heap ∧ (∀ b ∈ fp, H' b = none) ∧ W i m H' := fun {s' H'} B' nx => by
        obtain ⟨m, lt, w'⟩ := less H' nx
        have held : ∀ b ∈ fp, ∀ o, s3.heap.get? b = some o → s'.heap.get? b = some o ∧ H' b = none := fun b hb o e =>
          have z := B'.pin (b, o) (List.mem_append_right _ (List.mem_append_right _ (mem_pinsAt hb e)))
          ⟨z.1, z.2.1⟩
        have same : (wipe σ (own.map (·.2))).length = σ4.length := by rw [← wd]; exact wipe_length σ4 _
        refine ⟨m, lt, i + 1, H', (B'.unpinned (pins := [])).weak same (fun j v e => (wipe_some (wd.symm ▸ e)).1), T.keep _ _ _ t3 fun b hb o e => (held b hb o e).1, fun b hb => ?_, w'⟩
        obtain ⟨o, e, _⟩ := T.obj _ _ t3 b hb
        exact (held b hb o e).2
      refine thnF (pt.run _ s4 σ4 H4 _ B4 q4) fun k s5 h5 => ?_
      obtain ⟨H5, B5, q5⟩ := h5
      cases k
      · rw [if_neg Bool.false_ne_true] at q5 ⊢
        exact onward B5 q5
      · rw [if_pos rfl] at q5 ⊢
        refine thnF (pe.run _ s5 σ4 H5 _ B5 q5) fun z s6 h6 => ?_
        obtain ⟨yv, H6, B6, ry, acc, hD, hz, nx⟩ := h6
        exact app_ok (X := X.blk s H scope ce fp) B6 hD hz ry fun s7 B7 => onward B7 nx
  exact codeAny_compStart_list loop (T.self X.A 0 _ _ _ t0 loop)
theorem lc_back {s : Shared} {H : Hp} {wi : TI} (hc : X.calm = true) (hN : X.N.Nodup) (I : Inv X pins σ H s) (hi : PI X tg iter wi) (ok : BlkOk X.N X.env.scope scope own) (hs : ∀ x, foldedSetIterable iter X.env x = pure x)
    (hY : BlkRules X pins σ scope tg elt ifs g tt te) (h : tLc wi g tt te (own.map (·.2)) σ H Q) : wpAny (model X.prog X.w) X.A (eval (.ListComp elt [⟨tg, iter, ifs, 0⟩] scope pos) X.env) (EP X pins σ Q) X.xe s := by
  rw [eval_ListComp]
  have caught : ∀ y ∈ scope.names, y.2 = .free → ∃ c, X.env.cells.lookup y.1 = some c := fun y hy e => (ok.free y hy e).elim (fun k => I.ok.has _ (.inl k)) fun k => I.ok.has _ (.inr k)
  refine wpAny_comprehension_free (use := none) rfl hs (closure_ok caught) ok.kind (fun y hy e => (ok.uniq y hy).trans (congrArg some e)) (thn (hi.run pins s σ H _ I h) fun xv s1 h1 => thn h1 fun itv s2 h2 => ?_)
  obtain ⟨it, fp, tn, J, H2, e2, I2, T, t2, f2, q⟩ := h2
  subst e2
  refine wpAny_newObj_type (newEnv_comp ?_) (Nat.zero_le _)
  have nD : H2 s2.heap.objs.size = none := I2.hok.fresh (Nat.le_refl _)
  obtain ⟨W, ⟨m0, w0⟩, turn⟩ := q s2.heap.objs.size nD
  have old : ∀ b ∈ fp, b < s2.heap.objs.size := fun b hb => (T.obj _ _ t2 b hb).elim fun o z => Heap.lt_size z.1
  have kept : ∀ b o, s2.heap.get? b = some o → (s2.heap.push { cls := .type "list", data := .seq ([] : List Value).toArray }).get? b = some o := fun b o e => Heap.get?_push_of_some _ e
  have I3 : Inv X pins σ (upd H2 s2.heap.objs.size (.lst [])) { s2 with heap := s2.heap.push { cls := .type "list", data := .seq ([] : List Value).toArray } } := I2.laid (t' := s2.toks) kept (Nat.le_refl _) ⟨Nat.zero_le _, [], 0, .nil, Heap.get?_push_size _ rfl⟩
  refine lc_turns hc hN I3 ok T (T.keep _ _ _ t2 fun b _ o e => kept b o e) (fun b hb => ?_) w0 turn hY fun s' H' I' q' ns f' => ?_
  · have lt := old b hb
    exact ⟨⟨by rw [upd_ne (Nat.ne_of_lt lt)]; exact (f2 b hb).1, (f2 b hb).2⟩, by rw [Heap.size_push]; exact Nat.lt_succ_of_lt lt⟩
  · obtain ⟨m, ns⟩ := ns
    obtain ⟨a0, a1, a2, a3, a4, a5⟩ := f'
    exact ⟨m, ns, fun h'' sb => ⟨.ref _, H', I'.turned (t' := s'.toks) (fun b o hb e => (sb.2 b hb).trans e) a0 a1 a3 a4 a5, rfl, q'⟩⟩
end
end LamZ
namespace L2.Mi
open PySem PySem.Spec PyProof.Rows L2 LamX LamY LamZ
abbrev GhT := Addr → Hp → List Addr → Prop
/-- a lambda that was made in this frame -/
def LamP (X : Cx) (params : Arguments) (body : Expr) (scope : Scope) : GhT := fun f I _ => ∃ (c' : Addr) (pm ctv : Value), I c' = some (CodeO c' (X.env.qual ++ "<lambda>")) ∧ I f = some (FunO f (PySem.W.kla_obj "<lambda>" (X.env.qual ++ "<lambda>") params body scope (cloFrom X.env.cells scope.names []) pm c' ctv))
def mLam (i : Nat) (G : Nat → GhT) : ME := fun _ c => .ok (.gh i (G i)) c
theorem me_mkLam {X : Cx} {W : WX} {par : Str} {c P : Addr} {i : Nat} {G : Nat → GhT} {params : Arguments} {body : Expr} {scope : Scope} {lpos : Pos} (q : Str) (hG : G i = LamP X params body scope)
    (hq : X.env.qual ++ "<lambda>" = q) (hcP : (c, P, q) ∈ lamL) (hu : ∀ p ∈ lamL, p.2.1 = P → p.2.2 = q) (tb : ∀ p ∈ allL, GxR.TabB X.base X.mg p.1 p.2) (hcode : X.env.code = .ref c)
    (L : LamS1 X.env.scope scope par) (hdef : defaultsOf params X.env = ([], [])) :
    PE X (.Lambda params body scope lpos) (rdE X.K W (mLam i G)) := by
  subst hq
  refine ⟨fun pins s σ H Q J ⟨I0, m, l, c0, R, Lc, A⟩ => ?_⟩
  have tbl := tb (c, P) (List.mem_append_right _ (List.mem_map.mpr ⟨_, hcP, rfl⟩))
  have TT : Tabs (lamL.map (·.2)) H := fun q hq => by
    obtain ⟨p0, h0, rfl⟩ := List.mem_map.mp hq
    exact (R.tabs.l p0 h0).1
  refine lam_make4 J ⟨tbl.code, tbl.bm, tbl.gP⟩ hcode (List.mem_map.mpr ⟨_, hcP, rfl⟩) (fun q hq e => by
    obtain ⟨p0, h0, rfl⟩ := List.mem_map.mp hq
    exact hu p0 h0 e) TT hdef (L.has J.ok) fun f c' pm' ctv H1 s' J1 eN T1 hF hne hco => ?_
  obtain ⟨R1, E1⟩ := R.lamtab hcP eN fun q hq => T1 _ (List.mem_map.mpr ⟨q, hq, rfl⟩)
  obtain ⟨R2, E2⟩ := R1.know (show H1 c' = some (.ext _) from hco)
  obtain ⟨R3, E3⟩ := R2.know (show H1 f = some (.ext _) from hF)
  refine ⟨.ref f, H1, J1, rfl, ?_⟩
  refine A _ m H1 (.ref f) ((E1.trans E2).trans E3) R3 ?_
  show Rep _ _ _ _ (.gh i (G i))
  rw [hG]
  exact Rep.gh (fun I I' m m' s p ⟨c1, a, b, h1, h2⟩ => ⟨c1, a, b, s _ _ h1, s _ _ h2⟩) ⟨c', pm', ctv, by rw [upd_ne hne, upd_same]; rfl, upd_same⟩
open Classical in
noncomputable def ghRun (n : Nat) (b : ME → MS) (G : Nat → GhT) (fes : List ME) (l : Ls) (ds : List D) (c : Cs) : R D := match ds with
  | [.gh i G'] => if G' = G i then (match fes[i]? with
    | some fe => noX (mFun n 1 (b fun _ c' => fe l c') [.non] c)
    | none => .stuck) else .stuck
  | _ => .stuck
theorem ghRun_at {n : Nat} {b : ME → MS} {G : Nat → GhT} {fes : List ME} {l : Ls} {c : Cs} {i : Nat} {fe : ME} (h : fes[i]? = some fe) : ghRun n b G fes l [.gh i (G i)] c = noX (mFun n 1 (b fun _ c' => fe l c') [.non] c) := by
  unfold ghRun
  simp only [h]
  exact if_pos trivial
noncomputable def mGhCall (n : Nat) (b : ME → MS) (G : Nat → GhT) (l0 : Ls) (fes : List ME) (ga : MA) : ME := fun l c => (ga l c).bind fun ds c1 => ghRun n b G fes l0 ds c1
structure GhBody (X : Cx) (k : Nat) (P : GhT) (fe : ME) : Prop where
  ex : ∃ (params : Arguments) (body : Expr) (scope : Scope) (par : Str), P = LamP X params body scope ∧ LamS1 X.env.scope scope par ∧ (∀ i : Nat, X.N[i]? ≠ some par) ∧
    (∀ (q : Str) (cl : List (Str × Addr)) (pm cv ctv u : Value), bindArgs (PySem.W.kla_fn "<lambda>" q params body scope cl pm cv ctv) ⟨[u], []⟩ = pure [(par, u)]) ∧
    ∀ (A : Around) (outer : List Env) (s : Shared) (H : Hp) (E : XK) (f c' : Addr), Room k (A.deeper (lamEnv X scope s.heap.objs.size f c')) → A.guards = X.A.guards → PE (lamCx X A outer s H E scope f c') body (rdE X.K (fun cls d _ H' => E cls d H') fe)
theorem ghBody {X : Cx} {k : Nat} {P : GhT} {fe : ME} {params : Arguments} {body : Expr} {scope : Scope} (par : Str) (XN : List Str) (hP : P = LamP X params body scope) (hXN : X.N = XN) (L : LamS1 X.env.scope scope par) (hNp : par ∉ XN)
    (hbind : ∀ (q : Str) (cl : List (Str × Addr)) (pm cv ctv u : Value), bindArgs (PySem.W.kla_fn "<lambda>" q params body scope cl pm cv ctv) ⟨[u], []⟩ = pure [(par, u)])
    (hbody : ∀ (A : Around) (outer : List Env) (s : Shared) (H : Hp) (E : XK) (f c' : Addr), Room k (A.deeper (lamEnv X scope s.heap.objs.size f c')) → A.guards = X.A.guards → PE (lamCx X A outer s H E scope f c') body (rdE X.K (fun cls d _ H' => E cls d H') fe)) :
    GhBody X k P fe := ⟨⟨params, body, scope, par, hP, L, fun i e => hNp (hXN ▸ List.mem_of_getElem? e), hbind, hbody⟩⟩
/-- at most four -/
def ghs (a b c d : GhT) : Nat → GhT
  | 0 => a
  | 1 => b
  | 2 => c
  | _ => d
theorem gh_nil {X : Cx} {k j : Nat} {G : Nat → GhT} : ∀ i fe, ([] : List ME)[i]? = some fe → GhBody X k (G (i + j)) fe := fun i fe h => by simp at h
theorem gh_cons {X : Cx} {k j : Nat} {G : Nat → GhT} {f : ME} {fs : List ME} (h : GhBody X k (G j) f) (t : ∀ i fe, fs[i]? = some fe → GhBody X k (G (i + (j + 1))) fe) : ∀ i fe, (f :: fs)[i]? = some fe → GhBody X k (G (i + j)) fe
  | 0, fe, e => by
    cases e
    rw [Nat.zero_add]; exact h
  | i + 1, fe, e => by
    have := t i fe e
    rwa [show i + (j + 1) = i + 1 + j by omega] at this
/-! a def whose text does not lie on the frame's ghosts -/
open Classical in
noncomputable def parR (F : (Nat → GhT) → R D) : R D := if h : ∃ r, ∀ G, F G = r then Classical.choose h else .stuck
theorem parR_at {F : (Nat → GhT) → R D} {r : R D} (h : ∀ G, F G = r) : parR F = r := by
  have hx : ∃ r, ∀ G, F G = r := ⟨r, h⟩
  unfold parR
  rw [dif_pos hx]
  have := Classical.choose_spec hx (fun _ _ _ _ => True)
  rw [← this, h]
theorem parR_all {F : (Nat → GhT) → R D} (h : parR F ≠ .stuck) (G : Nat → GhT) : F G = parR F := by
  unfold parR at h ⊢
  by_cases hx : ∃ r, ∀ G, F G = r
  · rw [dif_pos hx]
    exact Classical.choose_spec hx G
  · rw [dif_neg hx] at h
    exact absurd rfl h
theorem me_ghCallB {X : Cx} {k : Nat} {x a : Str} {g : Addr} {fd : FuncData} {st : Stmt} {N : List Str} {b : ME → MS} {G : Nat → GhT} {fes : List ME} {ga : MA} {e : Expr} {p pos : Pos} {pins0 : List (Addr × Obj)} {σ0 : St} {l0 : Ls} {s0 : Shared} {H0 : Hp} {scope0 : Scope} {ce : Env} {fp : List Addr}
    (back : ∀ pn σ' H' s', Inv (X.blk s0 H0 scope0 ce fp) pn σ' H' s' → Inv X pins0 σ0 H' s')
    (F : Fun X.K x x st g fd) (S : FnScope N [a] (defScope st)) (Gf : LamFn X.prog X.w X.K X.mg X.base (k + 1) g x st N a b) (hN0 : N[0]? = some a) (hva : Vis (defScope st) a) (hpar : LamPar N.length b)
    (hr : Room (k + 2) X.A) (hgd : X.A.guards = some []) (hg : Gl (X.blk s0 H0 scope0 ce fp) x) (hm : X.mg x = some (.ref g)) (hk : PySem.W.keepIn X.K (.ref g) = true) (hb : Binds X.K fd [a] [])
    (hB : ∀ i fe, fes[i]? = some fe → GhBody X k (G (i + 0)) fe) (ha : PA (X.blk s0 H0 scope0 ce fp) [e] (rdA X.K W0 ga))
    (hst : starEach [e] ce = (false, eval e ce) :: starEach [] ce := by rfl) (hpl : (backTo pos (starEach [] ce)).any (·.1) = false := by rfl)
    (hdb : (x == ("__debug__" : Str)) = false := by decide) (hd : (a == ("__debug__" : Str)) = false := by decide) (hcd : (a == ("__classdict__" : Str)) = false := by decide) :
    PE (X.blk s0 H0 scope0 ce fp) (.Call (.Name x p) [e] [] pos) (rdE X.K W0 (mGhCall N.length b (fun i f I m => G i f I m ∧ Locs X.K I m σ0 l0) l0 fes ga)) := by
  refine ⟨fun pins s σ H Q J ⟨I, m, l, c, R, L, A⟩ => ?_⟩
  let Gl : Nat → GhT := fun i f I m => G i f I m ∧ Locs X.K I m σ0 l0
  obtain ⟨oc, od, kV, doc, pm, an, cdv, ct, osl, rfl, lk, hcd0⟩ := F.ex
  refine wpAny_Call_Name_kw (ld_glob J hg hm ?_ hdb)
  refine PySem.W.callWith_K (h₀ := X.base) J.ok.mod.kin hk (thn (ha.run pos pins s σ H _ J ⟨I, m, l, c, R, L, After.bind (rep := rA X.K) A⟩) fun us s1 ⟨vs, H1, J1, r, I1, m1, c1, ds, E1, R1, p1, A1⟩ => ⟨J1.kIn, ?_⟩) hst hpl
  have A1 : After (rD X.K) X.K I1 m1 H1 (fun cls dd H' => W0 cls dd σ H') Q (ghRun N.length b Gl fes l0 ds c1) := A1
  cases p1 with
  | nil => exact A1.elim
  | cons h t =>
  cases t with
  | cons h' t' => cases h <;> exact A1.elim
  | nil =>
  cases h with
  | @gh f i G' gm hgf =>
    by_cases hG : G' = Gl i
    case neg =>
      have A1 : After (rD X.K) X.K I1 m1 H1 (fun cls dd H' => W0 cls dd σ H') Q (ghRun N.length b Gl fes l0 [.gh i G'] c1) := A1
      rw [show ghRun N.length b Gl fes l0 [.gh i G'] c1 = .stuck from if_neg hG] at A1
      exact A1.elim
    case pos =>
    subst hG
    cases hfe : fes[i]? with
    | none =>
      have z : ghRun N.length b Gl fes l0 [.gh i (Gl i)] c1 = .stuck := by
        unfold ghRun
        simp only [hfe]
        exact if_pos trivial
      rw [z] at A1
      exact A1.elim
    | some fe =>
    rw [ghRun_at hfe] at A1
    obtain ⟨params, body, scope, par, eP, LS, hNp, hbind, hbody⟩ := (hB i fe hfe).ex
    rw [Nat.add_zero] at eP
    obtain ⟨hgf, Lc⟩ := hgf
    rw [eP] at hgf
    obtain ⟨c', pm', ctv, h1, h2⟩ := hgf
    have IX := back _ _ _ _ J1
    have hF := R1.same _ _ h2
    obtain ⟨us0, rfl⟩ : ∃ u0, us = [u0] := by
      have := r.length
      match us, this with
      | [u0], _ => exact ⟨u0, rfl⟩
    obtain rfl : us0 = Value.ref f := by
      cases r with
      | cons r0 _ => exact r0
    let Gd : GhT := fun v I m => v = f ∧ I c' = some (CodeO c' (X.env.qual ++ "<lambda>")) ∧ I f = some (FunO f (PySem.W.kla_obj "<lambda>" (X.env.qual ++ "<lambda>") params body scope (cloFrom X.env.cells scope.names []) pm' c' ctv)) ∧ Locs X.K I m σ0 l0
    have rep : Rep X.K I1 m1 (.ref f) (.gh 0 Gd) := Rep.gh (fun I I' m m' s p h => ⟨h.1, s _ _ h.2.1, s _ _ h.2.2.1, h.2.2.2.up s p⟩) (show Gd f _ m1 from ⟨rfl, h1, h2, Lc⟩)
    rw [← hpar 0 Gd (fun c' => fe l0 c') c1] at A1
    have rc : codeAny (model X.prog X.w) X.A (.call (.ref g) ⟨[.ref f], []⟩) (CR (CX X.prog X.w) X.stack X.prog X.w H1 s1 Q (fun _ _ _ => False)) s1 := by
      refine run_ofS (k := k + 1) (N := N) (ps := [a]) (us := [.ref f]) (vs := [.ref f]) lk hcd0 S hr J1.env0 (hb s1 [.ref f] J1.kIn rfl) (.cons rfl .nil) rfl fun hr' => ?_
      refine ⟨_, Gf.run cdv X.A X.stack s1 H1 (fun _ _ _ => False) hr' hgd (actL 0 Gd fun c' => fe l0 c') (fun W pn xe tk p1 p2 j p3 => ?_), ?_⟩
      · refine PEi (pe_act2 (i := 0) (t := fun E => rdE X.K (fun cls d _ H' => E cls d H') fe) IX LS (fun i v e1 _ => absurd e1 (hNp i)) (f := f) (c' := c') (pm := pm') (ctv := ctv) (fun u => hbind _ _ _ _ _ u) tk hr' (fun A outer s H E hr2 hg2 => hbody A outer s H E f c' hr2 hg2) hN0 hva hd hcd) fun σZ HZ Q2 ⟨I2, m2, lz, c2, Rz, Lz, Az⟩ => ?_
        by_cases h0 : lz[0]? = some (some (.gh 0 Gd))
        · rw [actL_at h0] at Az
          obtain ⟨v, e1, e2⟩ := Lz.at_ 0 _ h0
          cases e2 with
          | gh gm hgd =>
            obtain ⟨rfl, h1, h2, h3⟩ := hgd
            exact ⟨e1, Rz.same _ _ h1, Rz.same _ _ h2, I2, m2, l0, c2, Rz, h3, Az⟩
        · have Az : After (rD X.K) X.K I2 m2 HZ _ Q2 (actL 0 Gd (fun c' => fe l0 c') lz c2) := Az
          rw [show actL 0 Gd (fun c' => fe l0 c') lz c2 = .stuck from if_neg h0] at Az
          exact Az.elim
      · have A2 : After (rD X.K) X.K I1 m1 H1 (fun cls dd H' => W0 cls dd σ H') Q (noX (match b (actL 0 Gd fun c' => fe l0 c') ([D.gh 0 Gd].map some ++ List.replicate (N.length - 1) none) c1 with
          | .go (.rt d) c' => .ok d c'
          | .go (.nx _) c' => .ok .non c'
          | .exc x _ c' => .exc x c'
          | _ => .stuck)) := by
          have e : mFun N.length 1 (b (actL 0 Gd fun c' => fe l0 c')) [.gh 0 Gd] c1 = _ := if_pos rfl
          rw [e] at A1
          exact A1
        refine ⟨_, m1, [D.gh 0 Gd].map some ++ List.replicate (N.length - 1) none, c1, R1, locs_start (.cons rep .nil), ?_⟩
        show AfterS _ _ _ _ _ _ (b (actL 0 Gd fun c' => fe l0 c') ([D.gh 0 Gd].map some ++ List.replicate (N.length - 1) none) c1)
        cases q : b (actL 0 Gd fun c' => fe l0 c') ([D.gh 0 Gd].map some ++ List.replicate (N.length - 1) none) c1 with
        | stuck => rw [q] at A2; exact A2.elim
        | exc x l' c' => rw [q] at A2; exact A2.elim
        | go fl c' =>
          rw [q] at A2
          cases fl with
          | nx l' => exact fun I' m' H' σ' e' r' _ => A2 I' m' H' .non e' r' Rep.non
          | rt d => exact fun I' m' H' v e' r' pv => A2 I' m' H' v e' r' pv
          | bk l' => exact A2.elim
          | ct l' => exact A2.elim
    refine wpAny_call (codeAny_mono rc fun r s2 hq => ?_)
    cases r with
    | error e =>
      obtain ⟨_, _, _, _, _, _, _, _, _, _, _, _, z⟩ := hq
      exact z.elim
    | ok fl =>
      cases fl with
      | ret u => exact J1.after hq
      | next => exact False.elim hq
      | brk => exact False.elim hq
      | cont => exact False.elim hq
  | _ => exact A1.elim
theorem reps_gh {K : PySem.W.Frag} {I : Hp} {m : List Addr} {σ : St} {l : Ls} {G : Nat → GhT} (L : Locs K I m σ l) : ∀ (is : List Nat) {vs : List V}, Reps K I m vs (is.map fun i => D.gh i (G i)) → Reps K I m vs (is.map fun i => D.gh i fun f I m => G i f I m ∧ Locs K I m σ l)
  | [], _, h => by
    cases h
    exact .nil
  | i :: is, _, h => by
    cases h with
    | cons h t =>
      refine .cons ?_ (reps_gh L is t)
      cases h with
      | gh gm hg => exact Rep.gh (fun I I' m m' s p h => ⟨gm _ _ _ _ s p h.1, h.2.up s p⟩) ⟨hg, L⟩
def ghL (G : Nat → GhT) (n : Nat) : List D := (List.range n).map fun i => D.gh i (G i)
open Classical in
noncomputable def mGhAll (n : Nat) (b : ME → MS) (G : Nat → GhT) (fes : List ME) (j kk : Nat) : ME := fun l c => if l[j]? = some (some (.lst (ghL G fes.length))) then
  parR (fun G' => mLcW (kAny (mVar j)) [kk] (gN kk) tYesM (mGhCall n b G' l fes (aCons (mVar kk) aNil)) (l.set j (some (.lst (ghL G' fes.length)))) c) else .stuck
theorem me_ghAll {X : Cx} {W : WX} {k : Nat} {x a v : Str} {g : Addr} {fd : FuncData} {st : Stmt} {N : List Str} {b : ME → MS} {G : Nat → GhT} {fes : List ME} {j kk : Nat} {e iter : Expr} {scope : Scope} {p pt pos lpos : Pos}
    (hc : X.calm = true) (hN : X.N.Nodup) (hi : PI X (.Name v pt) iter (rdK X.K W (kAny (mVar j)))) (ok : BlkOk X.N X.env.scope scope [(v, kk)])
    (hg : ∀ (s : Shared) (H : Hp) (C : Addr) (cl : List (Str × Addr)) (fp : List Addr), PG (X.blk s H scope (compEnvC scope cl C X.env) fp) (.Name v pt) (gName kk))
    (ht : ∀ (s : Shared) (H : Hp) (C : Addr) (cl : List (Str × Addr)) (fp : List Addr), PTs (X.blk s H scope (compEnvC scope cl C X.env) fp) [] (rdT X.K W0 tYesM))
    (F : Fun X.K x x st g fd) (S : FnScope N [a] (defScope st)) (Gf : LamFn X.prog X.w X.K X.mg X.base (k + 1) g x st N a b) (hN0 : N[0]? = some a) (hva : Vis (defScope st) a) (hpar : LamPar N.length b)
    (hr : Room (k + 2) X.A) (hgd : X.A.guards = some []) (hgl : ∀ (s : Shared) (H : Hp) (C : Addr) (cl : List (Str × Addr)) (fp : List Addr), Gl (X.blk s H scope (compEnvC scope cl C X.env) fp) x) (hm : X.mg x = some (.ref g)) (hk : PySem.W.keepIn X.K (.ref g) = true) (hb : Binds X.K fd [a] [])
    (hB : ∀ i fe, fes[i]? = some fe → GhBody X k (G (i + 0)) fe) (ha : ∀ (s : Shared) (H : Hp) (C : Addr) (cl : List (Str × Addr)) (fp : List Addr), PA (X.blk s H scope (compEnvC scope cl C X.env) fp) [e] (rdA X.K W0 (aCons (mVar kk) aNil)))
    (hst : ∀ ce, starEach [e] ce = (false, eval e ce) :: starEach [] ce := by intro _; rfl) (hpl : ∀ ce, (backTo pos (starEach [] ce)).any (·.1) = false := by intro _; rfl) (hs : ∀ y, foldedSetIterable iter X.env y = pure y := by intro _; rfl)
    (hdb : (x == ("__debug__" : Str)) = false := by decide) (hd : (a == ("__debug__" : Str)) = false := by decide) (hcd : (a == ("__classdict__" : Str)) = false := by decide) :
    PE X (.ListComp (.Call (.Name x p) [e] [] pos) [⟨.Name v pt, iter, [], 0⟩] scope lpos) (rdE X.K W (mGhAll N.length b G fes j kk)) := by
  refine ⟨fun pins s σ H Q J ⟨I, m, l, c, R, L, A⟩ => ?_⟩
  by_cases hl : l[j]? = some (some (.lst (ghL G fes.length)))
  case neg =>
    have A : After (rD X.K) X.K I m H (fun cls dd H' => W cls dd σ H') Q (mGhAll N.length b G fes j kk l c) := A
    rw [show mGhAll N.length b G fes j kk l c = .stuck from if_neg hl] at A
    exact A.elim
  case pos =>
  have A : After (rD X.K) X.K I m H (fun cls dd H' => W cls dd σ H') Q (mGhAll N.length b G fes j kk l c) := A
  rw [show mGhAll N.length b G fes j kk l c = parR _ from if_pos hl] at A
  rw [← parR_all (after_nonstuck A) (fun i f I m => G i f I m ∧ Locs X.K I m σ l)] at A
  have L' : Locs X.K I m σ (l.set j (some (.lst (ghL (fun i f I m => G i f I m ∧ Locs X.K I m σ l) fes.length)))) := by
    refine ⟨by rw [List.length_set]; exact L.len, fun i d h => ?_⟩
    by_cases hij : j = i
    · subst hij
      have hj : j < l.length := (List.getElem?_eq_some_iff.mp hl).1
      rw [List.getElem?_set_self hj] at h
      cases h
      obtain ⟨v, h1, h2⟩ := L.at_ j _ hl
      refine ⟨v, h1, ?_⟩
      cases h2 with
      | lst h3 h4 => exact .lst h3 (reps_gh L _ h4)
    · rw [List.getElem?_set_ne hij] at h
      exact L.at_ i d h
  refine lc_back (own := [(v, kk)]) hc hN J hi ok hs (fun s H C cl fp back => ⟨hg s H C cl fp, ht s H C cl fp, me_ghCallB back F S Gf hN0 hva hpar hr hgd (hgl s H C cl fp) hm hk hb hB (ha s H C cl fp) (hst _) (hpl _) hdb hd hcd⟩) (lc_readW (good_name (by simp)) rg_name ⟨I, m, _, c, R, L', A⟩)
noncomputable def parFun (n a : Nat) (b : (Nat → GhT) → MS) : List D → Cs → R D := fun ds c => parR fun G => mFun n a (b G) ds c
theorem gfn_ofP {P : Program} {w : World} {K : PySem.W.Frag} {mg : Str → Option Value} {base : Heap} {k : Nat} {x qual : Str} {st : Stmt} {f : Addr} {fd : FuncData} {N ps : List Str} {b : (Nat → GhT) → MS} (F : Fun K x qual st f fd) (S : FnScope N ps (defScope st))
    (hb : ∀ (cdv : Value), fd.code = cdv → ∀ (A : Around) (outer : List Env) (s : Shared) (H : Hp) (E : XK), Room k (A.deeper (envOfC qual (defScope st) s.heap.objs.size f cdv)) → A.guards = some [] →
      ∃ G : Nat → GhT, PSs (cxOf (CX P w) P w K mg base N qual (defScope st) f cdv A outer s H E) (defBody st) (rdS K (fun cls d _ H' => E cls d H') (b G))) : GFn P w K mg base (k + 1) f fd ps (parFun N.length ps.length b) := by
  obtain ⟨oc, od, kV, doc, pm, an, cdv, ct, osl, rfl, lk, hcd⟩ := F.ex
  have len : ∀ ds c, parFun N.length ps.length b ds c ≠ .stuck → ds.length = ps.length := fun ds c h => by
    by_cases hl : ds.length = ps.length
    · exact hl
    · have e := parR_all h (fun _ _ _ _ => True)
      exact absurd (e.symm.trans (if_neg hl)) h
  refine ⟨len, fun A outer s H args us vs Q E I m c ds hr hg e0 hbd rv R p a => ?_⟩
  have hl := len ds c (after_nonstuck a)
  have hlv : vs.length = ps.length := p.length.trans hl
  have KX : K.In s.heap := e0.mod.kin.keeps fun b o e => (e0.bs b o e).1
  have lim : s.heap.NoLimit := e0.mod.nolimit.keeps fun b o e => (e0.bs b o e).1
  have hkind : ∀ y ∈ ps.zip us, (defScope st).names.lookup y.1 = some .local ∨ ((defScope st).names.lookup y.1 = some .cell ∧ ((cellsFrom (s.heap.objs.size + 1) (defScope st).names []).lookup y.1).isSome = true) := fun ⟨n, v⟩ hy => by
    rcases S.par n (List.of_mem_zip hy).1 with q | q
    · exact Or.inl q
    · exact Or.inr ⟨q, PySem.W.cellsFrom_some _ _ _ (Or.inl q)⟩
  refine codeAny_call_function hr.depth (KX _ _ lk) rfl S.co S.gen rfl (PySem.W.codeRec_of KX hcd) (hbd _ _ _ _ ?_)
  refine wpAny_newFunctionEnv_cells S.kind hkind fun env he s1 y => ?_
  subst he
  refine ⟨lim.keeps y.toInCall.keep, codeAny_func ?_⟩
  have J := inv_start (CX := CX P w) (E := E) (cd := cdv) (qual := qual) (f := f) S hr.hd e0 hlv rv y
  obtain ⟨G, hG⟩ := hb cdv rfl A outer s H E (hr.deeper _) hg
  have aG : After (rD K) K I m H E Q (mFun N.length ps.length (b G) ds c) := by
    rw [parR_all (after_nonstuck a) G]
    exact a
  have a2 : After (rD K) K I m H E Q (match b G (ds.map some ++ List.replicate (N.length - ps.length) none) c with
    | .go (.rt d) c' => .ok d c'
    | .go (.nx _) c' => .ok .non c'
    | .exc x _ c' => .exc x c'
    | _ => .stuck) := by
    have e : mFun N.length ps.length (b G) ds c = _ := if_pos hl
    rw [e] at aG
    exact aG
  have hst : rdS K (fun cls d _ H' => E cls d H') (b G) { nx := fun _ H' => Q .non H', rt := Q } (start N vs) H := by
    refine ⟨I, m, ds.map some ++ List.replicate (N.length - ps.length) none, c, R, by rw [← hl]; exact locs_start p, ?_⟩
    cases q : b G (ds.map some ++ List.replicate (N.length - ps.length) none) c with
    | stuck => rw [q] at a2; exact a2.elim
    | exc x l' c' => rw [q] at a2; exact fun I' m' H' σ' cls dd e' r' _ px => a2 I' m' H' cls dd e' r' px
    | go fl c' =>
      rw [q] at a2
      cases fl with
      | nx l' => exact fun I' m' H' σ' e' r' _ => a2 I' m' H' .non e' r' Rep.non
      | rt d => exact fun I' m' H' v e' r' pv => a2 I' m' H' v e' r' pv
      | bk l' => exact a2.elim
      | ct l' => exact a2.elim
  refine wpAny_mono (hG.run [] s1 (start N vs) H _ J hst) (fun fl s' hs => ?_) fun e s' hs => hs
  have fin : ∀ {σ' : St} {H' : Hp} {v : V} {u : Value}, Inv (cxOf (CX P w) P w K mg base N qual (defScope st) f cdv A outer s H E) [] σ' H' s' → RelV v u → Q v H' → CE outer P w H s Q u s' :=
    fun {σ' H' v u} Z rv q => ⟨v, H', Z.os, Z.bare, Z.base, Z.hok, rv, q⟩
  cases fl with
  | ret u =>
    obtain ⟨v, σ', H', Z, rv, q⟩ := hs
    exact fin Z rv q
  | next =>
    obtain ⟨σ', H', Z, q⟩ := hs
    exact fin (v := V.non) (u := Value.none) Z rfl q
  | brk =>
    obtain ⟨_, _, _, q⟩ := hs
    exact False.elim q
  | cont =>
    obtain ⟨_, _, _, q⟩ := hs
    exact False.elim q
end L2.Mi

namespace L2.Lw
open PySem PySem.Spec PyProof.Rows L2 L2.Mi
def top (i : Nat) : Stmt := PySem.Challenge.pw_weavegraph_k08_who_lies_over_whom.main.body.getD i (.Pass ⟨0, 0, 0, 0⟩)
abbrev s_law_box : Stmt := top 26
abbrev s_law_cell : Stmt := top 25
abbrev s_law_take : Stmt := top 27
abbrev s_law_rows : Stmt := top 29
abbrev s_law_threads : Stmt := top 30
abbrev sis_sequence : Stmt := top 14
abbrev sis_pattern : Stmt := top 20
abbrev sare_rows : Stmt := top 21
abbrev sCloth____init__ : Stmt := inClass (top 23) 1
abbrev s_law_lies_over : Stmt := top 31
abbrev sis_integer : Stmt := top 13
abbrev sis_thread : Stmt := top 15
abbrev sCloth__weft_count : Stmt := inClass (top 23) 12
abbrev sCloth__warp_count : Stmt := inClass (top 23) 11
abbrev sCloth____contains__ : Stmt := inClass (top 23) 6
abbrev sCloth__threads : Stmt := inClass (top 23) 14
abbrev sCloth__crossed : Stmt := inClass (top 23) 15
abbrev scrossing_of : Stmt := top 17
abbrev sis_crossing : Stmt := top 16
abbrev sCloth____getitem__ : Stmt := inClass (top 23) 7
abbrev sCloth__over : Stmt := inClass (top 23) 16
abbrev sCloth__below : Stmt := inClass (top 23) 17
abbrev sCloth__score : Stmt := inClass (top 23) 19
abbrev sCloth__above : Stmt := inClass (top 23) 18
abbrev sCloth__score_lists : Stmt := inClass (top 23) 20
abbrev s_law_lists_right : Stmt := top 32
abbrev s_law_odd : Stmt := top 28
abbrev s_law_is_thread : Stmt := top 34
abbrev s_law_caught : Stmt := top 33
abbrev s_law_pair_right : Stmt := top 35
abbrev s_law_one_right : Stmt := top 36
abbrev slaw : Stmt := top 37
abbrev sxInvalidCrossing : Stmt := inClass (top 6) 0
abbrev sxInvalidRows : Stmt := inClass (top 7) 0
abbrev sxInvalidThread : Stmt := inClass (top 5) 0
noncomputable def c_law_box : MS := sRet (mLstM (aCons (mCB max2 (aCons (mC (.int 0)) (aCons (mOp subD (mVar 0) (mOp powI (mC (.int 10)) (mC (.int 18)))) (aNil)))) (aCons (mOp modI (mVar 0) (mC (.int 2147483629))) (aCons (mC (.int 0)) (aNil)))))
noncomputable abbrev g_law_box : List D → Cs → R D := mFun 1 1 c_law_box
theorem sc_law_box : FnScope ["_law_cell_here"] ["_law_cell_here"] (defScope s_law_box) := ⟨rfl, rfl, rfl, by decide +kernel, rfl, by decide +kernel, by decide +kernel⟩
noncomputable def c_law_cell : MS := sSeq (sIf (mT (mOp ltD (mVar 1) (mCB lenD (aCons (mVar 0) (aNil))))) (sRet (mOp itemD (mVar 0) (mVar 1))) (sNil)) (sRet (mOp addD (mOp mulI (mC (.int 7919)) (mVar 1)) (mC (.int 613))))
noncomputable abbrev g_law_cell : List D → Cs → R D := mFun 2 2 c_law_cell
theorem sc_law_cell : FnScope ["_law_script", "_law_k"] ["_law_script", "_law_k"] (defScope s_law_cell) := ⟨rfl, rfl, rfl, by decide +kernel, rfl, by decide +kernel, by decide +kernel⟩
noncomputable def c_law_take : MS := sSeq (sIf (mT (mOp gtD (mOp itemD (mVar 0) (mC (.int 0))) (mC (.int 0)))) (sSeq (sSet 3 (mOp modI (mOp itemD (mVar 0) (mC (.int 0))) (mVar 1))) (sSeq (sAsg (mOp divI (mOp itemD (mVar 0) (mC (.int 0))) (mVar 1)) (gS (mVar 0) (mC (.int 0)))) (sRet (mVar 3)))) (sNil)) (sSeq (sAsg (mOp addD (mOp itemD (mVar 0) (mC (.int 2))) (mC (.int 1))) (gS (mVar 0) (mC (.int 2)))) (sSeq (sSet 2 (mOp modI (mOp powI (mOp addD (mOp addD (mOp itemD (mVar 0) (mC (.int 1))) (mOp mulI (mC (.int 7907)) (mOp itemD (mVar 0) (mC (.int 2))))) (mC (.int 613))) (mC (.int 5))) (mC (.int 2147483647)))) (sSeq (sSet 2 (mOp modI (mOp powI (mOp addD (mVar 2) (mOp mulI (mC (.int 104723)) (mOp itemD (mVar 0) (mC (.int 2))))) (mC (.int 3))) (mC (.int 2147483587)))) (sRet (mOp modI (mOp divI (mVar 2) (mC (.int 16))) (mVar 1))))))
noncomputable abbrev g_law_take : List D → Cs → R D := mFun 4 2 c_law_take
theorem sc_law_take : FnScope ["_law_box_here", "_law_many", "_law_mixed", "_law_digit"] ["_law_box_here", "_law_many"] (defScope s_law_take) := ⟨rfl, rfl, rfl, by decide +kernel, rfl, by decide +kernel, by decide +kernel⟩
noncomputable def c_law_rows : MS := sSeq (sAsg (mTup (aCons (mOp addD (mC (.int 1)) (mCB g_law_take (aCons (mVar 0) (aCons (mC (.int 8)) (aNil))))) (aCons (mOp addD (mC (.int 1)) (mCB g_law_take (aCons (mVar 0) (aCons (mC (.int 8)) (aNil))))) (aCons (mOp itemD (mLst (aCons (mC (.int 1)) (aCons (mC (.int 2)) (aCons (mC (.int 3)) (aCons (mC (.int 5)) (aNil)))))) (mCB g_law_take (aCons (mVar 0) (aCons (mC (.int 4)) (aNil))))) (aNil))))) (gT [2, 3, 4])) (sSeq (sPar [5, 6] (aCons (mLc (iR1 (aCons (mVar 2) (aNil))) [10] (gN 10) (tYesM) (mCB g_law_take (aCons (mVar 0) (aCons (mVar 4) (aNil))))) (aCons (mLc (iR1 (aCons (mVar 3) (aNil))) [10] (gN 10) (tYesM) (mCB g_law_take (aCons (mVar 0) (aCons (mVar 4) (aNil))))) (aNil)))) (sSeq (sAsg (mTup (aCons (mOp itemD (mLst (aCons (mC (.int 2)) (aCons (mC (.int 2)) (aCons (mC (.int 3)) (aCons (mC (.int 6)) (aNil)))))) (mCB g_law_take (aCons (mVar 0) (aCons (mC (.int 4)) (aNil))))) (aCons (mLstM (aNil)) (aNil)))) (gT [7, 8])) (sSeq (sForW (kAny (mVar 6)) (gN 1) (sSeq (sSet 9 (mLcW (kAny (mVar 5)) [11] (gN 11) (tYesM) (mIf (mT (mOp neX (mVar 11) (mVar 1))) (mCB intFD (aCons (mOp gtD (mVar 11) (mVar 1)) (aNil))) (mCB intFD (aCons (mOp gtD (mCB g_law_take (aCons (mVar 0) (aCons (mVar 7) (aNil)))) (mC (.int 0))) (aNil)))))) (sExpr (mBM appendD (mVar 8) (aCons (mM1 joinX (mC (.str "")) (mLcW (kAny (mVar 9)) [12] (gN 12) (tYesM) (mCB strFD (aCons (mVar 12) (aNil))))) (aNil)))))) (sRet (mFrz (mVar 8))))))
noncomputable abbrev g_law_rows : List D → Cs → R D := mFun 13 1 c_law_rows
theorem sc_law_rows : FnScope ["_law_box_here", "_law_low", "_law_warps", "_law_wefts", "_law_many", "_law_up", "_law_down", "_law_bias", "_law_rows_here", "_law_signs", "_law_k", "_law_high", "_law_sign"] ["_law_box_here"] (defScope s_law_rows) := ⟨rfl, rfl, rfl, by decide +kernel, rfl, by decide +kernel, by decide +kernel⟩
noncomputable def c_law_threads : MS := sRet (mOp addD (mLc (iR1 (aCons (mCB lenD (aCons (mOp itemD (mVar 0) (mC (.int 0))) (aNil))) (aNil))) [1] (gN 1) (tYesM) (mTup (aCons (mC (.str "warp")) (aCons (mVar 1) (aNil))))) (mLc (iR1 (aCons (mCB lenD (aCons (mVar 0) (aNil))) (aNil))) [1] (gN 1) (tYesM) (mTup (aCons (mC (.str "weft")) (aCons (mVar 1) (aNil))))))
noncomputable abbrev g_law_threads : List D → Cs → R D := mFun 2 1 c_law_threads
theorem sc_law_threads : FnScope ["_law_rows_here", "_law_k"] ["_law_rows_here"] (defScope s_law_threads) := ⟨rfl, rfl, rfl, by decide +kernel, rfl, by decide +kernel, by decide +kernel⟩
noncomputable def cis_sequence : MS := sRet (mCB isiD (aCons (mVar 0) (aCons (mTup (aCons (mC (.ty "list")) (aCons (mC (.ty "tuple")) (aNil)))) (aNil))))
noncomputable abbrev gis_sequence : List D → Cs → R D := mFun 1 1 cis_sequence
theorem scis_sequence : FnScope ["value"] ["value"] (defScope sis_sequence) := ⟨rfl, rfl, rfl, by decide +kernel, rfl, by decide +kernel, by decide +kernel⟩
noncomputable def cis_pattern : MS := sRet (mAnd (mCB isiD (aCons (mVar 0) (aCons (mC (.ty "str")) (aNil)))) (mAnd (mOp eqX (mCB lenD (aCons (mVar 0) (aNil))) (mVar 1)) (mCB allD (aCons (mLcW (kAny (mVar 0)) [2] (gN 2) (tYesM) (mOp (inY false) (mVar 2) (mC (.str "01")))) (aNil)))))
noncomputable abbrev gis_pattern : List D → Cs → R D := mFun 3 2 cis_pattern
theorem scis_pattern : FnScope ["value", "length", "sign"] ["value", "length"] (defScope sis_pattern) := ⟨rfl, rfl, rfl, by decide +kernel, rfl, by decide +kernel, by decide +kernel⟩
noncomputable def care_rows : MS := sSeq (sIf (tOrM (tNotM (mT (mCB gis_sequence (aCons (mVar 0) (aNil))))) (tNotM (mT (mChain leD leD (mC (.int 1)) (mCB lenD (aCons (mVar 0) (aNil))) (mVar 1))))) (sRet (mC (.bl false))) (sNil)) (sSeq (sIf (tOrM (tNotM (mT (mCB isiD (aCons (mOp itemD (mVar 0) (mC (.int 0))) (aCons (mC (.ty "str")) (aNil)))))) (tNotM (mT (mChain leD leD (mC (.int 1)) (mCB lenD (aCons (mOp itemD (mVar 0) (mC (.int 0))) (aNil))) (mVar 1))))) (sRet (mC (.bl false))) (sNil)) (sRet (mCB allD (aCons (mLcW (kAny (mVar 0)) [2] (gN 2) (tYesM) (mCB gis_pattern (aCons (mVar 2) (aCons (mCB lenD (aCons (mOp itemD (mVar 0) (mC (.int 0))) (aNil))) (aNil))))) (aNil)))))
noncomputable abbrev gare_rows : List D → Cs → R D := mFun 3 2 care_rows
theorem scare_rows : FnScope ["value", "most", "row"] ["value", "most"] (defScope sare_rows) := ⟨rfl, rfl, rfl, by decide +kernel, rfl, by decide +kernel, by decide +kernel⟩
noncomputable def cCloth____init__ : MS := sSeq (sIf (tNotM (mT (mCB gare_rows (aCons (mVar 1) (aCons (mC (.int 8)) (aNil)))))) (sRaise "InvalidRows" "value" (mVar 1)) (sNil)) (sFldM ["Cloth"] "kept_rows" (mVar 0) (mCB listD (aCons (mVar 1) (aNil))))
noncomputable abbrev gCloth____init__ : List D → Cs → R D := mFun 2 2 cCloth____init__
theorem scCloth____init__ : FnScope ["self", "rows"] ["self", "rows"] (defScope sCloth____init__) := ⟨rfl, rfl, rfl, by decide +kernel, rfl, by decide +kernel, by decide +kernel⟩
noncomputable def c_law_lies_over : MS := sSeq (sIf (mT (mOp eqX (mOp itemD (mVar 1) (mC (.int 0))) (mC (.str "warp")))) (sRet (mOp eqX (mOp itemD (mOp itemD (mVar 0) (mOp itemD (mVar 2) (mC (.int 1)))) (mOp itemD (mVar 1) (mC (.int 1)))) (mC (.str "1")))) (sNil)) (sRet (mOp eqX (mOp itemD (mOp itemD (mVar 0) (mOp itemD (mVar 1) (mC (.int 1)))) (mOp itemD (mVar 2) (mC (.int 1)))) (mC (.str "0"))))
noncomputable abbrev g_law_lies_over : List D → Cs → R D := mFun 3 3 c_law_lies_over
theorem sc_law_lies_over : FnScope ["_law_rows_here", "_law_one", "_law_other"] ["_law_rows_here", "_law_one", "_law_other"] (defScope s_law_lies_over) := ⟨rfl, rfl, rfl, by decide +kernel, rfl, by decide +kernel, by decide +kernel⟩
noncomputable def cis_integer : MS := sRet (mAnd (mCB isiD (aCons (mVar 0) (aCons (mC (.ty "int")) (aNil)))) (mAnd (mNot (mCB isiD (aCons (mVar 0) (aCons (mC (.ty "bool")) (aNil))))) (mChain leD leD (mVar 1) (mVar 0) (mVar 2))))
noncomputable abbrev gis_integer : List D → Cs → R D := mFun 3 3 cis_integer
theorem scis_integer : FnScope ["value", "low", "high"] ["value", "low", "high"] (defScope sis_integer) := ⟨rfl, rfl, rfl, by decide +kernel, rfl, by decide +kernel, by decide +kernel⟩
noncomputable def cis_thread : MS := sSeq (sMatch2 (mVar 0) 3 4 (tAndM (mT (mCB isiD (aCons (mVar 0) (aCons (mC (.ty "tuple")) (aNil))))) (tAndM (mT (mCB isiD (aCons (mVar 3) (aCons (mC (.ty "str")) (aNil))))) (mT (mOp (inY false) (mVar 3) (mC (.tup [.str "warp", .str "weft"])))))) (sRet (mCB gis_integer (aCons (mVar 4) (aCons (mC (.int 0)) (aCons (mOp subD (mIf (mT (mOp eqX (mVar 3) (mC (.str "warp")))) (mVar 1) (mVar 2)) (mC (.int 1))) (aNil))))))) (sRet (mC (.bl false)))
noncomputable abbrev gis_thread : List D → Cs → R D := mFun 5 3 cis_thread
theorem scis_thread : FnScope ["value", "warps", "wefts", "kind", "number"] ["value", "warps", "wefts"] (defScope sis_thread) := ⟨rfl, rfl, rfl, by decide +kernel, rfl, by decide +kernel, by decide +kernel⟩
noncomputable def cCloth__weft_count : MS := sRet (mCB lenD (aCons (mFld ["Cloth"] "kept_rows" (mVar 0)) (aNil)))
noncomputable abbrev gCloth__weft_count : List D → Cs → R D := mFun 1 1 cCloth__weft_count
theorem scCloth__weft_count : FnScope ["self"] ["self"] (defScope sCloth__weft_count) := ⟨rfl, rfl, rfl, by decide +kernel, rfl, by decide +kernel, by decide +kernel⟩
noncomputable def cCloth__warp_count : MS := sRet (mCB lenD (aCons (mOp itemD (mFld ["Cloth"] "kept_rows" (mVar 0)) (mC (.int 0))) (aNil)))
noncomputable abbrev gCloth__warp_count : List D → Cs → R D := mFun 1 1 cCloth__warp_count
theorem scCloth__warp_count : FnScope ["self"] ["self"] (defScope sCloth__warp_count) := ⟨rfl, rfl, rfl, by decide +kernel, rfl, by decide +kernel, by decide +kernel⟩
noncomputable def cCloth____contains__ : MS := sRet (mCB gis_thread (aCons (mVar 1) (aCons (mProp [("Cloth", gCloth__warp_count)] (mVar 0)) (aCons (mProp [("Cloth", gCloth__weft_count)] (mVar 0)) (aNil)))))
noncomputable abbrev gCloth____contains__ : List D → Cs → R D := mFun 2 2 cCloth____contains__
theorem scCloth____contains__ : FnScope ["self", "value"] ["self", "value"] (defScope sCloth____contains__) := ⟨rfl, rfl, rfl, by decide +kernel, rfl, by decide +kernel, by decide +kernel⟩
noncomputable def cCloth__threads : MS := sSeq (sSet 1 (mLc (iR1 (aCons (mProp [("Cloth", gCloth__warp_count)] (mVar 0)) (aNil))) [2] (gN 2) (tYesM) (mTup (aCons (mC (.str "warp")) (aCons (mVar 2) (aNil)))))) (sRet (mLst (aStar (mVar 1) (aStar (mLc (iR1 (aCons (mProp [("Cloth", gCloth__weft_count)] (mVar 0)) (aNil))) [2] (gN 2) (tYesM) (mTup (aCons (mC (.str "weft")) (aCons (mVar 2) (aNil))))) (aNil)))))
noncomputable abbrev gCloth__threads : List D → Cs → R D := mFun 3 1 cCloth__threads
theorem scCloth__threads : FnScope ["self", "warps", "number"] ["self"] (defScope sCloth__threads) := ⟨rfl, rfl, rfl, by decide +kernel, rfl, by decide +kernel, by decide +kernel⟩
noncomputable def cCloth__crossed : MS := sSeq (sIf (mT (mOp (inI [("Cloth", gCloth____contains__)] true (inY true)) (mVar 1) (mVar 0))) (sRaise "InvalidThread" "value" (mVar 1)) (sNil)) (sRet (mLc (iLst (mMeth [("Cloth", gCloth__threads)] "threads" (mVar 0) aNil)) [2] (gN 2) (mT (mOp neX (mOp itemD (mVar 2) (mC (.int 0))) (mOp itemD (mVar 1) (mC (.int 0))))) (mVar 2)))
noncomputable abbrev gCloth__crossed : List D → Cs → R D := mFun 3 2 cCloth__crossed
theorem scCloth__crossed : FnScope ["self", "thread", "other"] ["self", "thread"] (defScope sCloth__crossed) := ⟨rfl, rfl, rfl, by decide +kernel, rfl, by decide +kernel, by decide +kernel⟩
noncomputable def ccrossing_of : MS := sSeq (sIf (mT (mOp eqX (mOp itemD (mVar 0) (mC (.int 0))) (mOp itemD (mVar 1) (mC (.int 0))))) (sRet (mC .non)) (sNil)) (sRet (mIf (mT (mOp eqX (mOp itemD (mVar 0) (mC (.int 0))) (mC (.str "warp")))) (mTup (aCons (mOp itemD (mVar 0) (mC (.int 1))) (aCons (mOp itemD (mVar 1) (mC (.int 1))) (aNil)))) (mTup (aCons (mOp itemD (mVar 1) (mC (.int 1))) (aCons (mOp itemD (mVar 0) (mC (.int 1))) (aNil))))))
noncomputable abbrev gcrossing_of : List D → Cs → R D := mFun 2 2 ccrossing_of
theorem sccrossing_of : FnScope ["one", "other"] ["one", "other"] (defScope scrossing_of) := ⟨rfl, rfl, rfl, by decide +kernel, rfl, by decide +kernel, by decide +kernel⟩
noncomputable def cis_crossing : MS := sSeq (sIf (tOrM (tNotM (mT (mCB isiD (aCons (mVar 0) (aCons (mC (.ty "tuple")) (aNil)))))) (mT (mOp neX (mCB lenD (aCons (mVar 0) (aNil))) (mC (.int 2))))) (sRet (mC (.bl false))) (sNil)) (sRet (mAnd (mCB gis_integer (aCons (mOp itemD (mVar 0) (mC (.int 0))) (aCons (mC (.int 0)) (aCons (mOp subD (mVar 1) (mC (.int 1))) (aNil))))) (mCB gis_integer (aCons (mOp itemD (mVar 0) (mC (.int 1))) (aCons (mC (.int 0)) (aCons (mOp subD (mVar 2) (mC (.int 1))) (aNil)))))))
noncomputable abbrev gis_crossing : List D → Cs → R D := mFun 3 3 cis_crossing
theorem scis_crossing : FnScope ["value", "warps", "wefts"] ["value", "warps", "wefts"] (defScope sis_crossing) := ⟨rfl, rfl, rfl, by decide +kernel, rfl, by decide +kernel, by decide +kernel⟩
noncomputable def cCloth____getitem__ : MS := sSeq (sIf (tNotM (mT (mCB gis_crossing (aCons (mVar 1) (aCons (mProp [("Cloth", gCloth__warp_count)] (mVar 0)) (aCons (mProp [("Cloth", gCloth__weft_count)] (mVar 0)) (aNil))))))) (sRaise "InvalidCrossing" "value" (mVar 1)) (sNil)) (sRet (mOp eqX (mOp itemD (mOp itemD (mFld ["Cloth"] "kept_rows" (mVar 0)) (mOp itemD (mVar 1) (mC (.int 1)))) (mOp itemD (mVar 1) (mC (.int 0)))) (mC (.str "1"))))
noncomputable abbrev gCloth____getitem__ : List D → Cs → R D := mFun 2 2 cCloth____getitem__
theorem scCloth____getitem__ : FnScope ["self", "crossing"] ["self", "crossing"] (defScope sCloth____getitem__) := ⟨rfl, rfl, rfl, by decide +kernel, rfl, by decide +kernel, by decide +kernel⟩
noncomputable def cCloth__over : MS := sSeq (sIf (mT (mOp (inI [("Cloth", gCloth____contains__)] true (inY true)) (mVar 1) (mVar 0))) (sRaise "InvalidThread" "value" (mVar 1)) (sNil)) (sSeq (sIf (tOrM (mT (mOp (inI [("Cloth", gCloth____contains__)] true (inY true)) (mVar 2) (mVar 0))) (mT (mOp isD (mCB gcrossing_of (aCons (mVar 1) (aCons (mVar 2) (aNil)))) (mC .non)))) (sRaise "InvalidThread" "value" (mVar 2)) (sNil)) (sRet (mOp eqX (mOp (ixI [("Cloth", gCloth____getitem__)] itemD) (mVar 0) (mCB gcrossing_of (aCons (mVar 1) (aCons (mVar 2) (aNil))))) (mOp eqX (mOp itemD (mVar 1) (mC (.int 0))) (mC (.str "warp"))))))
noncomputable abbrev gCloth__over : List D → Cs → R D := mFun 3 3 cCloth__over
theorem scCloth__over : FnScope ["self", "one", "other"] ["self", "one", "other"] (defScope sCloth__over) := ⟨rfl, rfl, rfl, by decide +kernel, rfl, by decide +kernel, by decide +kernel⟩
noncomputable def cCloth__below : MS := sRet (mLcM (iLst (mMeth [("Cloth", gCloth__crossed)] "crossed" (mVar 0) (aCons (mVar 1) (aNil)))) [2] (gN 2) (mT (mMeth [("Cloth", gCloth__over)] "over" (mVar 0) (aCons (mVar 1) (aCons (mVar 2) (aNil))))) (mVar 2))
noncomputable abbrev gCloth__below : List D → Cs → R D := mFun 3 2 cCloth__below
theorem scCloth__below : FnScope ["self", "thread", "other"] ["self", "thread"] (defScope sCloth__below) := ⟨rfl, rfl, rfl, by decide +kernel, rfl, by decide +kernel, by decide +kernel⟩
noncomputable def cCloth__score : MS := sRet (mCB lenD (aCons (mMeth [("Cloth", gCloth__below)] "below" (mVar 0) (aCons (mVar 1) (aNil))) (aNil)))
noncomputable abbrev gCloth__score : List D → Cs → R D := mFun 2 2 cCloth__score
theorem scCloth__score : FnScope ["self", "thread"] ["self", "thread"] (defScope sCloth__score) := ⟨rfl, rfl, rfl, by decide +kernel, rfl, by decide +kernel, by decide +kernel⟩
noncomputable def cCloth__above : MS := sRet (mLcM (iLst (mMeth [("Cloth", gCloth__crossed)] "crossed" (mVar 0) (aCons (mVar 1) (aNil)))) [2] (gN 2) (tNotM (mT (mMeth [("Cloth", gCloth__over)] "over" (mVar 0) (aCons (mVar 1) (aCons (mVar 2) (aNil)))))) (mVar 2))
noncomputable abbrev gCloth__above : List D → Cs → R D := mFun 3 2 cCloth__above
theorem scCloth__above : FnScope ["self", "thread", "other"] ["self", "thread"] (defScope sCloth__above) := ⟨rfl, rfl, rfl, by decide +kernel, rfl, by decide +kernel, by decide +kernel⟩
noncomputable def cCloth__score_lists : MS := sSeq (sSet 1 (mDc (kFix (iTup' (mC (.tup [.str "warp", .str "weft"])))) [2] (gN 2) (tYesM) (mVar 2) (mLcM (iLst (mMeth [("Cloth", gCloth__threads)] "threads" (mVar 0) aNil)) [3] (gN 3) (mT (mOp eqX (mOp itemD (mVar 3) (mC (.int 0))) (mVar 2))) (mMeth [("Cloth", gCloth__score)] "score" (mVar 0) (aCons (mVar 3) (aNil)))))) (sRet (mTup (aCons (mOp dgetI (mVar 1) (mC (.str "warp"))) (aCons (mOp dgetI (mVar 1) (mC (.str "weft"))) (aNil)))))
noncomputable abbrev gCloth__score_lists : List D → Cs → R D := mFun 4 1 cCloth__score_lists
theorem scCloth__score_lists : FnScope ["self", "scores", "kind", "thread"] ["self"] (defScope sCloth__score_lists) := ⟨rfl, rfl, rfl, by decide +kernel, rfl, by decide +kernel, by decide +kernel⟩
noncomputable def c_law_lists_right : MS := sSeq (sSet 2 (mDict (dCons (mC (.str "warp")) (mLstM (aNil)) (dCons (mC (.str "weft")) (mLstM (aNil)) (dNil))))) (sSeq (sFor (iLst (mCB g_law_threads (aCons (mVar 1) (aNil)))) (gN 3) (sSeq (sSet 5 (mLc (iLst (mCB g_law_threads (aCons (mVar 1) (aNil)))) [9] (gN 9) (mT (mOp neX (mOp itemD (mVar 9) (mC (.int 0))) (mOp itemD (mVar 3) (mC (.int 0))))) (mVar 9))) (sSeq (sSet 6 (mLcW (kAny (mVar 5)) [9] (gN 9) (mT (mCB g_law_lies_over (aCons (mVar 1) (aCons (mVar 3) (aCons (mVar 9) (aNil)))))) (mVar 9))) (sSeq (sExpr (mBM appendD (mOp dgetI (mVar 2) (mOp itemD (mVar 3) (mC (.int 0)))) (aCons (mCB lenD (aCons (mVar 6) (aNil))) (aNil)))) (sSeq (sSet 7 (mLst (aCons (mVar 6) (aCons (mLcW (kAny (mVar 5)) [9] (gN 9) (mT (mOp (inY true) (mVar 9) (mVar 6))) (mVar 9)) (aCons (mCB lenD (aCons (mVar 6) (aNil))) (aNil)))))) (sFor (iR1 (aCons (mC (.int 2)) (aNil))) (gN 4) (sSeq (sSet 8 (mLst (aCons (mMeth [("Cloth", gCloth__below)] "below" (mVar 0) (aCons (mVar 3) (aNil))) (aCons (mMeth [("Cloth", gCloth__above)] "above" (mVar 0) (aCons (mVar 3) (aNil))) (aCons (mMeth [("Cloth", gCloth__score)] "score" (mVar 0) (aCons (mVar 3) (aNil))) (aNil)))))) (sSeq (sIf (mT (mOp neX (mCB reprX (aCons (mVar 8) (aNil))) (mCB reprX (aCons (mVar 7) (aNil))))) (sRet (mC (.bl false))) (sNil)) (sSeq (sExpr (mBM appendD (mOp itemD (mVar 8) (mC (.int 0))) (aCons (mC (.str "more")) (aNil)))) (sExpr (mBM (mutM clrF) (mOp itemD (mVar 8) (mC (.int 1))) aNil))))))))))) (sSeq (sFor (iR1 (aCons (mC (.int 2)) (aNil))) (gN 4) (sSeq (sSet 8 (mMeth [("Cloth", gCloth__score_lists)] "score_lists" (mVar 0) aNil)) (sSeq (sIf (mT (mOp neX (mCB reprX (aCons (mVar 8) (aNil))) (mCB reprX (aCons (mTup (aCons (mOp dgetI (mVar 2) (mC (.str "warp"))) (aCons (mOp dgetI (mVar 2) (mC (.str "weft"))) (aNil)))) (aNil))))) (sRet (mC (.bl false))) (sNil)) (sSeq (sExpr (mBM appendD (mOp itemD (mVar 8) (mC (.int 0))) (aCons (mC (.int 9)) (aNil)))) (sExpr (mBM (mutM clrF) (mOp itemD (mVar 8) (mC (.int 1))) aNil)))))) (sRet (mC (.bl true)))))
noncomputable abbrev g_law_lists_right : List D → Cs → R D := mFun 10 2 c_law_lists_right
theorem sc_law_lists_right : FnScope ["_law_cloth", "_law_rows_here", "_law_lists", "_law_one", "_law_turn", "_law_crossed", "_law_under", "_law_due", "_law_found", "_law_other"] ["_law_cloth", "_law_rows_here"] (defScope s_law_lists_right) := ⟨rfl, rfl, rfl, by decide +kernel, rfl, by decide +kernel, by decide +kernel⟩
noncomputable def c_law_odd : MS := sSeq (sSet 1 (mLst (aCons (mC .non) (aCons (mC (.bl true)) (aCons (mC (.bl false)) (aCons (mUn negD (mC (.int 1))) (aCons (mC (.int 0)) (aCons (mC (.int 1)) (aCons (mC (.int 8)) (aCons (mOp powI (mC (.int 10)) (mC (.int 29))) (aCons (mC (.str "")) (aCons (mC (.str "p")) (aCons (mC (.str "p8")) (aCons (mC (.str "warp")) (aCons (mLstM (aNil)) (aCons (mTup (aNil)) (aCons (mDictM0) (aCons (mDictM1 (.inr "a") (mC (.int 1))) (aCons (mLstM (aCons (mC .non) (aNil))) (aCons (mTup (aCons (mC (.int 0)) (aNil))) (aNil))))))))))))))))))))) (sSeq (sSet 1 (mOp addD (mVar 1) (mLst (aCons (mLstM (aCons (mC (.str "warp")) (aCons (mC (.int 0)) (aNil)))) (aCons (mTup (aCons (mC (.str "warp")) (aNil))) (aCons (mTup (aCons (mC (.str "warp")) (aCons (mC (.bl true)) (aNil)))) (aCons (mTup (aCons (mC (.str "weft")) (aCons (mUn negD (mC (.int 1))) (aNil)))) (aCons (mTup (aCons (mC (.str "warp")) (aCons (mC (.str "0")) (aNil)))) (aCons (mTup (aCons (mC (.str "warp")) (aCons (mC (.int 0)) (aCons (mC (.int 0)) (aNil))))) (aCons (mTup (aCons (mC (.str "fill")) (aCons (mC (.int 0)) (aNil)))) (aNil))))))))))) (sSeq (sSet 1 (mOp addD (mVar 1) (mLst (aCons (mTup (aCons (mC (.int 0)) (aCons (mC (.int 8)) (aNil)))) (aCons (mTup (aCons (mC (.bl true)) (aCons (mC (.int 0)) (aNil)))) (aCons (mLstM (aCons (mC (.int 0)) (aCons (mC (.int 0)) (aNil)))) (aCons (mTup (aCons (mC (.int 0)) (aCons (mC (.int 0)) (aCons (mC (.int 0)) (aNil))))) (aCons (mTup (aCons (mC (.str "0")) (aCons (mC (.int 0)) (aNil)))) (aCons (mLstM (aCons (mLst (aCons (mC (.str "warp")) (aCons (mC (.int 0)) (aNil)))) (aNil))) (aCons (mLstM (aCons (mTup (aCons (mC (.int 0)) (aCons (mC (.int 0)) (aNil)))) (aNil))) (aCons (mTup (aCons (mC (.int 0)) (aCons (mUn negD (mC (.int 1))) (aNil)))) (aCons (mTup (aCons (mC (.str "warp")) (aCons (mC (.int 8)) (aNil)))) (aNil))))))))))))) (sSeq (sSet 1 (mOp addD (mVar 1) (mLst (aCons (mTup (aCons (mC (.str "weft")) (aCons (mC (.bl true)) (aNil)))) (aCons (mTup (aCons (mC (.str "warp")) (aCons (mUn negD (mC (.int 1))) (aNil)))) (aCons (mTup (aCons (mC (.str "weft")) (aCons (mC (.str "0")) (aNil)))) (aCons (mTup (aCons (mUn negD (mC (.int 1))) (aCons (mC (.int 0)) (aNil)))) (aCons (mTup (aCons (mC (.int 0)) (aCons (mC (.bl true)) (aNil)))) (aCons (mTup (aCons (mC (.int 0)) (aCons (mC (.str "0")) (aNil)))) (aCons (mTup (aCons (mC (.int 0)) (aCons (mOp powI (mC (.int 10)) (mC (.int 29))) (aNil)))) (aNil))))))))))) (sSeq (sSet 1 (mOp addD (mVar 1) (mLst (aCons (mTup (aCons (mLst (aCons (mC (.str "warp")) (aNil))) (aCons (mC (.int 0)) (aNil)))) (aCons (mTup (aCons (mC (.dct [])) (aCons (mC (.int 0)) (aNil)))) (aCons (mTup (aCons (mTup (aCons (mC (.str "warp")) (aNil))) (aCons (mC (.int 0)) (aNil)))) (aCons (mTup (aCons (mC (.str "warp")) (aCons (mLst (aNil)) (aNil)))) (aCons (mC (.str "p0 ")) (aCons (mC (.str "01")) (aCons (mLstM (aCons (mC (.str "01")) (aNil))) (aNil))))))))))) (sRet (mOp itemD (mVar 1) (mCB g_law_take (aCons (mVar 0) (aCons (mCB lenD (aCons (mVar 1) (aNil))) (aNil))))))))))
noncomputable abbrev g_law_odd : List D → Cs → R D := mFun 2 1 c_law_odd
theorem sc_law_odd : FnScope ["_law_box_here", "_law_some"] ["_law_box_here"] (defScope s_law_odd) := ⟨rfl, rfl, rfl, by decide +kernel, rfl, by decide +kernel, by decide +kernel⟩
noncomputable def c_law_is_thread : MS := sRet (mAnd (mCB isiD (aCons (mVar 0) (aCons (mC (.ty "tuple")) (aNil)))) (mOp (inY false) (mCB reprX (aCons (mVar 0) (aNil))) (mLc (iLst (mCB g_law_threads (aCons (mVar 1) (aNil)))) [2] (gN 2) (tYesM) (mCB reprX (aCons (mVar 2) (aNil))))))
noncomputable abbrev g_law_is_thread : List D → Cs → R D := mFun 3 2 c_law_is_thread
theorem sc_law_is_thread : FnScope ["_law_value", "_law_rows_here", "_law_thread"] ["_law_value", "_law_rows_here"] (defScope s_law_is_thread) := ⟨rfl, rfl, rfl, by decide +kernel, rfl, by decide +kernel, by decide +kernel⟩
def c_law_caught (act : ME) : MS := sTry ["InvalidRows", "InvalidThread", "InvalidCrossing"] (sRet (mLst (aCons (mC (.str "returned")) (aCons (act) (aNil))))) [.cl "InvalidThread" (some 1) (fun x => sRet (mLst (aCons (mC (.str "thread")) (aCons (mXf ["InvalidThread"] "value" x) aNil)))), .cl "InvalidCrossing" (some 1) (fun x => sRet (mLst (aCons (mC (.str "crossing")) (aCons (mXf ["InvalidCrossing"] "value" x) aNil)))), .stop]
theorem par_law_caught : LamPar 2 c_law_caught := fun i G r c => by
  have e1 : actL i G r (some (.gh i G) :: List.replicate (2 - 1) none) c = r c := actL_at rfl
  unfold c_law_caught
  refine lam_try ?_ ⟨li_ret fun _ _ _ _ => rfl, ⟨li_ret fun _ _ _ _ => rfl, trivial⟩⟩
  simp only [mLst, aCons, aNil, mC, mMeth, mCB, mOp, R.bind_ok, e1]
theorem sc_law_caught : FnScope ["_law_ask", "e"] ["_law_ask"] (defScope s_law_caught) := ⟨rfl, rfl, rfl, by decide +kernel, rfl, by decide +kernel, by decide +kernel⟩
noncomputable def c_law_pair_right : MS := sSeq (sSet 4 (mLst (aCons (mC (.str "thread")) (aCons (mVar 2) (aNil))))) (sSeq (sIf (mT (mCB g_law_is_thread (aCons (mVar 2) (aCons (mVar 1) (aNil))))) (sSeq (sSet 4 (mLst (aCons (mC (.str "thread")) (aCons (mVar 3) (aNil))))) (sIf (tAndM (mT (mCB g_law_is_thread (aCons (mVar 3) (aCons (mVar 1) (aNil))))) (mT (mOp neX (mOp itemD (mVar 2) (mC (.int 0))) (mOp itemD (mVar 3) (mC (.int 0)))))) (sSet 4 (mLst (aCons (mC (.str "returned")) (aCons (mCB g_law_lies_over (aCons (mVar 1) (aCons (mVar 2) (aCons (mVar 3) (aNil))))) (aNil))))) (sNil))) (sNil)) (sSeq (sIf (mT (mOp neX (mCB reprX (aCons (mLamCall 2 c_law_caught (mMeth [("Cloth", gCloth__over)] "over" (mVar 0) (aCons (mVar 2) (aCons (mVar 3) (aNil))))) (aNil))) (mCB reprX (aCons (mVar 4) (aNil))))) (sRet (mC (.bl false))) (sNil)) (sSeq (sSet 4 (mLst (aCons (mC (.str "crossing")) (aCons (mVar 2) (aNil))))) (sSeq (sSet 5 (mLc (iR1 (aCons (mOp mulI (mCB lenD (aCons (mOp itemD (mVar 1) (mC (.int 0))) (aNil))) (mCB lenD (aCons (mVar 1) (aNil)))) (aNil))) [6] (gN 6) (tYesM) (mTup (aCons (mOp modI (mVar 6) (mCB lenD (aCons (mOp itemD (mVar 1) (mC (.int 0))) (aNil)))) (aCons (mOp divI (mVar 6) (mCB lenD (aCons (mOp itemD (mVar 1) (mC (.int 0))) (aNil)))) (aNil)))))) (sSeq (sIf (tAndM (mT (mCB isiD (aCons (mVar 2) (aCons (mC (.ty "tuple")) (aNil))))) (mT (mOp (inY false) (mCB reprX (aCons (mVar 2) (aNil))) (mLcW (kAny (mVar 5)) [7] (gN 7) (tYesM) (mCB reprX (aCons (mVar 7) (aNil))))))) (sSet 4 (mLst (aCons (mC (.str "returned")) (aCons (mOp eqX (mOp itemD (mOp itemD (mVar 1) (mOp itemD (mVar 2) (mC (.int 1)))) (mOp itemD (mVar 2) (mC (.int 0)))) (mC (.str "1"))) (aNil))))) (sNil)) (sRet (mOp eqX (mCB reprX (aCons (mLamCall 2 c_law_caught (mOp (ixI [("Cloth", gCloth____getitem__)] itemD) (mVar 0) (mVar 2))) (aNil))) (mCB reprX (aCons (mVar 4) (aNil))))))))))
noncomputable abbrev g_law_pair_right : List D → Cs → R D := mFun 8 4 c_law_pair_right
theorem sc_law_pair_right : FnScope ["_law_cloth", "_law_rows_here", "_law_one", "_law_other", "_law_due", "_law_pairs", "_law_at", "_law_pair"] ["_law_cloth", "_law_rows_here", "_law_one", "_law_other"] (defScope s_law_pair_right) := ⟨rfl, rfl, rfl, by decide +kernel, rfl, by decide +kernel, by decide +kernel⟩
noncomputable def c_law_one_right (G : Nat → GhT) : MS := sSeq (sSet 3 (mLst (aCons (mLam 0 G) (aCons (mLam 1 G) (aCons (mLam 2 G) (aNil)))))) (sSeq (sIf (mT (mCB g_law_is_thread (aCons (mVar 2) (aCons (mVar 1) (aNil))))) (sRet (mC (.bl true))) (sNil)) (sSeq (sPar [4, 5] (aCons (mGhAll 2 c_law_caught G [(mMeth [("Cloth", gCloth__below)] "below" (mVar 0) (aCons (mVar 2) (aNil))), (mMeth [("Cloth", gCloth__above)] "above" (mVar 0) (aCons (mVar 2) (aNil))), (mMeth [("Cloth", gCloth__score)] "score" (mVar 0) (aCons (mVar 2) (aNil)))] 3 6) (aCons (mOp (mulX false) (mLst (aCons (mLst (aCons (mC (.str "thread")) (aCons (mVar 2) (aNil)))) (aNil))) (mC (.int 3))) (aNil)))) (sSeq (sIf (mT (mOp neX (mCB reprX (aCons (mVar 4) (aNil))) (mCB reprX (aCons (mVar 5) (aNil))))) (sRet (mC (.bl false))) (sNil)) (sSeq (sIf (mT (mCB isiD (aCons (mVar 2) (aCons (mC (.ty "list")) (aNil))))) (sExpr (mBM appendD (mVar 2) (aCons (mC (.str "more")) (aNil)))) (sNil)) (sRet (mOp eqX (mCB reprX (aCons (mVar 4) (aNil))) (mCB reprX (aCons (mVar 5) (aNil)))))))))
noncomputable abbrev g_law_one_right : List D → Cs → R D := parFun 7 3 c_law_one_right
theorem sc_law_one_right : FnScope ["_law_cloth", "_law_rows_here", "_law_value", "_law_asks", "_law_found", "_law_due", "_law_ask"] ["_law_cloth", "_law_rows_here", "_law_value"] (defScope s_law_one_right) := ⟨rfl, rfl, rfl, by decide +kernel, rfl, by decide +kernel, by decide +kernel⟩
noncomputable def claw : MS := sSeq (sFor (iR1 (aCons (mCB max2 (aCons (mC (.int 2)) (aCons (mCB min2 (aCons (mC (.int 8)) (aCons (mCB lenD (aCons (mVar 0) (aNil))) (aNil)))) (aNil)))) (aNil))) (gN 1) (sSeq (sSet 2 (mCB g_law_box (aCons (mCB g_law_cell (aCons (mVar 0) (aCons (mVar 1) (aNil)))) (aNil)))) (sSeq (sSet 3 (mCB g_law_rows (aCons (mVar 2) (aNil)))) (sSeq (sAsg (mTup (aCons (mFrzI (mMake "Cloth" gCloth____init__ (aCons (mVar 3) (aNil)))) (aCons (mCB g_law_threads (aCons (mVar 3) (aNil))) (aNil)))) (gT [6, 7])) (sSeq (sIf (tNotM (mT (mCB g_law_lists_right (aCons (mVar 6) (aCons (mVar 3) (aNil)))))) (sRet (mC (.bl false))) (sNil)) (sSeq (sFor (iR1 (aCons (mC (.int 16)) (aNil))) (gN 4) (sSeq (sSet 8 (mOp addD (mVar 7) (mLst (aCons (mTup (aCons (mC (.str "warp")) (aCons (mCB lenD (aCons (mOp itemD (mVar 3) (mC (.int 0))) (aNil))) (aNil)))) (aCons (mTup (aCons (mC (.str "weft")) (aCons (mCB lenD (aCons (mVar 3) (aNil))) (aNil)))) (aCons (mTup (aCons (mCB g_law_take (aCons (mVar 2) (aCons (mC (.int 9)) (aNil)))) (aCons (mCB g_law_take (aCons (mVar 2) (aCons (mC (.int 9)) (aNil)))) (aNil)))) (aNil))))))) (sSeq (sSet 9 (mLst (aCons (mOp itemD (mVar 8) (mCB g_law_take (aCons (mVar 2) (aCons (mCB lenD (aCons (mVar 8) (aNil))) (aNil))))) (aCons (mOp itemD (mVar 8) (mCB g_law_take (aCons (mVar 2) (aCons (mCB lenD (aCons (mVar 8) (aNil))) (aNil))))) (aCons (mCB g_law_odd (aCons (mVar 2) (aNil))) (aNil)))))) (sSeq (sPar [10, 11] (aCons (mOp itemD (mVar 9) (mCB g_law_take (aCons (mVar 2) (aCons (mC (.int 3)) (aNil))))) (aCons (mOp itemD (mVar 9) (mCB g_law_take (aCons (mVar 2) (aCons (mC (.int 3)) (aNil))))) (aNil)))) (sIf (tOrM (tNotM (mT (mCB g_law_pair_right (aCons (mVar 6) (aCons (mVar 3) (aCons (mVar 10) (aCons (mVar 11) (aNil)))))))) (tNotM (mT (mCB g_law_one_right (aCons (mVar 6) (aCons (mVar 3) (aCons (mVar 10) (aNil)))))))) (sRet (mC (.bl false))) (sNil)))))) (sFor (iR1 (aCons (mCB lenD (aCons (mOp itemD (mVar 3) (mC (.int 0))) (aNil))) (aNil))) (gN 5) (sIf (mT (mOp neX (mLc (iR1 (aCons (mCB lenD (aCons (mVar 3) (aNil))) (aNil))) [12] (gN 12) (tYesM) (mOp (ixI [("Cloth", gCloth____getitem__)] itemD) (mVar 6) (mTup (aCons (mVar 5) (aCons (mVar 12) (aNil)))))) (mLcW (kAny (mVar 3)) [13] (gN 13) (tYesM) (mOp eqX (mOp itemD (mVar 13) (mVar 5)) (mC (.str "1")))))) (sRet (mC (.bl false))) (sNil))))))))) (sRet (mC (.bl true)))
noncomputable abbrev glaw : List D → Cs → R D := mFun 14 1 claw
theorem sclaw : FnScope ["_law_script", "_law_k", "_law_box_here", "_law_rows_here", "_law_turn", "_law_i", "_law_cloth", "_law_threads_here", "_law_near", "_law_values", "_law_one", "_law_other", "_law_j", "_law_row"] ["_law_script"] (defScope slaw) := ⟨rfl, rfl, rfl, by decide +kernel, rfl, by decide +kernel, by decide +kernel⟩
/-- what the top leaves -/
structure Txt (P : Program) (K : PySem.W.Frag) (mg : Str → Option Value) where
  b_all : mg "all" = none
  b_bool : mg "bool" = none
  b_int : mg "int" = none
  b_isinstance : mg "isinstance" = none
  b_len : mg "len" = none
  b_list : mg "list" = none
  b_max : mg "max" = none
  b_min : mg "min" = none
  b_range : mg "range" = none
  b_repr : mg "repr" = none
  b_str : mg "str" = none
  b_tuple : mg "tuple" = none
  cKINDS : IsC K mg "KINDS" (.tup [.str "warp", .str "weft"])
  cSIGNS : IsC K mg "SIGNS" (.str "01")
  gx : ∀ n C, PySem.W.nsIn K mainGlobals n = some (some (.ref C)) → mg n = some (.ref C)
  xm : XMod K mg
  x_InvalidCrossing : XOwn P K "InvalidCrossing" "value"
  x_InvalidRows : XOwn P K "InvalidRows" "value"
  x_InvalidThread : XOwn P K "InvalidThread" "value"
  n_InvalidCrossing : ∃ C, PySem.W.nsIn K mainGlobals "InvalidCrossing" = some (some (.ref C))
  n_InvalidThread : ∃ C, PySem.W.nsIn K mainGlobals "InvalidThread" = some (some (.ref C))
  e_InvalidRows_InvalidCrossing : EXM K "InvalidRows" "InvalidCrossing"
  e_InvalidThread_InvalidCrossing : EXM K "InvalidThread" "InvalidCrossing"
  e_InvalidCrossing_InvalidCrossing : EXM K "InvalidCrossing" "InvalidCrossing"
  e_InvalidRows_InvalidThread : EXM K "InvalidRows" "InvalidThread"
  e_InvalidThread_InvalidThread : EXM K "InvalidThread" "InvalidThread"
  e_InvalidCrossing_InvalidThread : EXM K "InvalidCrossing" "InvalidThread"
  fl_Cloth_kept_rows : FldK K "Cloth" "kept_rows"
  cc_Cloth_MOST : CCI K "Cloth" "MOST" 8
  sp_Cloth___contains__ : ∃ C f, NamV K "Cloth" (.ref C) ∧ (PySem.W.findIn K (.ref C) "__contains__" = some (some (.ref f)) ∧ PySem.W.isFn K (.ref f) = true ∧ PySem.W.fnIn K f = true ∧ PySem.W.selfFirst K C = true) ∧ OwnF K "__contains__" "Cloth.__contains__" sCloth____contains__ ["self", "value"] f
  sp_Cloth___getitem__ : ∃ C f, NamV K "Cloth" (.ref C) ∧ (PySem.W.findIn K (.ref C) "__getitem__" = some (some (.ref f)) ∧ PySem.W.isFn K (.ref f) = true ∧ PySem.W.fnIn K f = true ∧ PySem.W.selfFirst K C = true) ∧ OwnF K "__getitem__" "Cloth.__getitem__" sCloth____getitem__ ["self", "crossing"] f
  mk_Cloth : ∃ C f, PySem.W.nsIn K mainGlobals "Cloth" = some (some (.ref C)) ∧ Mk K C f ∧ OwnF K "__init__" "Cloth.__init__" sCloth____init__ ["self", "rows"] f
  me_Cloth_above : ∃ C f, NamV K "Cloth" (.ref C) ∧ Cls K C ∧ Meth K C "above" f ∧ OwnF K "above" "Cloth.above" sCloth__above ["self", "thread"] f
  me_Cloth_below : ∃ C f, NamV K "Cloth" (.ref C) ∧ Cls K C ∧ Meth K C "below" f ∧ OwnF K "below" "Cloth.below" sCloth__below ["self", "thread"] f
  me_Cloth_crossed : ∃ C f, NamV K "Cloth" (.ref C) ∧ Cls K C ∧ Meth K C "crossed" f ∧ OwnF K "crossed" "Cloth.crossed" sCloth__crossed ["self", "thread"] f
  me_Cloth_over : ∃ C f, NamV K "Cloth" (.ref C) ∧ Cls K C ∧ Meth K C "over" f ∧ OwnF K "over" "Cloth.over" sCloth__over ["self", "one", "other"] f
  me_Cloth_score : ∃ C f, NamV K "Cloth" (.ref C) ∧ Cls K C ∧ Meth K C "score" f ∧ OwnF K "score" "Cloth.score" sCloth__score ["self", "thread"] f
  me_Cloth_score_lists : ∃ C f, NamV K "Cloth" (.ref C) ∧ Cls K C ∧ Meth K C "score_lists" f ∧ OwnF K "score_lists" "Cloth.score_lists" sCloth__score_lists ["self"] f
  me_Cloth_threads : ∃ C f, NamV K "Cloth" (.ref C) ∧ Cls K C ∧ Meth K C "threads" f ∧ OwnF K "threads" "Cloth.threads" sCloth__threads ["self"] f
  pr_Cloth_warp_count : ∃ C p f, NamV K "Cloth" (.ref C) ∧ Cls K C ∧ PropOf K C "warp_count" p f ∧ OwnF K "warp_count" "Cloth.warp_count" sCloth__warp_count ["self"] f
  pr_Cloth_weft_count : ∃ C p f, NamV K "Cloth" (.ref C) ∧ Cls K C ∧ PropOf K C "weft_count" p f ∧ OwnF K "weft_count" "Cloth.weft_count" sCloth__weft_count ["self"] f
  f_law_box : Own K mg "_law_box" s_law_box ["_law_cell_here"]
  f_law_cell : Own K mg "_law_cell" s_law_cell ["_law_script", "_law_k"]
  f_law_take : Own K mg "_law_take" s_law_take ["_law_box_here", "_law_many"]
  f_law_rows : Own K mg "_law_rows" s_law_rows ["_law_box_here"]
  f_law_threads : Own K mg "_law_threads" s_law_threads ["_law_rows_here"]
  fis_sequence : Own K mg "is_sequence" sis_sequence ["value"]
  fis_pattern : Own K mg "is_pattern" sis_pattern ["value", "length"]
  fare_rows : Own K mg "are_rows" sare_rows ["value", "most"]
  f_law_lies_over : Own K mg "_law_lies_over" s_law_lies_over ["_law_rows_here", "_law_one", "_law_other"]
  fis_integer : Own K mg "is_integer" sis_integer ["value", "low", "high"]
  fis_thread : Own K mg "is_thread" sis_thread ["value", "warps", "wefts"]
  fcrossing_of : Own K mg "crossing_of" scrossing_of ["one", "other"]
  fis_crossing : Own K mg "is_crossing" sis_crossing ["value", "warps", "wefts"]
  f_law_lists_right : Own K mg "_law_lists_right" s_law_lists_right ["_law_cloth", "_law_rows_here"]
  f_law_odd : Own K mg "_law_odd" s_law_odd ["_law_box_here"]
  f_law_is_thread : Own K mg "_law_is_thread" s_law_is_thread ["_law_value", "_law_rows_here"]
  f_law_caught : Own K mg "_law_caught" s_law_caught ["_law_ask"]
  f_law_pair_right : Own K mg "_law_pair_right" s_law_pair_right ["_law_cloth", "_law_rows_here", "_law_one", "_law_other"]
  cd_law_pair_right : f_law_pair_right.fd.code = .ref 483
  f_law_one_right : Own K mg "_law_one_right" s_law_one_right ["_law_cloth", "_law_rows_here", "_law_value"]
  cd_law_one_right : f_law_one_right.fd.code = .ref 488
  flaw : Own K mg "law" slaw ["_law_script"]
structure TxB (P : Program) (K : PySem.W.Frag) (mg : Str → Option Value) (base : Heap) extends Txt P K mg where
  tb : ∀ p ∈ allL, GxR.TabB base mg p.1 p.2
section
variable {P : Program} {w : World} {K : PySem.W.Frag} {mg : Str → Option Value} {base : Heap}
theorem k_law_box (T : TxB P K mg base) : GFn P w K mg base 1 T.f_law_box.a T.f_law_box.fd ["_law_cell_here"] g_law_box := by
  refine gfn_of (k := 0) T.f_law_box.F sc_law_box fun cdv A outer s H E hr hgd => ?_
  have scN := sc_law_box.nd
  have tk := takes_of (X := cxOf (CX P w) P w K mg base ["_law_cell_here"] "_law_box" (defScope s_law_box) T.f_law_box.a cdv A outer s H E) (E := E) rfl rfl rfl rfl
  exact ms_one (ms_ret (me_lstM (ma_cons (me_cb (pe_callB (call_max2 rfl) (by rfl) T.b_max bt_max (ma_cons (me_int) (ma_cons (me_op op_sub os_sub (me_var (pv 0)) (me_op op_pow os_powI (me_int) (me_int))) (ma_nil)))) cs_max2) (ma_cons (me_op op_modN os_modI (me_var (pv 0)) (me_int)) (ma_cons (me_int) (ma_nil))))))
theorem k_law_cell (T : TxB P K mg base) : GFn P w K mg base 1 T.f_law_cell.a T.f_law_cell.fd ["_law_script", "_law_k"] g_law_cell := by
  refine gfn_of (k := 0) T.f_law_cell.F sc_law_cell fun cdv A outer s H E hr hgd => ?_
  have scN := sc_law_cell.nd
  have tk := takes_of (X := cxOf (CX P w) P w K mg base ["_law_script", "_law_k"] "_law_cell" (defScope s_law_cell) T.f_law_cell.a cdv A outer s H E) (E := E) rfl rfl rfl rfl
  exact ms_cons (ms_if (mt_cmp op_ltA os_lt (me_var (pv 1)) (me_cb (pe_callB call_len (by rfl) T.b_len bt_len (ma_cons (me_var (pv 0)) (ma_nil))) cs_len) (nomark _)) (ms_one (ms_ret (me_ix ix_seq os_item (me_var (pv 0)) (me_var (pv 1)) (fun _ _ => rfl)))) (ms_nil)) (ms_one (ms_ret (me_op op_addA os_add (me_op op_mul os_mulI (me_int) (me_var (pv 1))) (me_int))))
theorem k_law_take (T : TxB P K mg base) : GFn P w K mg base 1 T.f_law_take.a T.f_law_take.fd ["_law_box_here", "_law_many"] g_law_take := by
  refine gfn_of (k := 0) T.f_law_take.F sc_law_take fun cdv A outer s H E hr hgd => ?_
  have scN := sc_law_take.nd
  have tk := takes_of (X := cxOf (CX P w) P w K mg base ["_law_box_here", "_law_many", "_law_mixed", "_law_digit"] "_law_take" (defScope s_law_take) T.f_law_take.a cdv A outer s H E) (E := E) rfl rfl rfl rfl
  exact ms_cons (ms_if (mt_cmp op_gt os_cmpI (me_ix ix_seq os_item (me_var (pv 0)) (me_int) (fun _ _ => rfl)) (me_int) (nomark _)) (ms_cons (ms_set (i := 3) scN rfl (by first | exact Or.inl rfl | exact Or.inr rfl) (me_op op_modN os_modI (me_ix ix_seq os_item (me_var (pv 0)) (me_int) (fun _ _ => rfl)) (me_var (pv 1)))) (ms_cons (ms_asg (me_op op_fdivN os_divI (me_ix ix_seq os_item (me_var (pv 0)) (me_int) (fun _ _ => rfl)) (me_var (pv 1))) (mg_sub (pg_sub (me_var (pv 0)) (me_int) set_list))) (ms_one (ms_ret (me_var (pv 3)))))) (ms_nil)) (ms_cons (ms_asg (me_op op_addA os_add (me_ix ix_seq os_item (me_var (pv 0)) (me_int) (fun _ _ => rfl)) (me_int)) (mg_sub (pg_sub (me_var (pv 0)) (me_int) set_list))) (ms_cons (ms_set (i := 2) scN rfl (by first | exact Or.inl rfl | exact Or.inr rfl) (me_op op_modN os_modI (me_op op_pow os_powI (me_op op_addA os_add (me_op op_addA os_add (me_ix ix_seq os_item (me_var (pv 0)) (me_int) (fun _ _ => rfl)) (me_op op_mul os_mulI (me_int) (me_ix ix_seq os_item (me_var (pv 0)) (me_int) (fun _ _ => rfl)))) (me_int)) (me_int)) (me_int))) (ms_cons (ms_set (i := 2) scN rfl (by first | exact Or.inl rfl | exact Or.inr rfl) (me_op op_modN os_modI (me_op op_pow os_powI (me_op op_addA os_add (me_var (pv 2)) (me_op op_mul os_mulI (me_int) (me_ix ix_seq os_item (me_var (pv 0)) (me_int) (fun _ _ => rfl)))) (me_int)) (me_int))) (ms_one (ms_ret (me_op op_modN os_modI (me_op op_fdivN os_divI (me_var (pv 2)) (me_int)) (me_var (pv 1))))))))
theorem k_law_rows (T : TxB P K mg base) : GFn P w K mg base 2 T.f_law_rows.a T.f_law_rows.fd ["_law_box_here"] g_law_rows := by
  refine gfn_of (k := 1) T.f_law_rows.F sc_law_rows fun cdv A outer s H E hr hgd => ?_
  have scN := sc_law_rows.nd
  have tk := takes_of (X := cxOf (CX P w) P w K mg base ["_law_box_here", "_law_low", "_law_warps", "_law_wefts", "_law_many", "_law_up", "_law_down", "_law_bias", "_law_rows_here", "_law_signs", "_law_k", "_law_high", "_law_sign"] "_law_rows" (defScope s_law_rows) T.f_law_rows.a cdv A outer s H E) (E := E) rfl rfl rfl rfl
  exact ms_cons (ms_asg (me_tup (ma_cons (me_op op_addA os_add (me_int) (me_call (k_law_take T) (hr.mono (by decide)) hgd (by rfl) T.f_law_take.mgf T.f_law_take.F.kp T.f_law_take.b tk (ma_cons (me_var (pv 0)) (ma_cons (me_int) (ma_nil))))) (ma_cons (me_op op_addA os_add (me_int) (me_call (k_law_take T) (hr.mono (by decide)) hgd (by rfl) T.f_law_take.mgf T.f_law_take.F.kp T.f_law_take.b tk (ma_cons (me_var (pv 0)) (ma_cons (me_int) (ma_nil))))) (ma_cons (me_ix ix_seq os_item (me_lst (ma_cons (me_int) (ma_cons (me_int) (ma_cons (me_int) (ma_cons (me_int) (ma_nil)))))) (me_call (k_law_take T) (hr.mono (by decide)) hgd (by rfl) T.f_law_take.mgf T.f_law_take.F.kp T.f_law_take.b tk (ma_cons (me_var (pv 0)) (ma_cons (me_int) (ma_nil)))) (fun _ _ => rfl)) (ma_nil))))) (mg_tup rfl (mgs_cons (i := 2) scN rfl (by first | exact Or.inl rfl | exact Or.inr rfl) (mgs_cons (i := 3) scN rfl (by first | exact Or.inl rfl | exact Or.inr rfl) (mgs_cons (i := 4) scN rfl (by first | exact Or.inl rfl | exact Or.inr rfl) (mgs_nil)))))) (ms_cons (ms_par2 (i := 5) (j := 6) rfl scN rfl rfl (by decide) rfl rfl (ma_cons (PEi (pe_lc (own := [("_law_k", 10)]) rfl scN (mi_r1 (pi_range1 (by rfl) T.b_range (ma_cons (me_var (pv 2)) (ma_nil)))) (blkOk_by (N := ["_law_box_here", "_law_low", "_law_warps", "_law_wefts", "_law_many", "_law_up", "_law_down", "_law_bias", "_law_rows_here", "_law_signs", "_law_k", "_law_high", "_law_sign"]) (sc := defScope s_law_rows) (by decide +kernel)) (fun _ _ _ _ _ => pg_name (i := 10) scN rfl (by first | exact Or.inl rfl | exact Or.inr rfl)) (fun _ _ _ _ _ => mts_nil) (fun _ _ _ _ _ => me_call (k_law_take T) (hr.mono (by decide)) hgd (by rfl) T.f_law_take.mgf T.f_law_take.F.kp T.f_law_take.b takesW0 (ma_cons (me_var (pv 0)) (ma_cons (me_var (pv 4)) (ma_nil))))) (fun _ _ _ h => lc_read (good_name (by decide)) (rg_name) h)) (ma_cons (PEi (pe_lc (own := [("_law_k", 10)]) rfl scN (mi_r1 (pi_range1 (by rfl) T.b_range (ma_cons (me_var (pv 3)) (ma_nil)))) (blkOk_by (N := ["_law_box_here", "_law_low", "_law_warps", "_law_wefts", "_law_many", "_law_up", "_law_down", "_law_bias", "_law_rows_here", "_law_signs", "_law_k", "_law_high", "_law_sign"]) (sc := defScope s_law_rows) (by decide +kernel)) (fun _ _ _ _ _ => pg_name (i := 10) scN rfl (by first | exact Or.inl rfl | exact Or.inr rfl)) (fun _ _ _ _ _ => mts_nil) (fun _ _ _ _ _ => me_call (k_law_take T) (hr.mono (by decide)) hgd (by rfl) T.f_law_take.mgf T.f_law_take.F.kp T.f_law_take.b takesW0 (ma_cons (me_var (pv 0)) (ma_cons (me_var (pv 4)) (ma_nil))))) (fun _ _ _ h => lc_read (good_name (by decide)) (rg_name) h)) (ma_nil))) (by first | rfl | with_unfolding_all rfl | kernel_rfl)) (ms_cons (ms_asg (me_tup (ma_cons (me_ix ix_seq os_item (me_lst (ma_cons (me_int) (ma_cons (me_int) (ma_cons (me_int) (ma_cons (me_int) (ma_nil)))))) (me_call (k_law_take T) (hr.mono (by decide)) hgd (by rfl) T.f_law_take.mgf T.f_law_take.F.kp T.f_law_take.b tk (ma_cons (me_var (pv 0)) (ma_cons (me_int) (ma_nil)))) (fun _ _ => rfl)) (ma_cons (me_lstM (ma_nil)) (ma_nil)))) (mg_tup rfl (mgs_cons (i := 7) scN rfl (by first | exact Or.inl rfl | exact Or.inr rfl) (mgs_cons (i := 8) scN rfl (by first | exact Or.inl rfl | exact Or.inr rfl) (mgs_nil))))) (ms_cons (ms_forW (passes_of rfl) rfl (mk_any (me_var (pv 6))) (mg_name (i := 1) scN rfl (by first | exact Or.inl rfl | exact Or.inr rfl)) (ms_cons ((by first | exact ms_setT (ps_setLc (i := 9) (own := [("_law_high", 11)]) rfl scN rfl rfl (sw_true rfl rfl rfl (by decide +kernel)) (mk_any (me_var (pv 5))) (blkOk_by (N := ["_law_box_here", "_law_low", "_law_warps", "_law_wefts", "_law_many", "_law_up", "_law_down", "_law_bias", "_law_rows_here", "_law_signs", "_law_k", "_law_high", "_law_sign"]) (sc := defScope s_law_rows) (by decide +kernel)) (fun _ _ _ _ _ => pg_name (i := 11) scN rfl (by first | exact Or.inl rfl | exact Or.inr rfl)) (fun _ _ _ _ _ => mts_nil) (fun _ _ _ _ _ => me_if (mt_cmp (op_neY hr.units) os_neX (me_var (pv 11)) (me_var (pv 1)) (nomark _)) (me_cb (pe_callTy call_intF (by rfl) T.b_int bt_int (ma_cons (me_cmp op_gt os_cmpI (me_var (pv 11)) (me_var (pv 1)) (nomark _)) (ma_nil))) cs_intF) (me_cb (pe_callTy call_intF (by rfl) T.b_int bt_int (ma_cons (me_cmp op_gt os_cmpI (me_call (k_law_take T) (hr.mono (by decide)) hgd (by rfl) T.f_law_take.mgf T.f_law_take.F.kp T.f_law_take.b takesW0 (ma_cons (me_var (pv 0)) (ma_cons (me_var (pv 7)) (ma_nil)))) (me_int) (nomark _)) (ma_nil))) cs_intF))) (fun _ _ _ h => lc_readW (good_name (by decide)) (rg_name) h) | exact ms_set (i := 9) scN rfl (by first | exact Or.inl rfl | exact Or.inr rfl) (PEi (pe_lc (own := [("_law_high", 11)]) rfl scN (mk_any (me_var (pv 5))) (blkOk_by (N := ["_law_box_here", "_law_low", "_law_warps", "_law_wefts", "_law_many", "_law_up", "_law_down", "_law_bias", "_law_rows_here", "_law_signs", "_law_k", "_law_high", "_law_sign"]) (sc := defScope s_law_rows) (by decide +kernel)) (fun _ _ _ _ _ => pg_name (i := 11) scN rfl (by first | exact Or.inl rfl | exact Or.inr rfl)) (fun _ _ _ _ _ => mts_nil) (fun _ _ _ _ _ => me_if (mt_cmp (op_neY hr.units) os_neX (me_var (pv 11)) (me_var (pv 1)) (nomark _)) (me_cb (pe_callTy call_intF (by rfl) T.b_int bt_int (ma_cons (me_cmp op_gt os_cmpI (me_var (pv 11)) (me_var (pv 1)) (nomark _)) (ma_nil))) cs_intF) (me_cb (pe_callTy call_intF (by rfl) T.b_int bt_int (ma_cons (me_cmp op_gt os_cmpI (me_call (k_law_take T) (hr.mono (by decide)) hgd (by rfl) T.f_law_take.mgf T.f_law_take.F.kp T.f_law_take.b takesW0 (ma_cons (me_var (pv 0)) (ma_cons (me_var (pv 7)) (ma_nil)))) (me_int) (nomark _)) (ma_nil))) cs_intF))) (fun _ _ _ h => lc_readW (good_name (by decide)) (rg_name) h)))) (ms_one (ms_expr (me_bm (pe_bm PySem.F.plainAttrs_list PySem.F.slot_list_append PySem.F.type_list_append mt_append (me_var (pv 8)) (ma_cons (me_m1 (pe_join (me_str) (PEi (pe_lc (own := [("_law_sign", 12)]) rfl scN (mk_any (me_var (pv 9))) (blkOk_by (N := ["_law_box_here", "_law_low", "_law_warps", "_law_wefts", "_law_many", "_law_up", "_law_down", "_law_bias", "_law_rows_here", "_law_signs", "_law_k", "_law_high", "_law_sign"]) (sc := defScope s_law_rows) (by decide +kernel)) (fun _ _ _ _ _ => pg_name (i := 12) scN rfl (by first | exact Or.inl rfl | exact Or.inr rfl)) (fun _ _ _ _ _ => mts_nil) (fun _ _ _ _ _ => me_cb (pe_callTy call_str_int (by rfl) T.b_str bt_str (ma_cons (me_var (pv 12)) (ma_nil))) cs_strF)) (fun _ _ _ h => lc_readW (good_name (by decide)) (rg_name) h))) m1_joinX) (ma_nil))) meth_append))))) (ms_one (ms_ret (me_frz (me_var (pv 8))))))))
theorem k_law_threads (T : TxB P K mg base) : GFn P w K mg base 1 T.f_law_threads.a T.f_law_threads.fd ["_law_rows_here"] g_law_threads := by
  refine gfn_of (k := 0) T.f_law_threads.F sc_law_threads fun cdv A outer s H E hr hgd => ?_
  have scN := sc_law_threads.nd
  have tk := takes_of (X := cxOf (CX P w) P w K mg base ["_law_rows_here", "_law_k"] "_law_threads" (defScope s_law_threads) T.f_law_threads.a cdv A outer s H E) (E := E) rfl rfl rfl rfl
  exact ms_one (ms_ret (me_op op_addA os_add (PEi (pe_lc (own := [("_law_k", 1)]) rfl scN (mi_r1 (pi_range1 (by rfl) T.b_range (ma_cons (me_cb (pe_callB call_len (by rfl) T.b_len bt_len (ma_cons (me_ix ix_seq os_item (me_var (pv 0)) (me_int) (fun _ _ => rfl)) (ma_nil))) cs_len) (ma_nil)))) (blkOk_by (N := ["_law_rows_here", "_law_k"]) (sc := defScope s_law_threads) (by decide +kernel)) (fun _ _ _ _ _ => pg_name (i := 1) scN rfl (by first | exact Or.inl rfl | exact Or.inr rfl)) (fun _ _ _ _ _ => mts_nil) (fun _ _ _ _ _ => me_tup (ma_cons (me_str) (ma_cons (me_var (pv 1)) (ma_nil))))) (fun _ _ _ h => lc_read (good_name (by decide)) (rg_name) h)) (PEi (pe_lc (own := [("_law_k", 1)]) rfl scN (mi_r1 (pi_range1 (by rfl) T.b_range (ma_cons (me_cb (pe_callB call_len (by rfl) T.b_len bt_len (ma_cons (me_var (pv 0)) (ma_nil))) cs_len) (ma_nil)))) (blkOk_by (N := ["_law_rows_here", "_law_k"]) (sc := defScope s_law_threads) (by decide +kernel)) (fun _ _ _ _ _ => pg_name (i := 1) scN rfl (by first | exact Or.inl rfl | exact Or.inr rfl)) (fun _ _ _ _ _ => mts_nil) (fun _ _ _ _ _ => me_tup (ma_cons (me_str) (ma_cons (me_var (pv 1)) (ma_nil))))) (fun _ _ _ h => lc_read (good_name (by decide)) (rg_name) h))))
theorem kis_sequence (T : TxB P K mg base) : GFn P w K mg base 1 T.fis_sequence.a T.fis_sequence.fd ["value"] gis_sequence := by
  refine gfn_of (k := 0) T.fis_sequence.F scis_sequence fun cdv A outer s H E hr hgd => ?_
  have scN := scis_sequence.nd
  have tk := takes_of (X := cxOf (CX P w) P w K mg base ["value"] "is_sequence" (defScope sis_sequence) T.fis_sequence.a cdv A outer s H E) (E := E) rfl rfl rfl rfl
  exact ms_one (ms_ret (me_cb (pe_callB call_isiA (by rfl) T.b_isinstance bt_isinstance (ma_cons (me_var (pv 0)) (ma_cons (me_tup (ma_cons (me_c (pe_bltn (v := .ty "list") (by rfl) T.b_list bt_list rfl) (fun _ _ => .ty _)) (ma_cons (me_c (pe_bltn (v := .ty "tuple") (by rfl) T.b_tuple bt_tuple rfl) (fun _ _ => .ty _)) (ma_nil)))) (ma_nil)))) cs_isi))
theorem kis_pattern (T : TxB P K mg base) : GFn P w K mg base 1 T.fis_pattern.a T.fis_pattern.fd ["value", "length"] gis_pattern := by
  refine gfn_of (k := 0) T.fis_pattern.F scis_pattern fun cdv A outer s H E hr hgd => ?_
  have scN := scis_pattern.nd
  have tk := takes_of (X := cxOf (CX P w) P w K mg base ["value", "length", "sign"] "is_pattern" (defScope sis_pattern) T.fis_pattern.a cdv A outer s H E) (E := E) rfl rfl rfl rfl
  exact ms_one (ms_ret (me_and (me_cb (pe_callB call_isiA (by rfl) T.b_isinstance bt_isinstance (ma_cons (me_var (pv 0)) (ma_cons (me_c (pe_bltn (v := .ty "str") (by rfl) T.b_str bt_str rfl) (fun _ _ => .ty _)) (ma_nil)))) cs_isi) (me_and (me_cmp (op_eqY hr.units) os_eqX (me_cb (pe_callB call_len (by rfl) T.b_len bt_len (ma_cons (me_var (pv 0)) (ma_nil))) cs_len) (me_var (pv 1)) (nomark _)) (me_one (me_cb (pe_callB (cr_all rfl) (by rfl) T.b_all bt_all (ma_cons (PEi (pe_lc (own := [("sign", 2)]) rfl scN (mk_any (me_var (pv 0))) (blkOk_by (N := ["value", "length", "sign"]) (sc := defScope sis_pattern) (by decide +kernel)) (fun _ _ _ _ _ => pg_name (i := 2) scN rfl (by first | exact Or.inl rfl | exact Or.inr rfl)) (fun _ _ _ _ _ => mts_nil) (fun _ _ _ _ _ => me_cmp (op_inY hr.units) os_inY (me_var (pv 2)) (me_const (by rfl) T.cSIGNS) (by with_unfolding_all rfl))) (fun _ _ _ h => lc_readW (good_name (by decide)) (rg_name) h)) (ma_nil))) cs_all)))))
theorem kare_rows (T : TxB P K mg base) : GFn P w K mg base 2 T.fare_rows.a T.fare_rows.fd ["value", "most"] gare_rows := by
  refine gfn_of (k := 1) T.fare_rows.F scare_rows fun cdv A outer s H E hr hgd => ?_
  have scN := scare_rows.nd
  have tk := takes_of (X := cxOf (CX P w) P w K mg base ["value", "most", "row"] "are_rows" (defScope sare_rows) T.fare_rows.a cdv A outer s H E) (E := E) rfl rfl rfl rfl
  exact ms_cons (ms_if (PW.pt (mw_or (mt_not (mt_val (me_call (kis_sequence T) (hr.mono (by decide)) hgd (by rfl) T.fis_sequence.mgf T.fis_sequence.F.kp T.fis_sequence.b tk (ma_cons (me_var (pv 0)) (ma_nil))))) (mw_or1 (mt_not (mt_chain op_leA os_le op_leA os_le (me_int) (me_cb (pe_callB call_len (by rfl) T.b_len bt_len (ma_cons (me_var (pv 0)) (ma_nil))) cs_len) (me_var (pv 1))))))) (ms_one (ms_ret (me_bl))) (ms_nil)) (ms_cons (ms_if (PW.pt (mw_or (mt_not (mt_val (me_cb (pe_callB call_isiA (by rfl) T.b_isinstance bt_isinstance (ma_cons (me_ix ix_seq os_item (me_var (pv 0)) (me_int) (fun _ _ => rfl)) (ma_cons (me_c (pe_bltn (v := .ty "str") (by rfl) T.b_str bt_str rfl) (fun _ _ => .ty _)) (ma_nil)))) cs_isi))) (mw_or1 (mt_not (mt_chain op_leA os_le op_leA os_le (me_int) (me_cb (pe_callB call_len (by rfl) T.b_len bt_len (ma_cons (me_ix ix_seq os_item (me_var (pv 0)) (me_int) (fun _ _ => rfl)) (ma_nil))) cs_len) (me_var (pv 1))))))) (ms_one (ms_ret (me_bl))) (ms_nil)) (ms_one (ms_ret (me_cb (pe_callB (cr_all rfl) (by rfl) T.b_all bt_all (ma_cons (PEi (pe_lc (own := [("row", 2)]) rfl scN (mk_any (me_var (pv 0))) (blkOk_by (N := ["value", "most", "row"]) (sc := defScope sare_rows) (by decide +kernel)) (fun _ _ _ _ _ => pg_name (i := 2) scN rfl (by first | exact Or.inl rfl | exact Or.inr rfl)) (fun _ _ _ _ _ => mts_nil) (fun _ _ _ _ _ => me_call (kis_pattern T) (hr.mono (by decide)) hgd (by rfl) T.fis_pattern.mgf T.fis_pattern.F.kp T.fis_pattern.b takesW0 (ma_cons (me_var (pv 2)) (ma_cons (me_cb (pe_callB call_len (by rfl) T.b_len bt_len (ma_cons (me_ix ix_seq os_item (me_var (pv 0)) (me_int) (fun _ _ => rfl)) (ma_nil))) cs_len) (ma_nil))))) (fun _ _ _ h => lc_readW (good_name (by decide)) (rg_name) h)) (ma_nil))) cs_all))))
theorem kCloth____init__ (T : TxB P K mg base) {f : Addr} (O : OwnF K "__init__" "Cloth.__init__" sCloth____init__ ["self", "rows"] f) : ∃ fd, GFn P w K mg base 3 f fd ["self", "rows"] gCloth____init__ ∧ Binds K fd ["self", "rows"] [] := by
  obtain ⟨fd, F, hb⟩ := O
  refine ⟨fd, gfn_of (k := 2) F scCloth____init__ fun cdv A outer s H E hr hgd => ?_, hb⟩
  have scN := scCloth____init__.nd
  have tk := takes_of (X := cxOf (CX P w) P w K mg base ["self", "rows"] "Cloth.__init__" (defScope sCloth____init__) f cdv A outer s H E) (E := E) rfl rfl rfl rfl
  exact ms_cons (ms_if (mt_not (mt_val (me_call (kare_rows T) (hr.mono (by decide)) hgd (by rfl) T.fare_rows.mgf T.fare_rows.F.kp T.fare_rows.b tk (ma_cons (me_var (pv 1)) (ma_cons (me_ccI T.cc_Cloth_MOST (by rfl) T.gx) (ma_nil)))))) (ms_one (ms_raise rfl tk T.x_InvalidRows T.xm (hr.mono (by decide)) (by rfl) (T.gx _) (me_var (pv 1)))) (ms_nil)) (ms_one (ms_fld (allc (T.fl_Cloth_kept_rows) (all0)) (me_var (pv 0)) (me_cb (pe_callTy call_list_of (by rfl) T.b_list bt_list (ma_cons (me_var (pv 1)) (ma_nil))) cs_list)))
theorem mkCloth (T : TxB P K mg base) : MakK P w K mg base "Cloth" gCloth____init__ 3 := by
  obtain ⟨C, f, h1, h2, h3⟩ := T.mk_Cloth
  obtain ⟨fd, F, hb⟩ := kCloth____init__ (w := w) (base := base) T h3
  exact ⟨C, f, fd, _, h1, T.gx _ _ h1, h2, F, hb⟩
theorem k_law_lies_over (T : TxB P K mg base) : GFn P w K mg base 1 T.f_law_lies_over.a T.f_law_lies_over.fd ["_law_rows_here", "_law_one", "_law_other"] g_law_lies_over := by
  refine gfn_of (k := 0) T.f_law_lies_over.F sc_law_lies_over fun cdv A outer s H E hr hgd => ?_
  have scN := sc_law_lies_over.nd
  have tk := takes_of (X := cxOf (CX P w) P w K mg base ["_law_rows_here", "_law_one", "_law_other"] "_law_lies_over" (defScope s_law_lies_over) T.f_law_lies_over.a cdv A outer s H E) (E := E) rfl rfl rfl rfl
  exact ms_cons (ms_if (mt_cmp (op_eqY hr.units) os_eqX (me_ix ix_seq os_item (me_var (pv 1)) (me_int) (fun _ _ => rfl)) (me_str) (nomark _)) (ms_one (ms_ret (me_cmp (op_eqY hr.units) os_eqX (me_ix ix_seq os_item (me_ix ix_seq os_item (me_var (pv 0)) (me_ix ix_seq os_item (me_var (pv 2)) (me_int) (fun _ _ => rfl)) (fun _ _ => rfl)) (me_ix ix_seq os_item (me_var (pv 1)) (me_int) (fun _ _ => rfl)) (fun _ _ => rfl)) (me_str) (nomark _)))) (ms_nil)) (ms_one (ms_ret (me_cmp (op_eqY hr.units) os_eqX (me_ix ix_seq os_item (me_ix ix_seq os_item (me_var (pv 0)) (me_ix ix_seq os_item (me_var (pv 1)) (me_int) (fun _ _ => rfl)) (fun _ _ => rfl)) (me_ix ix_seq os_item (me_var (pv 2)) (me_int) (fun _ _ => rfl)) (fun _ _ => rfl)) (me_str) (nomark _))))
theorem kis_integer (T : TxB P K mg base) : GFn P w K mg base 1 T.fis_integer.a T.fis_integer.fd ["value", "low", "high"] gis_integer := by
  refine gfn_of (k := 0) T.fis_integer.F scis_integer fun cdv A outer s H E hr hgd => ?_
  have scN := scis_integer.nd
  have tk := takes_of (X := cxOf (CX P w) P w K mg base ["value", "low", "high"] "is_integer" (defScope sis_integer) T.fis_integer.a cdv A outer s H E) (E := E) rfl rfl rfl rfl
  exact ms_one (ms_ret (me_and (me_cb (pe_callB call_isiA (by rfl) T.b_isinstance bt_isinstance (ma_cons (me_var (pv 0)) (ma_cons (me_c (pe_bltn (v := .ty "int") (by rfl) T.b_int bt_int rfl) (fun _ _ => .ty _)) (ma_nil)))) cs_isi) (me_and (me_not (me_cb (pe_callB call_isiA (by rfl) T.b_isinstance bt_isinstance (ma_cons (me_var (pv 0)) (ma_cons (me_c (pe_bltn (v := .ty "bool") (by rfl) T.b_bool bt_bool rfl) (fun _ _ => .ty _)) (ma_nil)))) cs_isi)) (me_one (me_chain op_leA os_le op_leA os_le (me_var (pv 1)) (me_var (pv 0)) (me_var (pv 2)))))))
theorem kis_thread (T : TxB P K mg base) : GFn P w K mg base 2 T.fis_thread.a T.fis_thread.fd ["value", "warps", "wefts"] gis_thread := by
  refine gfn_of (k := 1) T.fis_thread.F scis_thread fun cdv A outer s H E hr hgd => ?_
  have scN := scis_thread.nd
  have tk := takes_of (X := cxOf (CX P w) P w K mg base ["value", "warps", "wefts", "kind", "number"] "is_thread" (defScope sis_thread) T.fis_thread.a cdv A outer s H E) (E := E) rfl rfl rfl rfl
  exact ms_cons (ms_match2 (i := 3) (j := 4) scN rfl rfl (by first | exact Or.inl rfl | exact Or.inr rfl) (by first | exact Or.inl rfl | exact Or.inr rfl) rfl (me_var (pv 0)) (PW.pt (mw_and (mt_val (me_cb (pe_callB call_isiA (by rfl) T.b_isinstance bt_isinstance (ma_cons (me_var (pv 0)) (ma_cons (me_c (pe_bltn (v := .ty "tuple") (by rfl) T.b_tuple bt_tuple rfl) (fun _ _ => .ty _)) (ma_nil)))) cs_isi)) (mw_and (mt_val (me_cb (pe_callB call_isiA (by rfl) T.b_isinstance bt_isinstance (ma_cons (me_var (pv 3)) (ma_cons (me_c (pe_bltn (v := .ty "str") (by rfl) T.b_str bt_str rfl) (fun _ _ => .ty _)) (ma_nil)))) cs_isi)) (mw_and1 (mt_cmp (op_inY hr.units) os_inY (me_var (pv 3)) (me_const (by rfl) T.cKINDS) (by with_unfolding_all rfl)))))) (ms_one (ms_ret (me_call (kis_integer T) (hr.mono (by decide)) hgd (by rfl) T.fis_integer.mgf T.fis_integer.F.kp T.fis_integer.b tk (ma_cons (me_var (pv 4)) (ma_cons (me_int) (ma_cons (me_op op_sub os_sub (me_if (mt_cmp (op_eqY hr.units) os_eqX (me_var (pv 3)) (me_str) (nomark _)) (me_var (pv 1)) (me_var (pv 2))) (me_int)) (ma_nil)))))))) (ms_one (ms_ret (me_bl)))
theorem kCloth__weft_count (T : TxB P K mg base) {f : Addr} (O : OwnF K "weft_count" "Cloth.weft_count" sCloth__weft_count ["self"] f) : ∃ fd, GFn P w K mg base 1 f fd ["self"] gCloth__weft_count ∧ Binds K fd ["self"] [] := by
  obtain ⟨fd, F, hb⟩ := O
  refine ⟨fd, gfn_of (k := 0) F scCloth__weft_count fun cdv A outer s H E hr hgd => ?_, hb⟩
  have scN := scCloth__weft_count.nd
  have tk := takes_of (X := cxOf (CX P w) P w K mg base ["self"] "Cloth.weft_count" (defScope sCloth__weft_count) f cdv A outer s H E) (E := E) rfl rfl rfl rfl
  exact ms_one (ms_ret (me_cb (pe_callB call_len (by rfl) T.b_len bt_len (ma_cons (me_fld (allc (T.fl_Cloth_kept_rows) (all0)) (me_var (pv 0))) (ma_nil))) cs_len))
theorem pCloth__weft_count (T : TxB P K mg base) {k : Nat} (hk : 1 ≤ k := by decide) : PrpK P w K mg base "Cloth" "weft_count" gCloth__weft_count k := by
  obtain ⟨C, p, f, h1, h2, h3, h4⟩ := T.pr_Cloth_weft_count
  obtain ⟨fd, F, hb⟩ := kCloth__weft_count (w := w) (base := base) T h4
  exact ⟨C, p, f, fd, _, h1, h2, h3, F.mono hk, hb⟩
theorem kCloth__warp_count (T : TxB P K mg base) {f : Addr} (O : OwnF K "warp_count" "Cloth.warp_count" sCloth__warp_count ["self"] f) : ∃ fd, GFn P w K mg base 1 f fd ["self"] gCloth__warp_count ∧ Binds K fd ["self"] [] := by
  obtain ⟨fd, F, hb⟩ := O
  refine ⟨fd, gfn_of (k := 0) F scCloth__warp_count fun cdv A outer s H E hr hgd => ?_, hb⟩
  have scN := scCloth__warp_count.nd
  have tk := takes_of (X := cxOf (CX P w) P w K mg base ["self"] "Cloth.warp_count" (defScope sCloth__warp_count) f cdv A outer s H E) (E := E) rfl rfl rfl rfl
  exact ms_one (ms_ret (me_cb (pe_callB call_len (by rfl) T.b_len bt_len (ma_cons (me_ix ix_seq os_item (me_fld (allc (T.fl_Cloth_kept_rows) (all0)) (me_var (pv 0))) (me_int) (fun _ _ => rfl)) (ma_nil))) cs_len))
theorem pCloth__warp_count (T : TxB P K mg base) {k : Nat} (hk : 1 ≤ k := by decide) : PrpK P w K mg base "Cloth" "warp_count" gCloth__warp_count k := by
  obtain ⟨C, p, f, h1, h2, h3, h4⟩ := T.pr_Cloth_warp_count
  obtain ⟨fd, F, hb⟩ := kCloth__warp_count (w := w) (base := base) T h4
  exact ⟨C, p, f, fd, _, h1, h2, h3, F.mono hk, hb⟩
theorem kCloth____contains__ (T : TxB P K mg base) {f : Addr} (O : OwnF K "__contains__" "Cloth.__contains__" sCloth____contains__ ["self", "value"] f) : ∃ fd, GFn P w K mg base 3 f fd ["self", "value"] gCloth____contains__ ∧ Binds K fd ["self", "value"] [] := by
  obtain ⟨fd, F, hb⟩ := O
  refine ⟨fd, gfn_of (k := 2) F scCloth____contains__ fun cdv A outer s H E hr hgd => ?_, hb⟩
  have scN := scCloth____contains__.nd
  have tk := takes_of (X := cxOf (CX P w) P w K mg base ["self", "value"] "Cloth.__contains__" (defScope sCloth____contains__) f cdv A outer s H E) (E := E) rfl rfl rfl rfl
  exact ms_one (ms_ret (me_call (kis_thread T) (hr.mono (by decide)) hgd (by rfl) T.fis_thread.mgf T.fis_thread.F.kp T.fis_thread.b tk (ma_cons (me_var (pv 1)) (ma_cons ((me_prop (tbl := [("Cloth", gCloth__warp_count)]) (k := 1) (allc (pCloth__warp_count T) (all0)) (hr.mono (by decide)) hgd (me_var (pv 0)))) (ma_cons ((me_prop (tbl := [("Cloth", gCloth__weft_count)]) (k := 1) (allc (pCloth__weft_count T) (all0)) (hr.mono (by decide)) hgd (me_var (pv 0)))) (ma_nil))))))
theorem spCloth____contains__ (T : TxB P K mg base) {k : Nat} (hk : 3 ≤ k := by decide) : SpcK P w K mg base "Cloth" "__contains__" gCloth____contains__ k := by
  obtain ⟨C, f, h1, h2, h3⟩ := T.sp_Cloth___contains__
  obtain ⟨fd, F, hb⟩ := kCloth____contains__ (w := w) (base := base) T h3
  exact ⟨C, f, fd, _, h1, h2, F.mono hk, hb⟩
theorem kCloth__threads (T : TxB P K mg base) {f : Addr} (O : OwnF K "threads" "Cloth.threads" sCloth__threads ["self"] f) : ∃ fd, GFn P w K mg base 3 f fd ["self"] gCloth__threads ∧ Binds K fd ["self"] [] := by
  obtain ⟨fd, F, hb⟩ := O
  refine ⟨fd, gfn_of (k := 2) F scCloth__threads fun cdv A outer s H E hr hgd => ?_, hb⟩
  have scN := scCloth__threads.nd
  have tk := takes_of (X := cxOf (CX P w) P w K mg base ["self", "warps", "number"] "Cloth.threads" (defScope sCloth__threads) f cdv A outer s H E) (E := E) rfl rfl rfl rfl
  exact ms_cons ((by first | exact ms_setT (ps_setLc (i := 1) (own := [("number", 2)]) rfl scN rfl rfl (sw_true rfl rfl rfl (by decide +kernel)) (mi_r1 (pi_range1 (by rfl) T.b_range (ma_cons ((me_prop (tbl := [("Cloth", gCloth__warp_count)]) (k := 1) (allc (pCloth__warp_count T) (all0)) (hr.mono (by decide)) hgd (me_var (pv 0)))) (ma_nil)))) (blkOk_by (N := ["self", "warps", "number"]) (sc := defScope sCloth__threads) (by decide +kernel)) (fun _ _ _ _ _ => pg_name (i := 2) scN rfl (by first | exact Or.inl rfl | exact Or.inr rfl)) (fun _ _ _ _ _ => mts_nil) (fun _ _ _ _ _ => me_tup (ma_cons (me_str) (ma_cons (me_var (pv 2)) (ma_nil))))) (fun _ _ _ h => lc_read (good_name (by decide)) (rg_name) h) | exact ms_set (i := 1) scN rfl (by first | exact Or.inl rfl | exact Or.inr rfl) (PEi (pe_lc (own := [("number", 2)]) rfl scN (mi_r1 (pi_range1 (by rfl) T.b_range (ma_cons ((me_prop (tbl := [("Cloth", gCloth__warp_count)]) (k := 1) (allc (pCloth__warp_count T) (all0)) (hr.mono (by decide)) hgd (me_var (pv 0)))) (ma_nil)))) (blkOk_by (N := ["self", "warps", "number"]) (sc := defScope sCloth__threads) (by decide +kernel)) (fun _ _ _ _ _ => pg_name (i := 2) scN rfl (by first | exact Or.inl rfl | exact Or.inr rfl)) (fun _ _ _ _ _ => mts_nil) (fun _ _ _ _ _ => me_tup (ma_cons (me_str) (ma_cons (me_var (pv 2)) (ma_nil))))) (fun _ _ _ h => lc_read (good_name (by decide)) (rg_name) h)))) (ms_one (ms_ret (me_lst (ma_star (me_var (pv 1)) (ma_star (PEi (pe_lc (own := [("number", 2)]) rfl scN (mi_r1 (pi_range1 (by rfl) T.b_range (ma_cons ((me_prop (tbl := [("Cloth", gCloth__weft_count)]) (k := 1) (allc (pCloth__weft_count T) (all0)) (hr.mono (by decide)) hgd (me_var (pv 0)))) (ma_nil)))) (blkOk_by (N := ["self", "warps", "number"]) (sc := defScope sCloth__threads) (by decide +kernel)) (fun _ _ _ _ _ => pg_name (i := 2) scN rfl (by first | exact Or.inl rfl | exact Or.inr rfl)) (fun _ _ _ _ _ => mts_nil) (fun _ _ _ _ _ => me_tup (ma_cons (me_str) (ma_cons (me_var (pv 2)) (ma_nil))))) (fun _ _ _ h => lc_read (good_name (by decide)) (rg_name) h)) (ma_nil))))))
theorem mCloth__threads (T : TxB P K mg base) {k : Nat} (hk : 3 ≤ k := by decide) : MthK P w K mg base "Cloth" "threads" gCloth__threads k := by
  obtain ⟨C, f, h1, h2, h3, h4⟩ := T.me_Cloth_threads
  obtain ⟨fd, F, hb⟩ := kCloth__threads (w := w) (base := base) T h4
  exact ⟨C, f, fd, _, h1, h2, h3, F.mono hk, hb⟩
theorem kCloth__crossed (T : TxB P K mg base) {f : Addr} (O : OwnF K "crossed" "Cloth.crossed" sCloth__crossed ["self", "thread"] f) : ∃ fd, GFn P w K mg base 4 f fd ["self", "thread"] gCloth__crossed ∧ Binds K fd ["self", "thread"] [] := by
  obtain ⟨fd, F, hb⟩ := O
  refine ⟨fd, gfn_of (k := 3) F scCloth__crossed fun cdv A outer s H E hr hgd => ?_, hb⟩
  have scN := scCloth__crossed.nd
  have tk := takes_of (X := cxOf (CX P w) P w K mg base ["self", "thread", "other"] "Cloth.crossed" (defScope sCloth__crossed) f cdv A outer s H E) (E := E) rfl rfl rfl rfl
  exact ms_cons (ms_if (mt_cmpX (ox_in (neg := true) (tbl := [("Cloth", gCloth____contains__)]) (k := 3) (allc (spCloth____contains__ T) (all0)) (hr.mono (by decide)) hgd tk (OpX.of (op_notinY hr.units) os_inY)) (me_var (pv 1)) (me_var (pv 0)) (by with_unfolding_all rfl)) (ms_one (ms_raise rfl tk T.x_InvalidThread T.xm (hr.mono (by decide)) (by rfl) (T.gx _) (me_var (pv 1)))) (ms_nil)) (ms_one (ms_ret (PEi (pe_lc (own := [("other", 2)]) rfl scN (mi_lst ((me_meth0 (tbl := [("Cloth", gCloth__threads)]) (k := 3) (allc (mCloth__threads T) (all0)) (hr.mono (by decide)) hgd tk (me_var (pv 0))))) (blkOk_by (N := ["self", "thread", "other"]) (sc := defScope sCloth__crossed) (by decide +kernel)) (fun _ _ _ _ _ => pg_name (i := 2) scN rfl (by first | exact Or.inl rfl | exact Or.inr rfl)) (fun _ _ _ _ _ => mts_one (mt_cmp (op_neY hr.units) os_neX (me_ix ix_seq os_item (me_var (pv 2)) (me_int) (fun _ _ => rfl)) (me_ix ix_seq os_item (me_var (pv 1)) (me_int) (fun _ _ => rfl)) (nomark _))) (fun _ _ _ _ _ => me_var (pv 2))) (fun _ _ _ h => lc_read (good_name (by decide)) (rg_name) h))))
theorem mCloth__crossed (T : TxB P K mg base) {k : Nat} (hk : 4 ≤ k := by decide) : MthK P w K mg base "Cloth" "crossed" gCloth__crossed k := by
  obtain ⟨C, f, h1, h2, h3, h4⟩ := T.me_Cloth_crossed
  obtain ⟨fd, F, hb⟩ := kCloth__crossed (w := w) (base := base) T h4
  exact ⟨C, f, fd, _, h1, h2, h3, F.mono hk, hb⟩
theorem kcrossing_of (T : TxB P K mg base) : GFn P w K mg base 1 T.fcrossing_of.a T.fcrossing_of.fd ["one", "other"] gcrossing_of := by
  refine gfn_of (k := 0) T.fcrossing_of.F sccrossing_of fun cdv A outer s H E hr hgd => ?_
  have scN := sccrossing_of.nd
  have tk := takes_of (X := cxOf (CX P w) P w K mg base ["one", "other"] "crossing_of" (defScope scrossing_of) T.fcrossing_of.a cdv A outer s H E) (E := E) rfl rfl rfl rfl
  exact ms_cons (ms_if (mt_cmp (op_eqY hr.units) os_eqX (me_ix ix_seq os_item (me_var (pv 0)) (me_int) (fun _ _ => rfl)) (me_ix ix_seq os_item (me_var (pv 1)) (me_int) (fun _ _ => rfl)) (nomark _)) (ms_one (ms_ret (me_non))) (ms_nil)) (ms_one (ms_ret (me_if (mt_cmp (op_eqY hr.units) os_eqX (me_ix ix_seq os_item (me_var (pv 0)) (me_int) (fun _ _ => rfl)) (me_str) (nomark _)) (me_tup (ma_cons (me_ix ix_seq os_item (me_var (pv 0)) (me_int) (fun _ _ => rfl)) (ma_cons (me_ix ix_seq os_item (me_var (pv 1)) (me_int) (fun _ _ => rfl)) (ma_nil)))) (me_tup (ma_cons (me_ix ix_seq os_item (me_var (pv 1)) (me_int) (fun _ _ => rfl)) (ma_cons (me_ix ix_seq os_item (me_var (pv 0)) (me_int) (fun _ _ => rfl)) (ma_nil)))))))
theorem kis_crossing (T : TxB P K mg base) : GFn P w K mg base 2 T.fis_crossing.a T.fis_crossing.fd ["value", "warps", "wefts"] gis_crossing := by
  refine gfn_of (k := 1) T.fis_crossing.F scis_crossing fun cdv A outer s H E hr hgd => ?_
  have scN := scis_crossing.nd
  have tk := takes_of (X := cxOf (CX P w) P w K mg base ["value", "warps", "wefts"] "is_crossing" (defScope sis_crossing) T.fis_crossing.a cdv A outer s H E) (E := E) rfl rfl rfl rfl
  exact ms_cons (ms_if (PW.pt (mw_or (mt_not (mt_val (me_cb (pe_callB call_isiA (by rfl) T.b_isinstance bt_isinstance (ma_cons (me_var (pv 0)) (ma_cons (me_c (pe_bltn (v := .ty "tuple") (by rfl) T.b_tuple bt_tuple rfl) (fun _ _ => .ty _)) (ma_nil)))) cs_isi))) (mw_or1 (mt_cmp (op_neY hr.units) os_neX (me_cb (pe_callB call_len (by rfl) T.b_len bt_len (ma_cons (me_var (pv 0)) (ma_nil))) cs_len) (me_int) (nomark _))))) (ms_one (ms_ret (me_bl))) (ms_nil)) (ms_one (ms_ret (me_and (me_call (kis_integer T) (hr.mono (by decide)) hgd (by rfl) T.fis_integer.mgf T.fis_integer.F.kp T.fis_integer.b tk (ma_cons (me_ix ix_seq os_item (me_var (pv 0)) (me_int) (fun _ _ => rfl)) (ma_cons (me_int) (ma_cons (me_op op_sub os_sub (me_var (pv 1)) (me_int)) (ma_nil))))) (me_one (me_call (kis_integer T) (hr.mono (by decide)) hgd (by rfl) T.fis_integer.mgf T.fis_integer.F.kp T.fis_integer.b tk (ma_cons (me_ix ix_seq os_item (me_var (pv 0)) (me_int) (fun _ _ => rfl)) (ma_cons (me_int) (ma_cons (me_op op_sub os_sub (me_var (pv 2)) (me_int)) (ma_nil)))))))))
theorem kCloth____getitem__ (T : TxB P K mg base) {f : Addr} (O : OwnF K "__getitem__" "Cloth.__getitem__" sCloth____getitem__ ["self", "crossing"] f) : ∃ fd, GFn P w K mg base 3 f fd ["self", "crossing"] gCloth____getitem__ ∧ Binds K fd ["self", "crossing"] [] := by
  obtain ⟨fd, F, hb⟩ := O
  refine ⟨fd, gfn_of (k := 2) F scCloth____getitem__ fun cdv A outer s H E hr hgd => ?_, hb⟩
  have scN := scCloth____getitem__.nd
  have tk := takes_of (X := cxOf (CX P w) P w K mg base ["self", "crossing"] "Cloth.__getitem__" (defScope sCloth____getitem__) f cdv A outer s H E) (E := E) rfl rfl rfl rfl
  exact ms_cons (ms_if (mt_not (mt_val (me_call (kis_crossing T) (hr.mono (by decide)) hgd (by rfl) T.fis_crossing.mgf T.fis_crossing.F.kp T.fis_crossing.b tk (ma_cons (me_var (pv 1)) (ma_cons ((me_prop (tbl := [("Cloth", gCloth__warp_count)]) (k := 1) (allc (pCloth__warp_count T) (all0)) (hr.mono (by decide)) hgd (me_var (pv 0)))) (ma_cons ((me_prop (tbl := [("Cloth", gCloth__weft_count)]) (k := 1) (allc (pCloth__weft_count T) (all0)) (hr.mono (by decide)) hgd (me_var (pv 0)))) (ma_nil))))))) (ms_one (ms_raise rfl tk T.x_InvalidCrossing T.xm (hr.mono (by decide)) (by rfl) (T.gx _) (me_var (pv 1)))) (ms_nil)) (ms_one (ms_ret (me_cmp (op_eqY hr.units) os_eqX (me_ix ix_seq os_item (me_ix ix_seq os_item (me_fld (allc (T.fl_Cloth_kept_rows) (all0)) (me_var (pv 0))) (me_ix ix_seq os_item (me_var (pv 1)) (me_int) (fun _ _ => rfl)) (fun _ _ => rfl)) (me_ix ix_seq os_item (me_var (pv 1)) (me_int) (fun _ _ => rfl)) (fun _ _ => rfl)) (me_str) (nomark _))))
theorem spCloth____getitem__ (T : TxB P K mg base) {k : Nat} (hk : 3 ≤ k := by decide) : SpcK P w K mg base "Cloth" "__getitem__" gCloth____getitem__ k := by
  obtain ⟨C, f, h1, h2, h3⟩ := T.sp_Cloth___getitem__
  obtain ⟨fd, F, hb⟩ := kCloth____getitem__ (w := w) (base := base) T h3
  exact ⟨C, f, fd, _, h1, h2, F.mono hk, hb⟩
theorem kCloth__over (T : TxB P K mg base) {f : Addr} (O : OwnF K "over" "Cloth.over" sCloth__over ["self", "one", "other"] f) : ∃ fd, GFn P w K mg base 5 f fd ["self", "one", "other"] gCloth__over ∧ Binds K fd ["self", "one", "other"] [] := by
  obtain ⟨fd, F, hb⟩ := O
  refine ⟨fd, gfn_of (k := 4) F scCloth__over fun cdv A outer s H E hr hgd => ?_, hb⟩
  have scN := scCloth__over.nd
  have tk := takes_of (X := cxOf (CX P w) P w K mg base ["self", "one", "other"] "Cloth.over" (defScope sCloth__over) f cdv A outer s H E) (E := E) rfl rfl rfl rfl
  exact ms_cons (ms_if (mt_cmpX (ox_in (neg := true) (tbl := [("Cloth", gCloth____contains__)]) (k := 3) (allc (spCloth____contains__ T) (all0)) (hr.mono (by decide)) hgd tk (OpX.of (op_notinY hr.units) os_inY)) (me_var (pv 1)) (me_var (pv 0)) (by with_unfolding_all rfl)) (ms_one (ms_raise rfl tk T.x_InvalidThread T.xm (hr.mono (by decide)) (by rfl) (T.gx _) (me_var (pv 1)))) (ms_nil)) (ms_cons (ms_if (PW.pt (mw_or (mt_cmpX (ox_in (neg := true) (tbl := [("Cloth", gCloth____contains__)]) (k := 3) (allc (spCloth____contains__ T) (all0)) (hr.mono (by decide)) hgd tk (OpX.of (op_notinY hr.units) os_inY)) (me_var (pv 2)) (me_var (pv 0)) (by with_unfolding_all rfl)) (mw_or1 (mt_cmp op_isN os_is (me_call (kcrossing_of T) (hr.mono (by decide)) hgd (by rfl) T.fcrossing_of.mgf T.fcrossing_of.F.kp T.fcrossing_of.b tk (ma_cons (me_var (pv 1)) (ma_cons (me_var (pv 2)) (ma_nil)))) (me_non) (nomark _))))) (ms_one (ms_raise rfl tk T.x_InvalidThread T.xm (hr.mono (by decide)) (by rfl) (T.gx _) (me_var (pv 2)))) (ms_nil)) (ms_one (ms_ret (me_cmp (op_eqY hr.units) os_eqX ((me_ixI (tbl := [("Cloth", gCloth____getitem__)]) (k := 3) (allc (spCloth____getitem__ T) (all0)) (hr.mono (by decide)) hgd tk ix_seq os_item (me_var (pv 0)) (me_call (kcrossing_of T) (hr.mono (by decide)) hgd (by rfl) T.fcrossing_of.mgf T.fcrossing_of.F.kp T.fcrossing_of.b tk (ma_cons (me_var (pv 1)) (ma_cons (me_var (pv 2)) (ma_nil)))) (fun _ _ => rfl))) (me_cmp (op_eqY hr.units) os_eqX (me_ix ix_seq os_item (me_var (pv 1)) (me_int) (fun _ _ => rfl)) (me_str) (nomark _)) (nomark _)))))
theorem mCloth__over (T : TxB P K mg base) {k : Nat} (hk : 5 ≤ k := by decide) : MthK P w K mg base "Cloth" "over" gCloth__over k := by
  obtain ⟨C, f, h1, h2, h3, h4⟩ := T.me_Cloth_over
  obtain ⟨fd, F, hb⟩ := kCloth__over (w := w) (base := base) T h4
  exact ⟨C, f, fd, _, h1, h2, h3, F.mono hk, hb⟩
theorem kCloth__below (T : TxB P K mg base) {f : Addr} (O : OwnF K "below" "Cloth.below" sCloth__below ["self", "thread"] f) : ∃ fd, GFn P w K mg base 6 f fd ["self", "thread"] gCloth__below ∧ Binds K fd ["self", "thread"] [] := by
  obtain ⟨fd, F, hb⟩ := O
  refine ⟨fd, gfn_of (k := 5) F scCloth__below fun cdv A outer s H E hr hgd => ?_, hb⟩
  have scN := scCloth__below.nd
  have tk := takes_of (X := cxOf (CX P w) P w K mg base ["self", "thread", "other"] "Cloth.below" (defScope sCloth__below) f cdv A outer s H E) (E := E) rfl rfl rfl rfl
  exact ms_one (ms_ret (PEi (pe_lc (own := [("other", 2)]) rfl scN (mi_lst ((me_meth (tbl := [("Cloth", gCloth__crossed)]) (k := 4) (allc (mCloth__crossed T) (all0)) (hr.mono (by decide)) hgd tk (me_var (pv 0)) (ma_cons (me_var (pv 1)) (ma_nil))))) (blkOk_by (N := ["self", "thread", "other"]) (sc := defScope sCloth__below) (by decide +kernel)) (fun _ _ _ _ _ => pg_name (i := 2) scN rfl (by first | exact Or.inl rfl | exact Or.inr rfl)) (fun _ _ _ _ _ => mts_one (mt_val ((me_meth (tbl := [("Cloth", gCloth__over)]) (k := 5) (allc (mCloth__over T) (all0)) (hr.mono (by decide)) hgd takesW0 (me_var (pv 0)) (ma_cons (me_var (pv 1)) (ma_cons (me_var (pv 2)) (ma_nil))))))) (fun _ _ _ _ _ => me_var (pv 2))) (fun _ _ _ h => lc_readM (good_name (by decide)) (rg_name) h)))
theorem mCloth__below (T : TxB P K mg base) {k : Nat} (hk : 6 ≤ k := by decide) : MthK P w K mg base "Cloth" "below" gCloth__below k := by
  obtain ⟨C, f, h1, h2, h3, h4⟩ := T.me_Cloth_below
  obtain ⟨fd, F, hb⟩ := kCloth__below (w := w) (base := base) T h4
  exact ⟨C, f, fd, _, h1, h2, h3, F.mono hk, hb⟩
theorem kCloth__score (T : TxB P K mg base) {f : Addr} (O : OwnF K "score" "Cloth.score" sCloth__score ["self", "thread"] f) : ∃ fd, GFn P w K mg base 7 f fd ["self", "thread"] gCloth__score ∧ Binds K fd ["self", "thread"] [] := by
  obtain ⟨fd, F, hb⟩ := O
  refine ⟨fd, gfn_of (k := 6) F scCloth__score fun cdv A outer s H E hr hgd => ?_, hb⟩
  have scN := scCloth__score.nd
  have tk := takes_of (X := cxOf (CX P w) P w K mg base ["self", "thread"] "Cloth.score" (defScope sCloth__score) f cdv A outer s H E) (E := E) rfl rfl rfl rfl
  exact ms_one (ms_ret (me_cb (pe_callB call_len (by rfl) T.b_len bt_len (ma_cons ((me_meth (tbl := [("Cloth", gCloth__below)]) (k := 6) (allc (mCloth__below T) (all0)) (hr.mono (by decide)) hgd tk (me_var (pv 0)) (ma_cons (me_var (pv 1)) (ma_nil)))) (ma_nil))) cs_len))
theorem mCloth__score (T : TxB P K mg base) {k : Nat} (hk : 7 ≤ k := by decide) : MthK P w K mg base "Cloth" "score" gCloth__score k := by
  obtain ⟨C, f, h1, h2, h3, h4⟩ := T.me_Cloth_score
  obtain ⟨fd, F, hb⟩ := kCloth__score (w := w) (base := base) T h4
  exact ⟨C, f, fd, _, h1, h2, h3, F.mono hk, hb⟩
theorem kCloth__above (T : TxB P K mg base) {f : Addr} (O : OwnF K "above" "Cloth.above" sCloth__above ["self", "thread"] f) : ∃ fd, GFn P w K mg base 6 f fd ["self", "thread"] gCloth__above ∧ Binds K fd ["self", "thread"] [] := by
  obtain ⟨fd, F, hb⟩ := O
  refine ⟨fd, gfn_of (k := 5) F scCloth__above fun cdv A outer s H E hr hgd => ?_, hb⟩
  have scN := scCloth__above.nd
  have tk := takes_of (X := cxOf (CX P w) P w K mg base ["self", "thread", "other"] "Cloth.above" (defScope sCloth__above) f cdv A outer s H E) (E := E) rfl rfl rfl rfl
  exact ms_one (ms_ret (PEi (pe_lc (own := [("other", 2)]) rfl scN (mi_lst ((me_meth (tbl := [("Cloth", gCloth__crossed)]) (k := 4) (allc (mCloth__crossed T) (all0)) (hr.mono (by decide)) hgd tk (me_var (pv 0)) (ma_cons (me_var (pv 1)) (ma_nil))))) (blkOk_by (N := ["self", "thread", "other"]) (sc := defScope sCloth__above) (by decide +kernel)) (fun _ _ _ _ _ => pg_name (i := 2) scN rfl (by first | exact Or.inl rfl | exact Or.inr rfl)) (fun _ _ _ _ _ => mts_one (mt_not (mt_val ((me_meth (tbl := [("Cloth", gCloth__over)]) (k := 5) (allc (mCloth__over T) (all0)) (hr.mono (by decide)) hgd takesW0 (me_var (pv 0)) (ma_cons (me_var (pv 1)) (ma_cons (me_var (pv 2)) (ma_nil)))))))) (fun _ _ _ _ _ => me_var (pv 2))) (fun _ _ _ h => lc_readM (good_name (by decide)) (rg_name) h)))
theorem mCloth__above (T : TxB P K mg base) {k : Nat} (hk : 6 ≤ k := by decide) : MthK P w K mg base "Cloth" "above" gCloth__above k := by
  obtain ⟨C, f, h1, h2, h3, h4⟩ := T.me_Cloth_above
  obtain ⟨fd, F, hb⟩ := kCloth__above (w := w) (base := base) T h4
  exact ⟨C, f, fd, _, h1, h2, h3, F.mono hk, hb⟩
theorem kCloth__score_lists (T : TxB P K mg base) {f : Addr} (O : OwnF K "score_lists" "Cloth.score_lists" sCloth__score_lists ["self"] f) : ∃ fd, GFn P w K mg base 8 f fd ["self"] gCloth__score_lists ∧ Binds K fd ["self"] [] := by
  obtain ⟨fd, F, hb⟩ := O
  refine ⟨fd, gfn_of (k := 7) F scCloth__score_lists fun cdv A outer s H E hr hgd => ?_, hb⟩
  have scN := scCloth__score_lists.nd
  have tk := takes_of (X := cxOf (CX P w) P w K mg base ["self", "scores", "kind", "thread"] "Cloth.score_lists" (defScope sCloth__score_lists) f cdv A outer s H E) (E := E) rfl rfl rfl rfl
  exact ms_cons ((by first | exact ms_setT (ps_setDc (i := 1) (own := [("kind", 2)]) rfl scN rfl rfl (sw_trueD rfl rfl rfl (by decide +kernel)) (mk_fix (mi_tup (me_const (by rfl) T.cKINDS))) (blkOk_by (N := ["self", "scores", "kind", "thread"]) (sc := defScope sCloth__score_lists) (by decide +kernel)) (fun _ _ _ _ _ => pg_name (i := 2) scN rfl (by first | exact Or.inl rfl | exact Or.inr rfl)) (fun _ _ _ _ _ => mts_nil) (fun _ _ _ _ _ => me_var (pv 2)) (fun _ _ _ _ _ => (by exact PEi (pe_lc (own := [("thread", 3)]) rfl scN (mi_lst ((me_meth0 (tbl := [("Cloth", gCloth__threads)]) (k := 3) (allc (mCloth__threads T) (all0)) (hr.mono (by decide)) hgd takesW0 (me_var (pv 0))))) (blkOk_in (by kernel_rfl)) (fun _ _ _ _ _ => pg_name (i := 3) scN rfl (by first | exact Or.inl rfl | exact Or.inr rfl)) (fun _ _ _ _ _ => mts_one (mt_cmp (op_eqY hr.units) os_eqX (me_ix ix_seq os_item (me_var (pv 3)) (me_int) (fun _ _ => rfl)) (me_var (pv 2)) (nomark _))) (fun _ _ _ _ _ => (me_meth (tbl := [("Cloth", gCloth__score)]) (k := 7) (allc (mCloth__score T) (all0)) (hr.mono (by decide)) hgd takesW0 (me_var (pv 0)) (ma_cons (me_var (pv 3)) (ma_nil))))) (fun _ _ _ h => lc_readM (good_name (by decide)) (rg_name) h)))) (fun _ _ _ h => dc_read (good_name (by decide)) (rg_name) h) | exact ms_set (i := 1) scN rfl (by first | exact Or.inl rfl | exact Or.inr rfl) (PEi (pe_dc (own := [("kind", 2)]) rfl scN (mk_fix (mi_tup (me_const (by rfl) T.cKINDS))) (blkOk_by (N := ["self", "scores", "kind", "thread"]) (sc := defScope sCloth__score_lists) (by decide +kernel)) (fun _ _ _ _ _ => pg_name (i := 2) scN rfl (by first | exact Or.inl rfl | exact Or.inr rfl)) (fun _ _ _ _ _ => mts_nil) (fun _ _ _ _ _ => me_var (pv 2)) (fun _ _ _ _ _ => (by exact PEi (pe_lc (own := [("thread", 3)]) rfl scN (mi_lst ((me_meth0 (tbl := [("Cloth", gCloth__threads)]) (k := 3) (allc (mCloth__threads T) (all0)) (hr.mono (by decide)) hgd takesW0 (me_var (pv 0))))) (blkOk_in (by kernel_rfl)) (fun _ _ _ _ _ => pg_name (i := 3) scN rfl (by first | exact Or.inl rfl | exact Or.inr rfl)) (fun _ _ _ _ _ => mts_one (mt_cmp (op_eqY hr.units) os_eqX (me_ix ix_seq os_item (me_var (pv 3)) (me_int) (fun _ _ => rfl)) (me_var (pv 2)) (nomark _))) (fun _ _ _ _ _ => (me_meth (tbl := [("Cloth", gCloth__score)]) (k := 7) (allc (mCloth__score T) (all0)) (hr.mono (by decide)) hgd takesW0 (me_var (pv 0)) (ma_cons (me_var (pv 3)) (ma_nil))))) (fun _ _ _ h => lc_readM (good_name (by decide)) (rg_name) h)))) (fun _ _ _ h => dc_read (good_name (by decide)) (rg_name) h)))) (ms_one (ms_ret (me_tup (ma_cons (me_dget (u1 hr) (me_var (pv 1)) (me_str) (fun _ _ => rfl)) (ma_cons (me_dget (u1 hr) (me_var (pv 1)) (me_str) (fun _ _ => rfl)) (ma_nil))))))
theorem mCloth__score_lists (T : TxB P K mg base) {k : Nat} (hk : 8 ≤ k := by decide) : MthK P w K mg base "Cloth" "score_lists" gCloth__score_lists k := by
  obtain ⟨C, f, h1, h2, h3, h4⟩ := T.me_Cloth_score_lists
  obtain ⟨fd, F, hb⟩ := kCloth__score_lists (w := w) (base := base) T h4
  exact ⟨C, f, fd, _, h1, h2, h3, F.mono hk, hb⟩
theorem k_law_lists_right (T : TxB P K mg base) : GFn P w K mg base 9 T.f_law_lists_right.a T.f_law_lists_right.fd ["_law_cloth", "_law_rows_here"] g_law_lists_right := by
  refine gfn_of (k := 8) T.f_law_lists_right.F sc_law_lists_right fun cdv A outer s H E hr hgd => ?_
  have scN := sc_law_lists_right.nd
  have tk := takes_of (X := cxOf (CX P w) P w K mg base ["_law_cloth", "_law_rows_here", "_law_lists", "_law_one", "_law_turn", "_law_crossed", "_law_under", "_law_due", "_law_found", "_law_other"] "_law_lists_right" (defScope s_law_lists_right) T.f_law_lists_right.a cdv A outer s H E) (E := E) rfl rfl rfl rfl
  exact ms_cons (ms_set (i := 2) scN rfl (by first | exact Or.inl rfl | exact Or.inr rfl) (me_dict (pps_cons (me_str) (me_lstM (ma_nil)) (pps_cons (me_str) (me_lstM (ma_nil)) (pps_nil))) (mps_cons (mps_cons (mps_nil))) rfl rfl (fun z => by cases z) (by decide))) (ms_cons (ms_for (passes_of rfl) rfl (mi_lst (me_call (k_law_threads T) (hr.mono (by decide)) hgd (by rfl) T.f_law_threads.mgf T.f_law_threads.F.kp T.f_law_threads.b tk (ma_cons (me_var (pv 1)) (ma_nil)))) (mg_name (i := 3) scN rfl (by first | exact Or.inl rfl | exact Or.inr rfl)) (ms_cons ((by first | exact ms_setT (ps_setLc (i := 5) (own := [("_law_other", 9)]) rfl scN rfl rfl (sw_true rfl rfl rfl (by decide +kernel)) (mi_lst (me_call (k_law_threads T) (hr.mono (by decide)) hgd (by rfl) T.f_law_threads.mgf T.f_law_threads.F.kp T.f_law_threads.b tk (ma_cons (me_var (pv 1)) (ma_nil)))) (blkOk_by (N := ["_law_cloth", "_law_rows_here", "_law_lists", "_law_one", "_law_turn", "_law_crossed", "_law_under", "_law_due", "_law_found", "_law_other"]) (sc := defScope s_law_lists_right) (by decide +kernel)) (fun _ _ _ _ _ => pg_name (i := 9) scN rfl (by first | exact Or.inl rfl | exact Or.inr rfl)) (fun _ _ _ _ _ => mts_one (mt_cmp (op_neY hr.units) os_neX (me_ix ix_seq os_item (me_var (pv 9)) (me_int) (fun _ _ => rfl)) (me_ix ix_seq os_item (me_var (pv 3)) (me_int) (fun _ _ => rfl)) (nomark _))) (fun _ _ _ _ _ => me_var (pv 9))) (fun _ _ _ h => lc_read (good_name (by decide)) (rg_name) h) | exact ms_set (i := 5) scN rfl (by first | exact Or.inl rfl | exact Or.inr rfl) (PEi (pe_lc (own := [("_law_other", 9)]) rfl scN (mi_lst (me_call (k_law_threads T) (hr.mono (by decide)) hgd (by rfl) T.f_law_threads.mgf T.f_law_threads.F.kp T.f_law_threads.b tk (ma_cons (me_var (pv 1)) (ma_nil)))) (blkOk_by (N := ["_law_cloth", "_law_rows_here", "_law_lists", "_law_one", "_law_turn", "_law_crossed", "_law_under", "_law_due", "_law_found", "_law_other"]) (sc := defScope s_law_lists_right) (by decide +kernel)) (fun _ _ _ _ _ => pg_name (i := 9) scN rfl (by first | exact Or.inl rfl | exact Or.inr rfl)) (fun _ _ _ _ _ => mts_one (mt_cmp (op_neY hr.units) os_neX (me_ix ix_seq os_item (me_var (pv 9)) (me_int) (fun _ _ => rfl)) (me_ix ix_seq os_item (me_var (pv 3)) (me_int) (fun _ _ => rfl)) (nomark _))) (fun _ _ _ _ _ => me_var (pv 9))) (fun _ _ _ h => lc_read (good_name (by decide)) (rg_name) h)))) (ms_cons ((by first | exact ms_setT (ps_setLc (i := 6) (own := [("_law_other", 9)]) rfl scN rfl rfl (sw_true rfl rfl rfl (by decide +kernel)) (mk_any (me_var (pv 5))) (blkOk_by (N := ["_law_cloth", "_law_rows_here", "_law_lists", "_law_one", "_law_turn", "_law_crossed", "_law_under", "_law_due", "_law_found", "_law_other"]) (sc := defScope s_law_lists_right) (by decide +kernel)) (fun _ _ _ _ _ => pg_name (i := 9) scN rfl (by first | exact Or.inl rfl | exact Or.inr rfl)) (fun _ _ _ _ _ => mts_one (mt_val (me_call (k_law_lies_over T) (hr.mono (by decide)) hgd (by rfl) T.f_law_lies_over.mgf T.f_law_lies_over.F.kp T.f_law_lies_over.b takesW0 (ma_cons (me_var (pv 1)) (ma_cons (me_var (pv 3)) (ma_cons (me_var (pv 9)) (ma_nil))))))) (fun _ _ _ _ _ => me_var (pv 9))) (fun _ _ _ h => lc_readW (good_name (by decide)) (rg_name) h) | exact ms_set (i := 6) scN rfl (by first | exact Or.inl rfl | exact Or.inr rfl) (PEi (pe_lc (own := [("_law_other", 9)]) rfl scN (mk_any (me_var (pv 5))) (blkOk_by (N := ["_law_cloth", "_law_rows_here", "_law_lists", "_law_one", "_law_turn", "_law_crossed", "_law_under", "_law_due", "_law_found", "_law_other"]) (sc := defScope s_law_lists_right) (by decide +kernel)) (fun _ _ _ _ _ => pg_name (i := 9) scN rfl (by first | exact Or.inl rfl | exact Or.inr rfl)) (fun _ _ _ _ _ => mts_one (mt_val (me_call (k_law_lies_over T) (hr.mono (by decide)) hgd (by rfl) T.f_law_lies_over.mgf T.f_law_lies_over.F.kp T.f_law_lies_over.b takesW0 (ma_cons (me_var (pv 1)) (ma_cons (me_var (pv 3)) (ma_cons (me_var (pv 9)) (ma_nil))))))) (fun _ _ _ _ _ => me_var (pv 9))) (fun _ _ _ h => lc_readW (good_name (by decide)) (rg_name) h)))) (ms_cons (ms_expr (me_bm (pe_bm PySem.F.plainAttrs_list PySem.F.slot_list_append PySem.F.type_list_append mt_append (me_dget (u1 hr) (me_var (pv 2)) (me_ix ix_seq os_item (me_var (pv 3)) (me_int) (fun _ _ => rfl)) (fun _ _ => rfl)) (ma_cons (me_cb (pe_callB call_len (by rfl) T.b_len bt_len (ma_cons (me_var (pv 6)) (ma_nil))) cs_len) (ma_nil))) meth_append)) (ms_cons (ms_set (i := 7) scN rfl (by first | exact Or.inl rfl | exact Or.inr rfl) (me_lst (ma_cons (me_var (pv 6)) (ma_cons (PEi (pe_lc (own := [("_law_other", 9)]) rfl scN (mk_any (me_var (pv 5))) (blkOk_by (N := ["_law_cloth", "_law_rows_here", "_law_lists", "_law_one", "_law_turn", "_law_crossed", "_law_under", "_law_due", "_law_found", "_law_other"]) (sc := defScope s_law_lists_right) (by decide +kernel)) (fun _ _ _ _ _ => pg_name (i := 9) scN rfl (by first | exact Or.inl rfl | exact Or.inr rfl)) (fun _ _ _ _ _ => mts_one (mt_cmp (op_notinY hr.units) os_inY (me_var (pv 9)) (me_var (pv 6)) (by with_unfolding_all rfl))) (fun _ _ _ _ _ => me_var (pv 9))) (fun _ _ _ h => lc_readW (good_name (by decide)) (rg_name) h)) (ma_cons (me_cb (pe_callB call_len (by rfl) T.b_len bt_len (ma_cons (me_var (pv 6)) (ma_nil))) cs_len) (ma_nil)))))) (ms_one (ms_for (passes_of rfl) rfl (mi_r1 (pi_range1 (by rfl) T.b_range (ma_cons (me_int) (ma_nil)))) (mg_name (i := 4) scN rfl (by first | exact Or.inl rfl | exact Or.inr rfl)) (ms_cons (ms_set (i := 8) scN rfl (by first | exact Or.inl rfl | exact Or.inr rfl) (me_lst (ma_cons ((me_meth (tbl := [("Cloth", gCloth__below)]) (k := 6) (allc (mCloth__below T) (all0)) (hr.mono (by decide)) hgd tk (me_var (pv 0)) (ma_cons (me_var (pv 3)) (ma_nil)))) (ma_cons ((me_meth (tbl := [("Cloth", gCloth__above)]) (k := 6) (allc (mCloth__above T) (all0)) (hr.mono (by decide)) hgd tk (me_var (pv 0)) (ma_cons (me_var (pv 3)) (ma_nil)))) (ma_cons ((me_meth (tbl := [("Cloth", gCloth__score)]) (k := 7) (allc (mCloth__score T) (all0)) (hr.mono (by decide)) hgd tk (me_var (pv 0)) (ma_cons (me_var (pv 3)) (ma_nil)))) (ma_nil)))))) (ms_cons (ms_if (mt_cmp (op_neY hr.units) os_neX (me_cb (pe_callB (call_reprX hgd (u100 hr)) (by rfl) T.b_repr bt_repr (ma_cons (me_var (pv 8)) (ma_nil))) cs_reprX) (me_cb (pe_callB (call_reprX hgd (u100 hr)) (by rfl) T.b_repr bt_repr (ma_cons (me_var (pv 7)) (ma_nil))) cs_reprX) (nomark _)) (ms_one (ms_ret (me_bl))) (ms_nil)) (ms_cons (ms_expr (me_bm (pe_bm PySem.F.plainAttrs_list PySem.F.slot_list_append PySem.F.type_list_append mt_append (me_ix ix_seq os_item (me_var (pv 8)) (me_int) (fun _ _ => rfl)) (ma_cons (me_str) (ma_nil))) meth_append)) (ms_one (ms_expr (me_bm0 (pe_bm0 PySem.F.plainAttrs_list PySem.F.slot_list_clear PySem.F.type_list_clear mt_clear (me_ix ix_seq os_item (me_var (pv 8)) (me_int) (fun _ _ => rfl))) (meth_mut ms_clrF)))))))))))))) (ms_cons (ms_for (passes_of rfl) rfl (mi_r1 (pi_range1 (by rfl) T.b_range (ma_cons (me_int) (ma_nil)))) (mg_name (i := 4) scN rfl (by first | exact Or.inl rfl | exact Or.inr rfl)) (ms_cons (ms_set (i := 8) scN rfl (by first | exact Or.inl rfl | exact Or.inr rfl) ((me_meth0 (tbl := [("Cloth", gCloth__score_lists)]) (k := 8) (allc (mCloth__score_lists T) (all0)) (hr.mono (by decide)) hgd tk (me_var (pv 0))))) (ms_cons (ms_if (mt_cmp (op_neY hr.units) os_neX (me_cb (pe_callB (call_reprX hgd (u100 hr)) (by rfl) T.b_repr bt_repr (ma_cons (me_var (pv 8)) (ma_nil))) cs_reprX) (me_cb (pe_callB (call_reprX hgd (u100 hr)) (by rfl) T.b_repr bt_repr (ma_cons (me_tup (ma_cons (me_dget (u1 hr) (me_var (pv 2)) (me_str) (fun _ _ => rfl)) (ma_cons (me_dget (u1 hr) (me_var (pv 2)) (me_str) (fun _ _ => rfl)) (ma_nil)))) (ma_nil))) cs_reprX) (nomark _)) (ms_one (ms_ret (me_bl))) (ms_nil)) (ms_cons (ms_expr (me_bm (pe_bm PySem.F.plainAttrs_list PySem.F.slot_list_append PySem.F.type_list_append mt_append (me_ix ix_seq os_item (me_var (pv 8)) (me_int) (fun _ _ => rfl)) (ma_cons (me_int) (ma_nil))) meth_append)) (ms_one (ms_expr (me_bm0 (pe_bm0 PySem.F.plainAttrs_list PySem.F.slot_list_clear PySem.F.type_list_clear mt_clear (me_ix ix_seq os_item (me_var (pv 8)) (me_int) (fun _ _ => rfl))) (meth_mut ms_clrF)))))))) (ms_one (ms_ret (me_bl)))))
theorem k_law_odd (T : TxB P K mg base) : GFn P w K mg base 2 T.f_law_odd.a T.f_law_odd.fd ["_law_box_here"] g_law_odd := by
  refine gfn_of (k := 1) T.f_law_odd.F sc_law_odd fun cdv A outer s H E hr hgd => ?_
  have scN := sc_law_odd.nd
  have tk := takes_of (X := cxOf (CX P w) P w K mg base ["_law_box_here", "_law_some"] "_law_odd" (defScope s_law_odd) T.f_law_odd.a cdv A outer s H E) (E := E) rfl rfl rfl rfl
  exact ms_cons (ms_set (i := 1) scN rfl (by first | exact Or.inl rfl | exact Or.inr rfl) (me_lst (ma_cons (me_non) (ma_cons (me_bl) (ma_cons (me_bl) (ma_cons (me_un un_neg us_neg (me_int)) (ma_cons (me_int) (ma_cons (me_int) (ma_cons (me_int) (ma_cons (me_op op_pow os_powI (me_int) (me_int)) (ma_cons (me_str) (ma_cons (me_str) (ma_cons (me_str) (ma_cons (me_str) (ma_cons (me_lstM (ma_nil)) (ma_cons (me_tup (ma_nil)) (ma_cons (me_dictM0) (ma_cons (me_dictM1 (me_int)) (ma_cons (me_lstM (ma_cons (me_non) (ma_nil))) (ma_cons (me_tup (ma_cons (me_int) (ma_nil))) (ma_nil))))))))))))))))))))) (ms_cons (ms_set (i := 1) scN rfl (by first | exact Or.inl rfl | exact Or.inr rfl) (me_op op_addA os_add (me_var (pv 1)) (me_lst (ma_cons (me_lstM (ma_cons (me_str) (ma_cons (me_int) (ma_nil)))) (ma_cons (me_tup (ma_cons (me_str) (ma_nil))) (ma_cons (me_tup (ma_cons (me_str) (ma_cons (me_bl) (ma_nil)))) (ma_cons (me_tup (ma_cons (me_str) (ma_cons (me_un un_neg us_neg (me_int)) (ma_nil)))) (ma_cons (me_tup (ma_cons (me_str) (ma_cons (me_str) (ma_nil)))) (ma_cons (me_tup (ma_cons (me_str) (ma_cons (me_int) (ma_cons (me_int) (ma_nil))))) (ma_cons (me_tup (ma_cons (me_str) (ma_cons (me_int) (ma_nil)))) (ma_nil))))))))))) (ms_cons (ms_set (i := 1) scN rfl (by first | exact Or.inl rfl | exact Or.inr rfl) (me_op op_addA os_add (me_var (pv 1)) (me_lst (ma_cons (me_tup (ma_cons (me_int) (ma_cons (me_int) (ma_nil)))) (ma_cons (me_tup (ma_cons (me_bl) (ma_cons (me_int) (ma_nil)))) (ma_cons (me_lstM (ma_cons (me_int) (ma_cons (me_int) (ma_nil)))) (ma_cons (me_tup (ma_cons (me_int) (ma_cons (me_int) (ma_cons (me_int) (ma_nil))))) (ma_cons (me_tup (ma_cons (me_str) (ma_cons (me_int) (ma_nil)))) (ma_cons (me_lstM (ma_cons (me_lst (ma_cons (me_str) (ma_cons (me_int) (ma_nil)))) (ma_nil))) (ma_cons (me_lstM (ma_cons (me_tup (ma_cons (me_int) (ma_cons (me_int) (ma_nil)))) (ma_nil))) (ma_cons (me_tup (ma_cons (me_int) (ma_cons (me_un un_neg us_neg (me_int)) (ma_nil)))) (ma_cons (me_tup (ma_cons (me_str) (ma_cons (me_int) (ma_nil)))) (ma_nil))))))))))))) (ms_cons (ms_set (i := 1) scN rfl (by first | exact Or.inl rfl | exact Or.inr rfl) (me_op op_addA os_add (me_var (pv 1)) (me_lst (ma_cons (me_tup (ma_cons (me_str) (ma_cons (me_bl) (ma_nil)))) (ma_cons (me_tup (ma_cons (me_str) (ma_cons (me_un un_neg us_neg (me_int)) (ma_nil)))) (ma_cons (me_tup (ma_cons (me_str) (ma_cons (me_str) (ma_nil)))) (ma_cons (me_tup (ma_cons (me_un un_neg us_neg (me_int)) (ma_cons (me_int) (ma_nil)))) (ma_cons (me_tup (ma_cons (me_int) (ma_cons (me_bl) (ma_nil)))) (ma_cons (me_tup (ma_cons (me_int) (ma_cons (me_str) (ma_nil)))) (ma_cons (me_tup (ma_cons (me_int) (ma_cons (me_op op_pow os_powI (me_int) (me_int)) (ma_nil)))) (ma_nil))))))))))) (ms_cons (ms_set (i := 1) scN rfl (by first | exact Or.inl rfl | exact Or.inr rfl) (me_op op_addA os_add (me_var (pv 1)) (me_lst (ma_cons (me_tup (ma_cons (me_lst (ma_cons (me_str) (ma_nil))) (ma_cons (me_int) (ma_nil)))) (ma_cons (me_tup (ma_cons (me_dict0) (ma_cons (me_int) (ma_nil)))) (ma_cons (me_tup (ma_cons (me_tup (ma_cons (me_str) (ma_nil))) (ma_cons (me_int) (ma_nil)))) (ma_cons (me_tup (ma_cons (me_str) (ma_cons (me_lst (ma_nil)) (ma_nil)))) (ma_cons (me_str) (ma_cons (me_str) (ma_cons (me_lstM (ma_cons (me_str) (ma_nil))) (ma_nil))))))))))) (ms_one (ms_ret (me_ix ix_seq os_item (me_var (pv 1)) (me_call (k_law_take T) (hr.mono (by decide)) hgd (by rfl) T.f_law_take.mgf T.f_law_take.F.kp T.f_law_take.b tk (ma_cons (me_var (pv 0)) (ma_cons (me_cb (pe_callB call_len (by rfl) T.b_len bt_len (ma_cons (me_var (pv 1)) (ma_nil))) cs_len) (ma_nil)))) (fun _ _ => rfl))))))))
theorem k_law_is_thread (T : TxB P K mg base) : GFn P w K mg base 2 T.f_law_is_thread.a T.f_law_is_thread.fd ["_law_value", "_law_rows_here"] g_law_is_thread := by
  refine gfn_of (k := 1) T.f_law_is_thread.F sc_law_is_thread fun cdv A outer s H E hr hgd => ?_
  have scN := sc_law_is_thread.nd
  have tk := takes_of (X := cxOf (CX P w) P w K mg base ["_law_value", "_law_rows_here", "_law_thread"] "_law_is_thread" (defScope s_law_is_thread) T.f_law_is_thread.a cdv A outer s H E) (E := E) rfl rfl rfl rfl
  exact ms_one (ms_ret (me_and (me_cb (pe_callB call_isiA (by rfl) T.b_isinstance bt_isinstance (ma_cons (me_var (pv 0)) (ma_cons (me_c (pe_bltn (v := .ty "tuple") (by rfl) T.b_tuple bt_tuple rfl) (fun _ _ => .ty _)) (ma_nil)))) cs_isi) (me_one (me_cmp (op_inY hr.units) os_inY (me_cb (pe_callB (call_reprX hgd (u100 hr)) (by rfl) T.b_repr bt_repr (ma_cons (me_var (pv 0)) (ma_nil))) cs_reprX) (PEi (pe_lc (own := [("_law_thread", 2)]) rfl scN (mi_lst (me_call (k_law_threads T) (hr.mono (by decide)) hgd (by rfl) T.f_law_threads.mgf T.f_law_threads.F.kp T.f_law_threads.b tk (ma_cons (me_var (pv 1)) (ma_nil)))) (blkOk_by (N := ["_law_value", "_law_rows_here", "_law_thread"]) (sc := defScope s_law_is_thread) (by decide +kernel)) (fun _ _ _ _ _ => pg_name (i := 2) scN rfl (by first | exact Or.inl rfl | exact Or.inr rfl)) (fun _ _ _ _ _ => mts_nil) (fun _ _ _ _ _ => me_cb (pe_callB (call_reprX hgd (u100 hr)) (by rfl) T.b_repr bt_repr (ma_cons (me_var (pv 2)) (ma_nil))) cs_reprX)) (fun _ _ _ h => lc_read (good_name (by decide)) (rg_name) h)) (by with_unfolding_all rfl)))))
theorem k_law_caught (T : TxB P K mg base) : LamFn P w K mg base 0 T.f_law_caught.a "_law_caught" s_law_caught ["_law_ask", "e"] "_law_ask" c_law_caught := by
  refine ⟨fun cdv A outer s H E hr hgd act hact => ?_⟩
  have scN := sc_law_caught.nd
  have tk := takes_of (X := cxOf (CX P w) P w K mg base ["_law_ask", "e"] "_law_caught" (defScope s_law_caught) T.f_law_caught.a cdv A outer s H E) (E := E) rfl rfl rfl rfl
  exact ms_one (ms_try rfl rfl tk (fun W pn xe tk _ => ms_one (ms_ret (me_lst (ma_cons (me_str) (ma_cons ((hact W pn xe tk _ _ _ _)) (ma_nil)))))) (HdsM.as scN (i := 1) rfl rfl (names_of (by rfl) T.n_InvalidThread T.gx) (allc (T.e_InvalidRows_InvalidThread) (allc (T.e_InvalidThread_InvalidThread) (allc (T.e_InvalidCrossing_InvalidThread) (all0)))) (fun a oe cls d pn hz hf => ms_retXf (allc (T.x_InvalidThread) (all0)) hz hf (pv 1)) (HdsM.as scN (i := 1) rfl rfl (names_of (by rfl) T.n_InvalidCrossing T.gx) (allc (T.e_InvalidRows_InvalidCrossing) (allc (T.e_InvalidThread_InvalidCrossing) (allc (T.e_InvalidCrossing_InvalidCrossing) (all0)))) (fun a oe cls d pn hz hf => ms_retXf (allc (T.x_InvalidCrossing) (all0)) hz hf (pv 1)) (HdsM.stop))))
theorem k_law_pair_right (T : TxB P K mg base) : GFn P w K mg base 10 T.f_law_pair_right.a T.f_law_pair_right.fd ["_law_cloth", "_law_rows_here", "_law_one", "_law_other"] g_law_pair_right := by
  refine gfn_ofE (k := 9) T.f_law_pair_right.F sc_law_pair_right fun cdv hcd A outer s H E hr hgd => ?_
  cases (T.cd_law_pair_right).symm.trans hcd
  have scN := sc_law_pair_right.nd
  have tk := takes_of (X := cxOf (CX P w) P w K mg base ["_law_cloth", "_law_rows_here", "_law_one", "_law_other", "_law_due", "_law_pairs", "_law_at", "_law_pair"] "_law_pair_right" (defScope s_law_pair_right) T.f_law_pair_right.a (.ref 483) A outer s H E) (E := E) rfl rfl rfl rfl
  exact ms_cons (ms_set (i := 4) scN rfl (by first | exact Or.inl rfl | exact Or.inr rfl) (me_lst (ma_cons (me_str) (ma_cons (me_var (pv 2)) (ma_nil))))) (ms_cons (ms_if (mt_val (me_call (k_law_is_thread T) (hr.mono (by decide)) hgd (by rfl) T.f_law_is_thread.mgf T.f_law_is_thread.F.kp T.f_law_is_thread.b tk (ma_cons (me_var (pv 2)) (ma_cons (me_var (pv 1)) (ma_nil))))) (ms_cons (ms_set (i := 4) scN rfl (by first | exact Or.inl rfl | exact Or.inr rfl) (me_lst (ma_cons (me_str) (ma_cons (me_var (pv 3)) (ma_nil))))) (ms_one (ms_if (PW.pt (mw_and (mt_val (me_call (k_law_is_thread T) (hr.mono (by decide)) hgd (by rfl) T.f_law_is_thread.mgf T.f_law_is_thread.F.kp T.f_law_is_thread.b tk (ma_cons (me_var (pv 3)) (ma_cons (me_var (pv 1)) (ma_nil))))) (mw_and1 (mt_cmp (op_neY hr.units) os_neX (me_ix ix_seq os_item (me_var (pv 2)) (me_int) (fun _ _ => rfl)) (me_ix ix_seq os_item (me_var (pv 3)) (me_int) (fun _ _ => rfl)) (nomark _))))) (ms_one (ms_set (i := 4) scN rfl (by first | exact Or.inl rfl | exact Or.inr rfl) (me_lst (ma_cons (me_str) (ma_cons (me_call (k_law_lies_over T) (hr.mono (by decide)) hgd (by rfl) T.f_law_lies_over.mgf T.f_law_lies_over.F.kp T.f_law_lies_over.b tk (ma_cons (me_var (pv 1)) (ma_cons (me_var (pv 2)) (ma_cons (me_var (pv 3)) (ma_nil))))) (ma_nil)))))) (ms_nil)))) (ms_nil)) (ms_cons (ms_if (mt_cmp (op_neY hr.units) os_neX (me_cb (pe_callB (call_reprX hgd (u100 hr)) (by rfl) T.b_repr bt_repr (ma_cons ((me_lamcallQ (k := 6) (N := ["_law_ask", "e"]) (par := "_law_first") (c := 483) (P := 481) "_law_pair_right.<locals>.<lambda>" ["_law_cloth", "_law_rows_here", "_law_one", "_law_other", "_law_due", "_law_pairs", "_law_at", "_law_pair"] T.f_law_caught.F sc_law_caught ((k_law_caught T).mono (by decide)) (by rfl) (by first | exact Or.inl rfl | exact Or.inr (Or.inl rfl)) par_law_caught (hr.mono (by decide)) hgd (by rfl) T.f_law_caught.mgf T.f_law_caught.F.kp T.f_law_caught.b (by kernel_rfl) rfl (by decide +kernel) (by decide +kernel) T.tb (by rfl) (LamY.lamS1_by (by kernel_rfl)) (by decide +kernel) rfl (fun _ _ _ _ _ _ => rfl) (fun A outer s H E f c1 hr hg0 => (fun hgd tk => (me_meth (tbl := [("Cloth", gCloth__over)]) (k := 5) (allc (mCloth__over T) (all0)) (hr.mono (by decide)) hgd tk (me_var (pv 0)) (ma_cons (me_var (pv 2)) (ma_cons (me_var (pv 3)) (ma_nil))))) (hg0.trans hgd) takes_lam))) (ma_nil))) cs_reprX) (me_cb (pe_callB (call_reprX hgd (u100 hr)) (by rfl) T.b_repr bt_repr (ma_cons (me_var (pv 4)) (ma_nil))) cs_reprX) (nomark _)) (ms_one (ms_ret (me_bl))) (ms_nil)) (ms_cons (ms_set (i := 4) scN rfl (by first | exact Or.inl rfl | exact Or.inr rfl) (me_lst (ma_cons (me_str) (ma_cons (me_var (pv 2)) (ma_nil))))) (ms_cons ((by first | exact ms_setT (ps_setLc (i := 5) (own := [("_law_at", 6)]) rfl scN rfl rfl (sw_true rfl rfl rfl (by decide +kernel)) (mi_r1 (pi_range1 (by rfl) T.b_range (ma_cons (me_op op_mul os_mulI (me_cb (pe_callB call_len (by rfl) T.b_len bt_len (ma_cons (me_ix ix_seq os_item (me_var (pv 1)) (me_int) (fun _ _ => rfl)) (ma_nil))) cs_len) (me_cb (pe_callB call_len (by rfl) T.b_len bt_len (ma_cons (me_var (pv 1)) (ma_nil))) cs_len)) (ma_nil)))) (blkOk_by (N := ["_law_cloth", "_law_rows_here", "_law_one", "_law_other", "_law_due", "_law_pairs", "_law_at", "_law_pair"]) (sc := defScope s_law_pair_right) (by decide +kernel)) (fun _ _ _ _ _ => pg_name (i := 6) scN rfl (by first | exact Or.inl rfl | exact Or.inr rfl)) (fun _ _ _ _ _ => mts_nil) (fun _ _ _ _ _ => me_tup (ma_cons (me_op op_modN os_modI (me_var (pv 6)) (me_cb (pe_callB call_len (by rfl) T.b_len bt_len (ma_cons (me_ix ix_seq os_item (me_var (pv 1)) (me_int) (fun _ _ => rfl)) (ma_nil))) cs_len)) (ma_cons (me_op op_fdivN os_divI (me_var (pv 6)) (me_cb (pe_callB call_len (by rfl) T.b_len bt_len (ma_cons (me_ix ix_seq os_item (me_var (pv 1)) (me_int) (fun _ _ => rfl)) (ma_nil))) cs_len)) (ma_nil))))) (fun _ _ _ h => lc_read (good_name (by decide)) (rg_name) h) | exact ms_set (i := 5) scN rfl (by first | exact Or.inl rfl | exact Or.inr rfl) (PEi (pe_lc (own := [("_law_at", 6)]) rfl scN (mi_r1 (pi_range1 (by rfl) T.b_range (ma_cons (me_op op_mul os_mulI (me_cb (pe_callB call_len (by rfl) T.b_len bt_len (ma_cons (me_ix ix_seq os_item (me_var (pv 1)) (me_int) (fun _ _ => rfl)) (ma_nil))) cs_len) (me_cb (pe_callB call_len (by rfl) T.b_len bt_len (ma_cons (me_var (pv 1)) (ma_nil))) cs_len)) (ma_nil)))) (blkOk_by (N := ["_law_cloth", "_law_rows_here", "_law_one", "_law_other", "_law_due", "_law_pairs", "_law_at", "_law_pair"]) (sc := defScope s_law_pair_right) (by decide +kernel)) (fun _ _ _ _ _ => pg_name (i := 6) scN rfl (by first | exact Or.inl rfl | exact Or.inr rfl)) (fun _ _ _ _ _ => mts_nil) (fun _ _ _ _ _ => me_tup (ma_cons (me_op op_modN os_modI (me_var (pv 6)) (me_cb (pe_callB call_len (by rfl) T.b_len bt_len (ma_cons (me_ix ix_seq os_item (me_var (pv 1)) (me_int) (fun _ _ => rfl)) (ma_nil))) cs_len)) (ma_cons (me_op op_fdivN os_divI (me_var (pv 6)) (me_cb (pe_callB call_len (by rfl) T.b_len bt_len (ma_cons (me_ix ix_seq os_item (me_var (pv 1)) (me_int) (fun _ _ => rfl)) (ma_nil))) cs_len)) (ma_nil))))) (fun _ _ _ h => lc_read (good_name (by decide)) (rg_name) h)))) (ms_cons (ms_if (PW.pt (mw_and (mt_val (me_cb (pe_callB call_isiA (by rfl) T.b_isinstance bt_isinstance (ma_cons (me_var (pv 2)) (ma_cons (me_c (pe_bltn (v := .ty "tuple") (by rfl) T.b_tuple bt_tuple rfl) (fun _ _ => .ty _)) (ma_nil)))) cs_isi)) (mw_and1 (mt_cmp (op_inY hr.units) os_inY (me_cb (pe_callB (call_reprX hgd (u100 hr)) (by rfl) T.b_repr bt_repr (ma_cons (me_var (pv 2)) (ma_nil))) cs_reprX) (PEi (pe_lc (own := [("_law_pair", 7)]) rfl scN (mk_any (me_var (pv 5))) (blkOk_by (N := ["_law_cloth", "_law_rows_here", "_law_one", "_law_other", "_law_due", "_law_pairs", "_law_at", "_law_pair"]) (sc := defScope s_law_pair_right) (by decide +kernel)) (fun _ _ _ _ _ => pg_name (i := 7) scN rfl (by first | exact Or.inl rfl | exact Or.inr rfl)) (fun _ _ _ _ _ => mts_nil) (fun _ _ _ _ _ => me_cb (pe_callB (call_reprX hgd (u100 hr)) (by rfl) T.b_repr bt_repr (ma_cons (me_var (pv 7)) (ma_nil))) cs_reprX)) (fun _ _ _ h => lc_readW (good_name (by decide)) (rg_name) h)) (by with_unfolding_all rfl))))) (ms_one (ms_set (i := 4) scN rfl (by first | exact Or.inl rfl | exact Or.inr rfl) (me_lst (ma_cons (me_str) (ma_cons (me_cmp (op_eqY hr.units) os_eqX (me_ix ix_seq os_item (me_ix ix_seq os_item (me_var (pv 1)) (me_ix ix_seq os_item (me_var (pv 2)) (me_int) (fun _ _ => rfl)) (fun _ _ => rfl)) (me_ix ix_seq os_item (me_var (pv 2)) (me_int) (fun _ _ => rfl)) (fun _ _ => rfl)) (me_str) (nomark _)) (ma_nil)))))) (ms_nil)) (ms_one (ms_ret (me_cmp (op_eqY hr.units) os_eqX (me_cb (pe_callB (call_reprX hgd (u100 hr)) (by rfl) T.b_repr bt_repr (ma_cons ((me_lamcallQ (k := 5) (N := ["_law_ask", "e"]) (par := "_law_second") (c := 483) (P := 481) "_law_pair_right.<locals>.<lambda>" ["_law_cloth", "_law_rows_here", "_law_one", "_law_other", "_law_due", "_law_pairs", "_law_at", "_law_pair"] T.f_law_caught.F sc_law_caught ((k_law_caught T).mono (by decide)) (by rfl) (by first | exact Or.inl rfl | exact Or.inr (Or.inl rfl)) par_law_caught (hr.mono (by decide)) hgd (by rfl) T.f_law_caught.mgf T.f_law_caught.F.kp T.f_law_caught.b (by kernel_rfl) rfl (by decide +kernel) (by decide +kernel) T.tb (by rfl) (LamY.lamS1_by (by kernel_rfl)) (by decide +kernel) rfl (fun _ _ _ _ _ _ => rfl) (fun A outer s H E f c1 hr hg0 => (fun hgd tk => (me_ixI (tbl := [("Cloth", gCloth____getitem__)]) (k := 3) (allc (spCloth____getitem__ T) (all0)) (hr.mono (by decide)) hgd tk ix_seq os_item (me_var (pv 0)) (me_var (pv 2)) (fun _ _ => rfl))) (hg0.trans hgd) takes_lam))) (ma_nil))) cs_reprX) (me_cb (pe_callB (call_reprX hgd (u100 hr)) (by rfl) T.b_repr bt_repr (ma_cons (me_var (pv 4)) (ma_nil))) cs_reprX) (nomark _)))))))))
theorem k_law_one_right (T : TxB P K mg base) : GFn P w K mg base 12 T.f_law_one_right.a T.f_law_one_right.fd ["_law_cloth", "_law_rows_here", "_law_value"] g_law_one_right := by
  refine gfn_ofP (k := 11) T.f_law_one_right.F sc_law_one_right fun cdv hcd A outer s H E hr hgd => ?_
  cases (T.cd_law_one_right).symm.trans hcd
  have scN := sc_law_one_right.nd
  have tk := takes_of (X := cxOf (CX P w) P w K mg base ["_law_cloth", "_law_rows_here", "_law_value", "_law_asks", "_law_found", "_law_due", "_law_ask"] "_law_one_right" (defScope s_law_one_right) T.f_law_one_right.a (.ref 488) A outer s H E) (E := E) rfl rfl rfl rfl
  exact ⟨ghs _ _ _ (fun _ _ _ => True), ms_cons (ms_set (i := 3) scN rfl (by first | exact Or.inl rfl | exact Or.inr rfl) (me_lst (ma_cons ((me_mkLam (i := 0) (par := "_law_first") (c := 488) (P := 486) "_law_one_right.<locals>.<lambda>" rfl (by kernel_rfl) (by decide +kernel) (by decide +kernel) T.tb (by rfl) (LamY.lamS1_by (by kernel_rfl)) rfl)) (ma_cons ((me_mkLam (i := 1) (par := "_law_second") (c := 488) (P := 486) "_law_one_right.<locals>.<lambda>" rfl (by kernel_rfl) (by decide +kernel) (by decide +kernel) T.tb (by rfl) (LamY.lamS1_by (by kernel_rfl)) rfl)) (ma_cons ((me_mkLam (i := 2) (par := "_law_third") (c := 488) (P := 486) "_law_one_right.<locals>.<lambda>" rfl (by kernel_rfl) (by decide +kernel) (by decide +kernel) T.tb (by rfl) (LamY.lamS1_by (by kernel_rfl)) rfl)) (ma_nil)))))) (ms_cons (ms_if (mt_val (me_call (k_law_is_thread T) (hr.mono (by decide)) hgd (by rfl) T.f_law_is_thread.mgf T.f_law_is_thread.F.kp T.f_law_is_thread.b tk (ma_cons (me_var (pv 2)) (ma_cons (me_var (pv 1)) (ma_nil))))) (ms_one (ms_ret (me_bl))) (ms_nil)) (ms_cons (ms_par2 (i := 4) (j := 5) rfl scN rfl rfl (by decide) rfl rfl (ma_cons ((me_ghAll (k := 8) (N := ["_law_ask", "e"]) rfl scN (mk_any (me_var (pv 3))) (blkOk_by (N := ["_law_cloth", "_law_rows_here", "_law_value", "_law_asks", "_law_found", "_law_due", "_law_ask"]) (sc := defScope s_law_one_right) (by decide +kernel)) (fun _ _ _ _ _ => pg_name (i := 6) scN rfl (by first | exact Or.inl rfl | exact Or.inr rfl)) (fun _ _ _ _ _ => mts_nil) T.f_law_caught.F sc_law_caught ((k_law_caught T).mono (by decide)) (by rfl) (by first | exact Or.inl rfl | exact Or.inr (Or.inl rfl)) par_law_caught (hr.mono (by decide)) hgd (fun _ _ _ _ _ => by rfl) T.f_law_caught.mgf T.f_law_caught.F.kp T.f_law_caught.b (gh_cons (ghBody "_law_first" ["_law_cloth", "_law_rows_here", "_law_value", "_law_asks", "_law_found", "_law_due", "_law_ask"] rfl rfl (LamY.lamS1_by (by kernel_rfl)) (by decide +kernel) (fun _ _ _ _ _ _ => rfl) (fun A outer s H E f c1 hr hg0 => (fun hgd tk => (me_meth (tbl := [("Cloth", gCloth__below)]) (k := 6) (allc (mCloth__below T) (all0)) (hr.mono (by decide)) hgd tk (me_var (pv 0)) (ma_cons (me_var (pv 2)) (ma_nil)))) (hg0.trans hgd) takes_lam)) (gh_cons (ghBody "_law_second" ["_law_cloth", "_law_rows_here", "_law_value", "_law_asks", "_law_found", "_law_due", "_law_ask"] rfl rfl (LamY.lamS1_by (by kernel_rfl)) (by decide +kernel) (fun _ _ _ _ _ _ => rfl) (fun A outer s H E f c1 hr hg0 => (fun hgd tk => (me_meth (tbl := [("Cloth", gCloth__above)]) (k := 6) (allc (mCloth__above T) (all0)) (hr.mono (by decide)) hgd tk (me_var (pv 0)) (ma_cons (me_var (pv 2)) (ma_nil)))) (hg0.trans hgd) takes_lam)) (gh_cons (ghBody "_law_third" ["_law_cloth", "_law_rows_here", "_law_value", "_law_asks", "_law_found", "_law_due", "_law_ask"] rfl rfl (LamY.lamS1_by (by kernel_rfl)) (by decide +kernel) (fun _ _ _ _ _ _ => rfl) (fun A outer s H E f c1 hr hg0 => (fun hgd tk => (me_meth (tbl := [("Cloth", gCloth__score)]) (k := 7) (allc (mCloth__score T) (all0)) (hr.mono (by decide)) hgd tk (me_var (pv 0)) (ma_cons (me_var (pv 2)) (ma_nil)))) (hg0.trans hgd) takes_lam)) gh_nil))) (fun _ _ _ _ _ => ma_cons (me_var (pv 6)) (ma_nil)))) (ma_cons (me_op op_mulXX os_mulX (me_lst (ma_cons (me_lst (ma_cons (me_str) (ma_cons (me_var (pv 2)) (ma_nil)))) (ma_nil))) (me_int)) (ma_nil))) (by first | rfl | with_unfolding_all rfl | kernel_rfl)) (ms_cons (ms_if (mt_cmp (op_neY hr.units) os_neX (me_cb (pe_callB (call_reprX hgd (u100 hr)) (by rfl) T.b_repr bt_repr (ma_cons (me_var (pv 4)) (ma_nil))) cs_reprX) (me_cb (pe_callB (call_reprX hgd (u100 hr)) (by rfl) T.b_repr bt_repr (ma_cons (me_var (pv 5)) (ma_nil))) cs_reprX) (nomark _)) (ms_one (ms_ret (me_bl))) (ms_nil)) (ms_cons (ms_if (mt_val (me_cb (pe_callB call_isiA (by rfl) T.b_isinstance bt_isinstance (ma_cons (me_var (pv 2)) (ma_cons (me_c (pe_bltn (v := .ty "list") (by rfl) T.b_list bt_list rfl) (fun _ _ => .ty _)) (ma_nil)))) cs_isi)) (ms_one (ms_expr (me_bm (pe_bm PySem.F.plainAttrs_list PySem.F.slot_list_append PySem.F.type_list_append mt_append (me_var (pv 2)) (ma_cons (me_str) (ma_nil))) meth_append))) (ms_nil)) (ms_one (ms_ret (me_cmp (op_eqY hr.units) os_eqX (me_cb (pe_callB (call_reprX hgd (u100 hr)) (by rfl) T.b_repr bt_repr (ma_cons (me_var (pv 4)) (ma_nil))) cs_reprX) (me_cb (pe_callB (call_reprX hgd (u100 hr)) (by rfl) T.b_repr bt_repr (ma_cons (me_var (pv 5)) (ma_nil))) cs_reprX) (nomark _))))))))⟩
theorem klaw (T : TxB P K mg base) : GFn P w K mg base 13 T.flaw.a T.flaw.fd ["_law_script"] glaw := by
  refine gfn_of (k := 12) T.flaw.F sclaw fun cdv A outer s H E hr hgd => ?_
  have scN := sclaw.nd
  have tk := takes_of (X := cxOf (CX P w) P w K mg base ["_law_script", "_law_k", "_law_box_here", "_law_rows_here", "_law_turn", "_law_i", "_law_cloth", "_law_threads_here", "_law_near", "_law_values", "_law_one", "_law_other", "_law_j", "_law_row"] "law" (defScope slaw) T.flaw.a cdv A outer s H E) (E := E) rfl rfl rfl rfl
  exact ms_cons (ms_for (passes_of rfl) rfl (mi_r1 (pi_range1 (by rfl) T.b_range (ma_cons (me_cb (pe_callB (call_max2 rfl) (by rfl) T.b_max bt_max (ma_cons (me_int) (ma_cons (me_cb (pe_callB (call_min2 rfl) (by rfl) T.b_min bt_min (ma_cons (me_int) (ma_cons (me_cb (pe_callB call_len (by rfl) T.b_len bt_len (ma_cons (me_var (pv 0)) (ma_nil))) cs_len) (ma_nil)))) cs_min2) (ma_nil)))) cs_max2) (ma_nil)))) (mg_name (i := 1) scN rfl (by first | exact Or.inl rfl | exact Or.inr rfl)) (ms_cons (ms_set (i := 2) scN rfl (by first | exact Or.inl rfl | exact Or.inr rfl) (me_call (k_law_box T) (hr.mono (by decide)) hgd (by rfl) T.f_law_box.mgf T.f_law_box.F.kp T.f_law_box.b tk (ma_cons (me_call (k_law_cell T) (hr.mono (by decide)) hgd (by rfl) T.f_law_cell.mgf T.f_law_cell.F.kp T.f_law_cell.b tk (ma_cons (me_var (pv 0)) (ma_cons (me_var (pv 1)) (ma_nil)))) (ma_nil)))) (ms_cons (ms_set (i := 3) scN rfl (by first | exact Or.inl rfl | exact Or.inr rfl) (me_call (k_law_rows T) (hr.mono (by decide)) hgd (by rfl) T.f_law_rows.mgf T.f_law_rows.F.kp T.f_law_rows.b tk (ma_cons (me_var (pv 2)) (ma_nil)))) (ms_cons (ms_asg (me_tup (ma_cons (me_frzI ((me_make (mkCloth T) (hr.mono (by decide)) hgd (by rfl) tk (ma_cons (me_var (pv 3)) (ma_nil))))) (ma_cons (me_call (k_law_threads T) (hr.mono (by decide)) hgd (by rfl) T.f_law_threads.mgf T.f_law_threads.F.kp T.f_law_threads.b tk (ma_cons (me_var (pv 3)) (ma_nil))) (ma_nil)))) (mg_tup rfl (mgs_cons (i := 6) scN rfl (by first | exact Or.inl rfl | exact Or.inr rfl) (mgs_cons (i := 7) scN rfl (by first | exact Or.inl rfl | exact Or.inr rfl) (mgs_nil))))) (ms_cons (ms_if (mt_not (mt_val (me_call (k_law_lists_right T) (hr.mono (by decide)) hgd (by rfl) T.f_law_lists_right.mgf T.f_law_lists_right.F.kp T.f_law_lists_right.b tk (ma_cons (me_var (pv 6)) (ma_cons (me_var (pv 3)) (ma_nil)))))) (ms_one (ms_ret (me_bl))) (ms_nil)) (ms_cons (ms_for (passes_of rfl) rfl (mi_r1 (pi_range1 (by rfl) T.b_range (ma_cons (me_int) (ma_nil)))) (mg_name (i := 4) scN rfl (by first | exact Or.inl rfl | exact Or.inr rfl)) (ms_cons (ms_set (i := 8) scN rfl (by first | exact Or.inl rfl | exact Or.inr rfl) (me_op op_addA os_add (me_var (pv 7)) (me_lst (ma_cons (me_tup (ma_cons (me_str) (ma_cons (me_cb (pe_callB call_len (by rfl) T.b_len bt_len (ma_cons (me_ix ix_seq os_item (me_var (pv 3)) (me_int) (fun _ _ => rfl)) (ma_nil))) cs_len) (ma_nil)))) (ma_cons (me_tup (ma_cons (me_str) (ma_cons (me_cb (pe_callB call_len (by rfl) T.b_len bt_len (ma_cons (me_var (pv 3)) (ma_nil))) cs_len) (ma_nil)))) (ma_cons (me_tup (ma_cons (me_call (k_law_take T) (hr.mono (by decide)) hgd (by rfl) T.f_law_take.mgf T.f_law_take.F.kp T.f_law_take.b tk (ma_cons (me_var (pv 2)) (ma_cons (me_int) (ma_nil)))) (ma_cons (me_call (k_law_take T) (hr.mono (by decide)) hgd (by rfl) T.f_law_take.mgf T.f_law_take.F.kp T.f_law_take.b tk (ma_cons (me_var (pv 2)) (ma_cons (me_int) (ma_nil)))) (ma_nil)))) (ma_nil))))))) (ms_cons (ms_set (i := 9) scN rfl (by first | exact Or.inl rfl | exact Or.inr rfl) (me_lst (ma_cons (me_ix ix_seq os_item (me_var (pv 8)) (me_call (k_law_take T) (hr.mono (by decide)) hgd (by rfl) T.f_law_take.mgf T.f_law_take.F.kp T.f_law_take.b tk (ma_cons (me_var (pv 2)) (ma_cons (me_cb (pe_callB call_len (by rfl) T.b_len bt_len (ma_cons (me_var (pv 8)) (ma_nil))) cs_len) (ma_nil)))) (fun _ _ => rfl)) (ma_cons (me_ix ix_seq os_item (me_var (pv 8)) (me_call (k_law_take T) (hr.mono (by decide)) hgd (by rfl) T.f_law_take.mgf T.f_law_take.F.kp T.f_law_take.b tk (ma_cons (me_var (pv 2)) (ma_cons (me_cb (pe_callB call_len (by rfl) T.b_len bt_len (ma_cons (me_var (pv 8)) (ma_nil))) cs_len) (ma_nil)))) (fun _ _ => rfl)) (ma_cons (me_call (k_law_odd T) (hr.mono (by decide)) hgd (by rfl) T.f_law_odd.mgf T.f_law_odd.F.kp T.f_law_odd.b tk (ma_cons (me_var (pv 2)) (ma_nil))) (ma_nil)))))) (ms_cons (ms_par2 (i := 10) (j := 11) rfl scN rfl rfl (by decide) rfl rfl (ma_cons (me_ix ix_seq os_item (me_var (pv 9)) (me_call (k_law_take T) (hr.mono (by decide)) hgd (by rfl) T.f_law_take.mgf T.f_law_take.F.kp T.f_law_take.b tk (ma_cons (me_var (pv 2)) (ma_cons (me_int) (ma_nil)))) (fun _ _ => rfl)) (ma_cons (me_ix ix_seq os_item (me_var (pv 9)) (me_call (k_law_take T) (hr.mono (by decide)) hgd (by rfl) T.f_law_take.mgf T.f_law_take.F.kp T.f_law_take.b tk (ma_cons (me_var (pv 2)) (ma_cons (me_int) (ma_nil)))) (fun _ _ => rfl)) (ma_nil))) (by first | rfl | with_unfolding_all rfl | kernel_rfl)) (ms_one (ms_if (PW.pt (mw_or (mt_not (mt_val (me_call (k_law_pair_right T) (hr.mono (by decide)) hgd (by rfl) T.f_law_pair_right.mgf T.f_law_pair_right.F.kp T.f_law_pair_right.b tk (ma_cons (me_var (pv 6)) (ma_cons (me_var (pv 3)) (ma_cons (me_var (pv 10)) (ma_cons (me_var (pv 11)) (ma_nil)))))))) (mw_or1 (mt_not (mt_val (me_call (k_law_one_right T) (hr.mono (by decide)) hgd (by rfl) T.f_law_one_right.mgf T.f_law_one_right.F.kp T.f_law_one_right.b tk (ma_cons (me_var (pv 6)) (ma_cons (me_var (pv 3)) (ma_cons (me_var (pv 10)) (ma_nil)))))))))) (ms_one (ms_ret (me_bl))) (ms_nil))))))) (ms_one (ms_for (passes_of rfl) rfl (mi_r1 (pi_range1 (by rfl) T.b_range (ma_cons (me_cb (pe_callB call_len (by rfl) T.b_len bt_len (ma_cons (me_ix ix_seq os_item (me_var (pv 3)) (me_int) (fun _ _ => rfl)) (ma_nil))) cs_len) (ma_nil)))) (mg_name (i := 5) scN rfl (by first | exact Or.inl rfl | exact Or.inr rfl)) (ms_one (ms_if (mt_cmp (op_neY hr.units) os_neX (PEi (pe_lc (own := [("_law_j", 12)]) rfl scN (mi_r1 (pi_range1 (by rfl) T.b_range (ma_cons (me_cb (pe_callB call_len (by rfl) T.b_len bt_len (ma_cons (me_var (pv 3)) (ma_nil))) cs_len) (ma_nil)))) (blkOk_by (N := ["_law_script", "_law_k", "_law_box_here", "_law_rows_here", "_law_turn", "_law_i", "_law_cloth", "_law_threads_here", "_law_near", "_law_values", "_law_one", "_law_other", "_law_j", "_law_row"]) (sc := defScope slaw) (by decide +kernel)) (fun _ _ _ _ _ => pg_name (i := 12) scN rfl (by first | exact Or.inl rfl | exact Or.inr rfl)) (fun _ _ _ _ _ => mts_nil) (fun _ _ _ _ _ => (me_ixI (tbl := [("Cloth", gCloth____getitem__)]) (k := 3) (allc (spCloth____getitem__ T) (all0)) (hr.mono (by decide)) hgd takesW0 ix_seq os_item (me_var (pv 6)) (me_tup (ma_cons (me_var (pv 5)) (ma_cons (me_var (pv 12)) (ma_nil)))) (fun _ _ => rfl)))) (fun _ _ _ h => lc_read (good_name (by decide)) (rg_name) h)) (PEi (pe_lc (own := [("_law_row", 13)]) rfl scN (mk_any (me_var (pv 3))) (blkOk_by (N := ["_law_script", "_law_k", "_law_box_here", "_law_rows_here", "_law_turn", "_law_i", "_law_cloth", "_law_threads_here", "_law_near", "_law_values", "_law_one", "_law_other", "_law_j", "_law_row"]) (sc := defScope slaw) (by decide +kernel)) (fun _ _ _ _ _ => pg_name (i := 13) scN rfl (by first | exact Or.inl rfl | exact Or.inr rfl)) (fun _ _ _ _ _ => mts_nil) (fun _ _ _ _ _ => me_cmp (op_eqY hr.units) os_eqX (me_ix ix_seq os_item (me_var (pv 13)) (me_var (pv 5)) (fun _ _ => rfl)) (me_str) (nomark _))) (fun _ _ _ h => lc_readW (good_name (by decide)) (rg_name) h)) (nomark _)) (ms_one (ms_ret (me_bl))) (ms_nil))))))))))) (ms_one (ms_ret (me_bl)))
end
theorem law_fin {P : Program} {w : World} {h : Heap} {K : PySem.W.Frag} {mg : Str → Option Value} {fa : Addr} (X : K.In h) (G : h.Ns mainGlobals mg) (hmg : mg "law" = some (.ref fa))
    (z_all : PySem.W.nsIn K mainGlobals "all" = some none)
    (z_bool : PySem.W.nsIn K mainGlobals "bool" = some none)
    (z_int : PySem.W.nsIn K mainGlobals "int" = some none)
    (z_isinstance : PySem.W.nsIn K mainGlobals "isinstance" = some none)
    (z_len : PySem.W.nsIn K mainGlobals "len" = some none)
    (z_list : PySem.W.nsIn K mainGlobals "list" = some none)
    (z_max : PySem.W.nsIn K mainGlobals "max" = some none)
    (z_min : PySem.W.nsIn K mainGlobals "min" = some none)
    (z_range : PySem.W.nsIn K mainGlobals "range" = some none)
    (z_repr : PySem.W.nsIn K mainGlobals "repr" = some none)
    (z_str : PySem.W.nsIn K mainGlobals "str" = some none)
    (z_tuple : PySem.W.nsIn K mainGlobals "tuple" = some none)
    {f_KINDS : Addr} {od_KINDS : Option Addr} {n_KINDS : Nat} {sl_KINDS : Array (Option Value)} {t0_KINDS t1_KINDS : Tok}
    (a_KINDS : PySem.W.nsIn K mainGlobals "KINDS" = some (some (.ref f_KINDS)))
    (l_KINDS : K.lookup f_KINDS = some ⟨.type "tuple", od_KINDS, .seq #[.str "warp" t0_KINDS, .str "weft" t1_KINDS] n_KINDS, sl_KINDS⟩)
    {t_SIGNS : Tok}
    (a_SIGNS : PySem.W.nsIn K mainGlobals "SIGNS" = some (some (.str "01" t_SIGNS)))
    (z_super : PySem.W.nsIn K mainGlobals "super" = some none)
    (z_third : PySem.W.nsIn K cStatics "thirdparty.any" = some none)
    (z_top : (P.main.scope.names.lookup ("super" : Str)).isSome = false)
    {CInvalidCrossing fIInvalidCrossing ccInvalidCrossing cdaInvalidCrossing NInvalidCrossing : Addr} {bmInvalidCrossing bsInvalidCrossing subInvalidCrossing : List Value} {nmInvalidCrossing qInvalidCrossing fileInvalidCrossing : Str} {snInvalidCrossing : List Str} {abInvalidCrossing : Bool} {colInvalidCrossing : Option Bool} {ddInvalidCrossing anInvalidCrossing odInvalidCrossing cddInvalidCrossing cldInvalidCrossing : Option Addr} {k0InvalidCrossing k1InvalidCrossing k2InvalidCrossing k3InvalidCrossing k5InvalidCrossing : Option Value} {tfInvalidCrossing : Tok} {kVInvalidCrossing dcInvalidCrossing pmInvalidCrossing ctInvalidCrossing ocInvalidCrossing cclInvalidCrossing clInvalidCrossing : Value} {osInvalidCrossing csInvalidCrossing ssInvalidCrossing : Array (Option Value)} {vsInvalidCrossing : Array Value}
    (xaInvalidCrossing : PySem.W.nsIn K mainGlobals "InvalidCrossing" = some (some (.ref CInvalidCrossing)))
    (xcInvalidCrossing : K.lookup CInvalidCrossing = some (excClassObj nmInvalidCrossing qInvalidCrossing CInvalidCrossing NInvalidCrossing bsInvalidCrossing bmInvalidCrossing true snInvalidCrossing subInvalidCrossing abInvalidCrossing colInvalidCrossing ddInvalidCrossing k0InvalidCrossing k1InvalidCrossing k2InvalidCrossing k3InvalidCrossing k5InvalidCrossing "ValueError.__new__"))
    (xtInvalidCrossing : PySem.W.excTail [.type "ValueError", .type "Exception", .type "BaseException", .type "object"] bmInvalidCrossing = true)
    (xsInvalidCrossing : PySem.W.ks_superIn K CInvalidCrossing CInvalidCrossing "__init__" = some (some (.builtin "ValueError.__init__")))
    (xbInvalidCrossing : PySem.W.subIn K (.ref CInvalidCrossing) (.type "ValueError") = some true)
    (xiInvalidCrossing : PySem.W.findIn K (.ref CInvalidCrossing) "__init__" = some (some (.ref fIInvalidCrossing)))
    (xyInvalidCrossing : PySem.W.typeIn K (.ref fIInvalidCrossing) = some (.type "function"))
    (xlInvalidCrossing : K.lookup fIInvalidCrossing = some ⟨ocInvalidCrossing, odInvalidCrossing, .func (PySem.W.ksFn "__init__" "InvalidCrossing.__init__" (defArgs sxInvalidCrossing) (defBody sxInvalidCrossing) (defScope sxInvalidCrossing) .none kVInvalidCrossing dcInvalidCrossing pmInvalidCrossing anInvalidCrossing (.ref cdaInvalidCrossing) ctInvalidCrossing ccInvalidCrossing), osInvalidCrossing⟩)
    (xoInvalidCrossing : PySem.W.codeIn K (.ref cdaInvalidCrossing) "InvalidCrossing.__init__" = true)
    (xdInvalidCrossing : K.lookup cdaInvalidCrossing = some ⟨cclInvalidCrossing, cddInvalidCrossing, .fields vsInvalidCrossing, csInvalidCrossing⟩)
    (xvInvalidCrossing : vsInvalidCrossing[2]? = some (.str fileInvalidCrossing tfInvalidCrossing))
    (xfInvalidCrossing : ((P.main.file : Str) == fileInvalidCrossing) = true)
    (xeInvalidCrossing : K.lookup ccInvalidCrossing = some ⟨clInvalidCrossing, cldInvalidCrossing, .cell (some (.ref CInvalidCrossing)), ssInvalidCrossing⟩)
    (xmInvalidCrossing : PySem.W.mroIn K CInvalidCrossing (.ref CInvalidCrossing) = some true)
    (xpInvalidCrossing : PySem.W.findIn K (.ref CInvalidCrossing) "__setattr__" = some (some (.builtin "object.__setattr__")))
    (xnInvalidCrossing : PySem.W.findIn K (.ref CInvalidCrossing) "value" = some none)
    (xqInvalidCrossing : PySem.W.subIn K (.ref CInvalidCrossing) (.type "BaseException") = some true)
    (xrInvalidCrossing : PySem.W.typeIn K (.ref CInvalidCrossing) = some (.type "type"))
    (xkInvalidCrossing : PySem.W.keepIn K (.ref CInvalidCrossing) = true)
    (xgInvalidCrossing : PySem.W.findIn K (.ref CInvalidCrossing) "__getattribute__" = some (some (.builtin "BaseException.__getattribute__")))
    (xhInvalidCrossing : PySem.W.findIn K (.ref CInvalidCrossing) "__getattr__" = some none)
    (xjInvalidCrossing : PySem.W.hasDictIn K CInvalidCrossing = true)
    {CInvalidRows fIInvalidRows ccInvalidRows cdaInvalidRows NInvalidRows : Addr} {bmInvalidRows bsInvalidRows subInvalidRows : List Value} {nmInvalidRows qInvalidRows fileInvalidRows : Str} {snInvalidRows : List Str} {abInvalidRows : Bool} {colInvalidRows : Option Bool} {ddInvalidRows anInvalidRows odInvalidRows cddInvalidRows cldInvalidRows : Option Addr} {k0InvalidRows k1InvalidRows k2InvalidRows k3InvalidRows k5InvalidRows : Option Value} {tfInvalidRows : Tok} {kVInvalidRows dcInvalidRows pmInvalidRows ctInvalidRows ocInvalidRows cclInvalidRows clInvalidRows : Value} {osInvalidRows csInvalidRows ssInvalidRows : Array (Option Value)} {vsInvalidRows : Array Value}
    (xaInvalidRows : PySem.W.nsIn K mainGlobals "InvalidRows" = some (some (.ref CInvalidRows)))
    (xcInvalidRows : K.lookup CInvalidRows = some (excClassObj nmInvalidRows qInvalidRows CInvalidRows NInvalidRows bsInvalidRows bmInvalidRows true snInvalidRows subInvalidRows abInvalidRows colInvalidRows ddInvalidRows k0InvalidRows k1InvalidRows k2InvalidRows k3InvalidRows k5InvalidRows "ValueError.__new__"))
    (xtInvalidRows : PySem.W.excTail [.type "ValueError", .type "Exception", .type "BaseException", .type "object"] bmInvalidRows = true)
    (xsInvalidRows : PySem.W.ks_superIn K CInvalidRows CInvalidRows "__init__" = some (some (.builtin "ValueError.__init__")))
    (xbInvalidRows : PySem.W.subIn K (.ref CInvalidRows) (.type "ValueError") = some true)
    (xiInvalidRows : PySem.W.findIn K (.ref CInvalidRows) "__init__" = some (some (.ref fIInvalidRows)))
    (xyInvalidRows : PySem.W.typeIn K (.ref fIInvalidRows) = some (.type "function"))
    (xlInvalidRows : K.lookup fIInvalidRows = some ⟨ocInvalidRows, odInvalidRows, .func (PySem.W.ksFn "__init__" "InvalidRows.__init__" (defArgs sxInvalidRows) (defBody sxInvalidRows) (defScope sxInvalidRows) .none kVInvalidRows dcInvalidRows pmInvalidRows anInvalidRows (.ref cdaInvalidRows) ctInvalidRows ccInvalidRows), osInvalidRows⟩)
    (xoInvalidRows : PySem.W.codeIn K (.ref cdaInvalidRows) "InvalidRows.__init__" = true)
    (xdInvalidRows : K.lookup cdaInvalidRows = some ⟨cclInvalidRows, cddInvalidRows, .fields vsInvalidRows, csInvalidRows⟩)
    (xvInvalidRows : vsInvalidRows[2]? = some (.str fileInvalidRows tfInvalidRows))
    (xfInvalidRows : ((P.main.file : Str) == fileInvalidRows) = true)
    (xeInvalidRows : K.lookup ccInvalidRows = some ⟨clInvalidRows, cldInvalidRows, .cell (some (.ref CInvalidRows)), ssInvalidRows⟩)
    (xmInvalidRows : PySem.W.mroIn K CInvalidRows (.ref CInvalidRows) = some true)
    (xpInvalidRows : PySem.W.findIn K (.ref CInvalidRows) "__setattr__" = some (some (.builtin "object.__setattr__")))
    (xnInvalidRows : PySem.W.findIn K (.ref CInvalidRows) "value" = some none)
    (xqInvalidRows : PySem.W.subIn K (.ref CInvalidRows) (.type "BaseException") = some true)
    (xrInvalidRows : PySem.W.typeIn K (.ref CInvalidRows) = some (.type "type"))
    (xkInvalidRows : PySem.W.keepIn K (.ref CInvalidRows) = true)
    (xgInvalidRows : PySem.W.findIn K (.ref CInvalidRows) "__getattribute__" = some (some (.builtin "BaseException.__getattribute__")))
    (xhInvalidRows : PySem.W.findIn K (.ref CInvalidRows) "__getattr__" = some none)
    (xjInvalidRows : PySem.W.hasDictIn K CInvalidRows = true)
    {CInvalidThread fIInvalidThread ccInvalidThread cdaInvalidThread NInvalidThread : Addr} {bmInvalidThread bsInvalidThread subInvalidThread : List Value} {nmInvalidThread qInvalidThread fileInvalidThread : Str} {snInvalidThread : List Str} {abInvalidThread : Bool} {colInvalidThread : Option Bool} {ddInvalidThread anInvalidThread odInvalidThread cddInvalidThread cldInvalidThread : Option Addr} {k0InvalidThread k1InvalidThread k2InvalidThread k3InvalidThread k5InvalidThread : Option Value} {tfInvalidThread : Tok} {kVInvalidThread dcInvalidThread pmInvalidThread ctInvalidThread ocInvalidThread cclInvalidThread clInvalidThread : Value} {osInvalidThread csInvalidThread ssInvalidThread : Array (Option Value)} {vsInvalidThread : Array Value}
    (xaInvalidThread : PySem.W.nsIn K mainGlobals "InvalidThread" = some (some (.ref CInvalidThread)))
    (xcInvalidThread : K.lookup CInvalidThread = some (excClassObj nmInvalidThread qInvalidThread CInvalidThread NInvalidThread bsInvalidThread bmInvalidThread true snInvalidThread subInvalidThread abInvalidThread colInvalidThread ddInvalidThread k0InvalidThread k1InvalidThread k2InvalidThread k3InvalidThread k5InvalidThread "ValueError.__new__"))
    (xtInvalidThread : PySem.W.excTail [.type "ValueError", .type "Exception", .type "BaseException", .type "object"] bmInvalidThread = true)
    (xsInvalidThread : PySem.W.ks_superIn K CInvalidThread CInvalidThread "__init__" = some (some (.builtin "ValueError.__init__")))
    (xbInvalidThread : PySem.W.subIn K (.ref CInvalidThread) (.type "ValueError") = some true)
    (xiInvalidThread : PySem.W.findIn K (.ref CInvalidThread) "__init__" = some (some (.ref fIInvalidThread)))
    (xyInvalidThread : PySem.W.typeIn K (.ref fIInvalidThread) = some (.type "function"))
    (xlInvalidThread : K.lookup fIInvalidThread = some ⟨ocInvalidThread, odInvalidThread, .func (PySem.W.ksFn "__init__" "InvalidThread.__init__" (defArgs sxInvalidThread) (defBody sxInvalidThread) (defScope sxInvalidThread) .none kVInvalidThread dcInvalidThread pmInvalidThread anInvalidThread (.ref cdaInvalidThread) ctInvalidThread ccInvalidThread), osInvalidThread⟩)
    (xoInvalidThread : PySem.W.codeIn K (.ref cdaInvalidThread) "InvalidThread.__init__" = true)
    (xdInvalidThread : K.lookup cdaInvalidThread = some ⟨cclInvalidThread, cddInvalidThread, .fields vsInvalidThread, csInvalidThread⟩)
    (xvInvalidThread : vsInvalidThread[2]? = some (.str fileInvalidThread tfInvalidThread))
    (xfInvalidThread : ((P.main.file : Str) == fileInvalidThread) = true)
    (xeInvalidThread : K.lookup ccInvalidThread = some ⟨clInvalidThread, cldInvalidThread, .cell (some (.ref CInvalidThread)), ssInvalidThread⟩)
    (xmInvalidThread : PySem.W.mroIn K CInvalidThread (.ref CInvalidThread) = some true)
    (xpInvalidThread : PySem.W.findIn K (.ref CInvalidThread) "__setattr__" = some (some (.builtin "object.__setattr__")))
    (xnInvalidThread : PySem.W.findIn K (.ref CInvalidThread) "value" = some none)
    (xqInvalidThread : PySem.W.subIn K (.ref CInvalidThread) (.type "BaseException") = some true)
    (xrInvalidThread : PySem.W.typeIn K (.ref CInvalidThread) = some (.type "type"))
    (xkInvalidThread : PySem.W.keepIn K (.ref CInvalidThread) = true)
    (xgInvalidThread : PySem.W.findIn K (.ref CInvalidThread) "__getattribute__" = some (some (.builtin "BaseException.__getattribute__")))
    (xhInvalidThread : PySem.W.findIn K (.ref CInvalidThread) "__getattr__" = some none)
    (xjInvalidThread : PySem.W.hasDictIn K CInvalidThread = true)
    (hbInvalidCrossing : PySem.W.subIn K (.ref CInvalidCrossing) (.type "BaseException") = some true)
    (hcInvalidCrossing : PySem.W.isClsIn K CInvalidCrossing = true)
    (htInvalidCrossing : PySem.W.typeIn K (.ref CInvalidCrossing) = some (.type "type"))
    (em_InvalidRows_InvalidCrossing : PySem.W.subIn K (.ref CInvalidRows) (.ref CInvalidCrossing) = some false)
    (em_InvalidThread_InvalidCrossing : PySem.W.subIn K (.ref CInvalidThread) (.ref CInvalidCrossing) = some false)
    (em_InvalidCrossing_InvalidCrossing : PySem.W.subIn K (.ref CInvalidCrossing) (.ref CInvalidCrossing) = some true)
    (hbInvalidThread : PySem.W.subIn K (.ref CInvalidThread) (.type "BaseException") = some true)
    (hcInvalidThread : PySem.W.isClsIn K CInvalidThread = true)
    (htInvalidThread : PySem.W.typeIn K (.ref CInvalidThread) = some (.type "type"))
    (em_InvalidRows_InvalidThread : PySem.W.subIn K (.ref CInvalidRows) (.ref CInvalidThread) = some false)
    (em_InvalidThread_InvalidThread : PySem.W.subIn K (.ref CInvalidThread) (.ref CInvalidThread) = some true)
    (em_InvalidCrossing_InvalidThread : PySem.W.subIn K (.ref CInvalidCrossing) (.ref CInvalidThread) = some false)
    {ACloth : Addr}
    (caCloth : PySem.W.nsIn K mainGlobals "Cloth" = some (some (.ref ACloth)))
    (cpCloth : PySem.W.plainGet K ACloth Str.empty = true)
    (cdCloth : PySem.W.hasDictIn K ACloth = true)
    (coCloth : PySem.W.plainOver K ACloth = true)
    (csCloth : PySem.W.findIn K (.ref ACloth) "__setattr__" = some (some (.builtin "object.__setattr__")))
    (fn_Cloth_kept_rows : PySem.W.findIn K (.ref ACloth) "kept_rows" = some none)
    (rdCloth : PySem.W.readsIn K ACloth (.type "type") = true)
    (rgCloth : PySem.W.specialIn K (.ref ACloth) "__getattribute__" = some (some (.builtin "type.__getattribute__")))
    {tkClothMOST : Tok}
    (cv_Cloth_MOST : PySem.W.findCls K (.ref ACloth) (.type "type") "MOST" = some (.val (.int 8 tkClothMOST)))
    {fCloth____contains__ : Addr}
    (sfCloth____contains__ : PySem.W.findIn K (.ref ACloth) "__contains__" = some (some (.ref fCloth____contains__)))
    (snCloth____contains__ : PySem.W.isFn K (.ref fCloth____contains__) = true)
    (sgCloth____contains__ : PySem.W.fnIn K fCloth____contains__ = true)
    (ssCloth____contains__ : PySem.W.selfFirst K ACloth = true)
    {ocCloth____contains__ : Value} {odCloth____contains__ anCloth____contains__ : Option Addr} {slCloth____contains__ : Array (Option Value)} {kVCloth____contains__ dcCloth____contains__ pmCloth____contains__ cdCloth____contains__ ctCloth____contains__ : Value}
    (lCloth____contains__ : K.lookup fCloth____contains__ = some ⟨ocCloth____contains__, odCloth____contains__, .func (PySem.W.fnOf "__contains__" "Cloth.__contains__" (defArgs sCloth____contains__) (defBody sCloth____contains__) (defScope sCloth____contains__) .none kVCloth____contains__ dcCloth____contains__ pmCloth____contains__ anCloth____contains__ cdCloth____contains__ ctCloth____contains__), slCloth____contains__⟩)
    (cCloth____contains__ : PySem.W.codeIn K cdCloth____contains__ "Cloth.__contains__" = true)
    (kCloth____contains__ : PySem.W.keepIn K (.ref fCloth____contains__) = true)
    {fCloth____getitem__ : Addr}
    (sfCloth____getitem__ : PySem.W.findIn K (.ref ACloth) "__getitem__" = some (some (.ref fCloth____getitem__)))
    (snCloth____getitem__ : PySem.W.isFn K (.ref fCloth____getitem__) = true)
    (sgCloth____getitem__ : PySem.W.fnIn K fCloth____getitem__ = true)
    (ssCloth____getitem__ : PySem.W.selfFirst K ACloth = true)
    {ocCloth____getitem__ : Value} {odCloth____getitem__ anCloth____getitem__ : Option Addr} {slCloth____getitem__ : Array (Option Value)} {kVCloth____getitem__ dcCloth____getitem__ pmCloth____getitem__ cdCloth____getitem__ ctCloth____getitem__ : Value}
    (lCloth____getitem__ : K.lookup fCloth____getitem__ = some ⟨ocCloth____getitem__, odCloth____getitem__, .func (PySem.W.fnOf "__getitem__" "Cloth.__getitem__" (defArgs sCloth____getitem__) (defBody sCloth____getitem__) (defScope sCloth____getitem__) .none kVCloth____getitem__ dcCloth____getitem__ pmCloth____getitem__ anCloth____getitem__ cdCloth____getitem__ ctCloth____getitem__), slCloth____getitem__⟩)
    (cCloth____getitem__ : PySem.W.codeIn K cdCloth____getitem__ "Cloth.__getitem__" = true)
    (kCloth____getitem__ : PySem.W.keepIn K (.ref fCloth____getitem__) = true)
    {fCloth____init__ : Addr}
    (kiCloth : PySem.W.makesIn K ACloth = true)
    (kfCloth : PySem.W.findIn K (.ref ACloth) "__init__" = some (some (.ref fCloth____init__)))
    (knCloth : PySem.W.isFn K (.ref fCloth____init__) = true)
    (kkCloth : PySem.W.keepIn K (.ref ACloth) = true)
    {ocCloth____init__ : Value} {odCloth____init__ anCloth____init__ : Option Addr} {slCloth____init__ : Array (Option Value)} {kVCloth____init__ dcCloth____init__ pmCloth____init__ cdCloth____init__ ctCloth____init__ : Value}
    (lCloth____init__ : K.lookup fCloth____init__ = some ⟨ocCloth____init__, odCloth____init__, .func (PySem.W.fnOf "__init__" "Cloth.__init__" (defArgs sCloth____init__) (defBody sCloth____init__) (defScope sCloth____init__) .none kVCloth____init__ dcCloth____init__ pmCloth____init__ anCloth____init__ cdCloth____init__ ctCloth____init__), slCloth____init__⟩)
    (cCloth____init__ : PySem.W.codeIn K cdCloth____init__ "Cloth.__init__" = true)
    (kCloth____init__ : PySem.W.keepIn K (.ref fCloth____init__) = true)
    {fCloth__above : Addr}
    (mfCloth__above : PySem.W.findIn K (.ref ACloth) "above" = some (some (.ref fCloth__above)))
    (mnCloth__above : PySem.W.isFn K (.ref fCloth__above) = true)
    {ocCloth__above : Value} {odCloth__above anCloth__above : Option Addr} {slCloth__above : Array (Option Value)} {kVCloth__above dcCloth__above pmCloth__above cdCloth__above ctCloth__above : Value}
    (lCloth__above : K.lookup fCloth__above = some ⟨ocCloth__above, odCloth__above, .func (PySem.W.fnOf "above" "Cloth.above" (defArgs sCloth__above) (defBody sCloth__above) (defScope sCloth__above) .none kVCloth__above dcCloth__above pmCloth__above anCloth__above cdCloth__above ctCloth__above), slCloth__above⟩)
    (cCloth__above : PySem.W.codeIn K cdCloth__above "Cloth.above" = true)
    (kCloth__above : PySem.W.keepIn K (.ref fCloth__above) = true)
    {fCloth__below : Addr}
    (mfCloth__below : PySem.W.findIn K (.ref ACloth) "below" = some (some (.ref fCloth__below)))
    (mnCloth__below : PySem.W.isFn K (.ref fCloth__below) = true)
    {ocCloth__below : Value} {odCloth__below anCloth__below : Option Addr} {slCloth__below : Array (Option Value)} {kVCloth__below dcCloth__below pmCloth__below cdCloth__below ctCloth__below : Value}
    (lCloth__below : K.lookup fCloth__below = some ⟨ocCloth__below, odCloth__below, .func (PySem.W.fnOf "below" "Cloth.below" (defArgs sCloth__below) (defBody sCloth__below) (defScope sCloth__below) .none kVCloth__below dcCloth__below pmCloth__below anCloth__below cdCloth__below ctCloth__below), slCloth__below⟩)
    (cCloth__below : PySem.W.codeIn K cdCloth__below "Cloth.below" = true)
    (kCloth__below : PySem.W.keepIn K (.ref fCloth__below) = true)
    {fCloth__crossed : Addr}
    (mfCloth__crossed : PySem.W.findIn K (.ref ACloth) "crossed" = some (some (.ref fCloth__crossed)))
    (mnCloth__crossed : PySem.W.isFn K (.ref fCloth__crossed) = true)
    {ocCloth__crossed : Value} {odCloth__crossed anCloth__crossed : Option Addr} {slCloth__crossed : Array (Option Value)} {kVCloth__crossed dcCloth__crossed pmCloth__crossed cdCloth__crossed ctCloth__crossed : Value}
    (lCloth__crossed : K.lookup fCloth__crossed = some ⟨ocCloth__crossed, odCloth__crossed, .func (PySem.W.fnOf "crossed" "Cloth.crossed" (defArgs sCloth__crossed) (defBody sCloth__crossed) (defScope sCloth__crossed) .none kVCloth__crossed dcCloth__crossed pmCloth__crossed anCloth__crossed cdCloth__crossed ctCloth__crossed), slCloth__crossed⟩)
    (cCloth__crossed : PySem.W.codeIn K cdCloth__crossed "Cloth.crossed" = true)
    (kCloth__crossed : PySem.W.keepIn K (.ref fCloth__crossed) = true)
    {fCloth__over : Addr}
    (mfCloth__over : PySem.W.findIn K (.ref ACloth) "over" = some (some (.ref fCloth__over)))
    (mnCloth__over : PySem.W.isFn K (.ref fCloth__over) = true)
    {ocCloth__over : Value} {odCloth__over anCloth__over : Option Addr} {slCloth__over : Array (Option Value)} {kVCloth__over dcCloth__over pmCloth__over cdCloth__over ctCloth__over : Value}
    (lCloth__over : K.lookup fCloth__over = some ⟨ocCloth__over, odCloth__over, .func (PySem.W.fnOf "over" "Cloth.over" (defArgs sCloth__over) (defBody sCloth__over) (defScope sCloth__over) .none kVCloth__over dcCloth__over pmCloth__over anCloth__over cdCloth__over ctCloth__over), slCloth__over⟩)
    (cCloth__over : PySem.W.codeIn K cdCloth__over "Cloth.over" = true)
    (kCloth__over : PySem.W.keepIn K (.ref fCloth__over) = true)
    {fCloth__score : Addr}
    (mfCloth__score : PySem.W.findIn K (.ref ACloth) "score" = some (some (.ref fCloth__score)))
    (mnCloth__score : PySem.W.isFn K (.ref fCloth__score) = true)
    {ocCloth__score : Value} {odCloth__score anCloth__score : Option Addr} {slCloth__score : Array (Option Value)} {kVCloth__score dcCloth__score pmCloth__score cdCloth__score ctCloth__score : Value}
    (lCloth__score : K.lookup fCloth__score = some ⟨ocCloth__score, odCloth__score, .func (PySem.W.fnOf "score" "Cloth.score" (defArgs sCloth__score) (defBody sCloth__score) (defScope sCloth__score) .none kVCloth__score dcCloth__score pmCloth__score anCloth__score cdCloth__score ctCloth__score), slCloth__score⟩)
    (cCloth__score : PySem.W.codeIn K cdCloth__score "Cloth.score" = true)
    (kCloth__score : PySem.W.keepIn K (.ref fCloth__score) = true)
    {fCloth__score_lists : Addr}
    (mfCloth__score_lists : PySem.W.findIn K (.ref ACloth) "score_lists" = some (some (.ref fCloth__score_lists)))
    (mnCloth__score_lists : PySem.W.isFn K (.ref fCloth__score_lists) = true)
    {ocCloth__score_lists : Value} {odCloth__score_lists anCloth__score_lists : Option Addr} {slCloth__score_lists : Array (Option Value)} {kVCloth__score_lists dcCloth__score_lists pmCloth__score_lists cdCloth__score_lists ctCloth__score_lists : Value}
    (lCloth__score_lists : K.lookup fCloth__score_lists = some ⟨ocCloth__score_lists, odCloth__score_lists, .func (PySem.W.fnOf "score_lists" "Cloth.score_lists" (defArgs sCloth__score_lists) (defBody sCloth__score_lists) (defScope sCloth__score_lists) .none kVCloth__score_lists dcCloth__score_lists pmCloth__score_lists anCloth__score_lists cdCloth__score_lists ctCloth__score_lists), slCloth__score_lists⟩)
    (cCloth__score_lists : PySem.W.codeIn K cdCloth__score_lists "Cloth.score_lists" = true)
    (kCloth__score_lists : PySem.W.keepIn K (.ref fCloth__score_lists) = true)
    {fCloth__threads : Addr}
    (mfCloth__threads : PySem.W.findIn K (.ref ACloth) "threads" = some (some (.ref fCloth__threads)))
    (mnCloth__threads : PySem.W.isFn K (.ref fCloth__threads) = true)
    {ocCloth__threads : Value} {odCloth__threads anCloth__threads : Option Addr} {slCloth__threads : Array (Option Value)} {kVCloth__threads dcCloth__threads pmCloth__threads cdCloth__threads ctCloth__threads : Value}
    (lCloth__threads : K.lookup fCloth__threads = some ⟨ocCloth__threads, odCloth__threads, .func (PySem.W.fnOf "threads" "Cloth.threads" (defArgs sCloth__threads) (defBody sCloth__threads) (defScope sCloth__threads) .none kVCloth__threads dcCloth__threads pmCloth__threads anCloth__threads cdCloth__threads ctCloth__threads), slCloth__threads⟩)
    (cCloth__threads : PySem.W.codeIn K cdCloth__threads "Cloth.threads" = true)
    (kCloth__threads : PySem.W.keepIn K (.ref fCloth__threads) = true)
    {fCloth__warp_count pCloth__warp_count : Addr} {rsCloth__warp_count : List Value}
    (pfCloth__warp_count : PySem.W.findIn K (.ref ACloth) "warp_count" = some (some (.ref pCloth__warp_count)))
    (pgCloth__warp_count : PySem.W.specialIn K (.ref pCloth__warp_count) "__get__" = some (some (.builtin "property.__get__")))
    (ptCloth__warp_count : PySem.W.takesIn K (.ref pCloth__warp_count) = some true)
    (prCloth__warp_count : PySem.W.recIn K pCloth__warp_count "property" = some (.ref fCloth__warp_count :: rsCloth__warp_count))
    {ocCloth__warp_count : Value} {odCloth__warp_count anCloth__warp_count : Option Addr} {slCloth__warp_count : Array (Option Value)} {kVCloth__warp_count dcCloth__warp_count pmCloth__warp_count cdCloth__warp_count ctCloth__warp_count : Value}
    (lCloth__warp_count : K.lookup fCloth__warp_count = some ⟨ocCloth__warp_count, odCloth__warp_count, .func (PySem.W.fnOf "warp_count" "Cloth.warp_count" (defArgs sCloth__warp_count) (defBody sCloth__warp_count) (defScope sCloth__warp_count) .none kVCloth__warp_count dcCloth__warp_count pmCloth__warp_count anCloth__warp_count cdCloth__warp_count ctCloth__warp_count), slCloth__warp_count⟩)
    (cCloth__warp_count : PySem.W.codeIn K cdCloth__warp_count "Cloth.warp_count" = true)
    (kCloth__warp_count : PySem.W.keepIn K (.ref fCloth__warp_count) = true)
    {fCloth__weft_count pCloth__weft_count : Addr} {rsCloth__weft_count : List Value}
    (pfCloth__weft_count : PySem.W.findIn K (.ref ACloth) "weft_count" = some (some (.ref pCloth__weft_count)))
    (pgCloth__weft_count : PySem.W.specialIn K (.ref pCloth__weft_count) "__get__" = some (some (.builtin "property.__get__")))
    (ptCloth__weft_count : PySem.W.takesIn K (.ref pCloth__weft_count) = some true)
    (prCloth__weft_count : PySem.W.recIn K pCloth__weft_count "property" = some (.ref fCloth__weft_count :: rsCloth__weft_count))
    {ocCloth__weft_count : Value} {odCloth__weft_count anCloth__weft_count : Option Addr} {slCloth__weft_count : Array (Option Value)} {kVCloth__weft_count dcCloth__weft_count pmCloth__weft_count cdCloth__weft_count ctCloth__weft_count : Value}
    (lCloth__weft_count : K.lookup fCloth__weft_count = some ⟨ocCloth__weft_count, odCloth__weft_count, .func (PySem.W.fnOf "weft_count" "Cloth.weft_count" (defArgs sCloth__weft_count) (defBody sCloth__weft_count) (defScope sCloth__weft_count) .none kVCloth__weft_count dcCloth__weft_count pmCloth__weft_count anCloth__weft_count cdCloth__weft_count ctCloth__weft_count), slCloth__weft_count⟩)
    (cCloth__weft_count : PySem.W.codeIn K cdCloth__weft_count "Cloth.weft_count" = true)
    (kCloth__weft_count : PySem.W.keepIn K (.ref fCloth__weft_count) = true)
    {f_law_box : Addr} {oc_law_box : Value} {od_law_box an_law_box : Option Addr} {sl_law_box : Array (Option Value)} {kV_law_box dc_law_box pm_law_box cd_law_box ct_law_box : Value}
    (a_law_box : PySem.W.nsIn K mainGlobals "_law_box" = some (some (.ref f_law_box)))
    (l_law_box : K.lookup f_law_box = some ⟨oc_law_box, od_law_box, .func (PySem.W.fnOf "_law_box" "_law_box" (defArgs s_law_box) (defBody s_law_box) (defScope s_law_box) .none kV_law_box dc_law_box pm_law_box an_law_box cd_law_box ct_law_box), sl_law_box⟩)
    (c_law_box : PySem.W.codeIn K cd_law_box "_law_box" = true)
    (k_law_box : PySem.W.keepIn K (.ref f_law_box) = true)
    {f_law_cell : Addr} {oc_law_cell : Value} {od_law_cell an_law_cell : Option Addr} {sl_law_cell : Array (Option Value)} {kV_law_cell dc_law_cell pm_law_cell cd_law_cell ct_law_cell : Value}
    (a_law_cell : PySem.W.nsIn K mainGlobals "_law_cell" = some (some (.ref f_law_cell)))
    (l_law_cell : K.lookup f_law_cell = some ⟨oc_law_cell, od_law_cell, .func (PySem.W.fnOf "_law_cell" "_law_cell" (defArgs s_law_cell) (defBody s_law_cell) (defScope s_law_cell) .none kV_law_cell dc_law_cell pm_law_cell an_law_cell cd_law_cell ct_law_cell), sl_law_cell⟩)
    (c_law_cell : PySem.W.codeIn K cd_law_cell "_law_cell" = true)
    (k_law_cell : PySem.W.keepIn K (.ref f_law_cell) = true)
    {f_law_take : Addr} {oc_law_take : Value} {od_law_take an_law_take : Option Addr} {sl_law_take : Array (Option Value)} {kV_law_take dc_law_take pm_law_take cd_law_take ct_law_take : Value}
    (a_law_take : PySem.W.nsIn K mainGlobals "_law_take" = some (some (.ref f_law_take)))
    (l_law_take : K.lookup f_law_take = some ⟨oc_law_take, od_law_take, .func (PySem.W.fnOf "_law_take" "_law_take" (defArgs s_law_take) (defBody s_law_take) (defScope s_law_take) .none kV_law_take dc_law_take pm_law_take an_law_take cd_law_take ct_law_take), sl_law_take⟩)
    (c_law_take : PySem.W.codeIn K cd_law_take "_law_take" = true)
    (k_law_take : PySem.W.keepIn K (.ref f_law_take) = true)
    {f_law_rows : Addr} {oc_law_rows : Value} {od_law_rows an_law_rows : Option Addr} {sl_law_rows : Array (Option Value)} {kV_law_rows dc_law_rows pm_law_rows cd_law_rows ct_law_rows : Value}
    (a_law_rows : PySem.W.nsIn K mainGlobals "_law_rows" = some (some (.ref f_law_rows)))
    (l_law_rows : K.lookup f_law_rows = some ⟨oc_law_rows, od_law_rows, .func (PySem.W.fnOf "_law_rows" "_law_rows" (defArgs s_law_rows) (defBody s_law_rows) (defScope s_law_rows) .none kV_law_rows dc_law_rows pm_law_rows an_law_rows cd_law_rows ct_law_rows), sl_law_rows⟩)
    (c_law_rows : PySem.W.codeIn K cd_law_rows "_law_rows" = true)
    (k_law_rows : PySem.W.keepIn K (.ref f_law_rows) = true)
    {f_law_threads : Addr} {oc_law_threads : Value} {od_law_threads an_law_threads : Option Addr} {sl_law_threads : Array (Option Value)} {kV_law_threads dc_law_threads pm_law_threads cd_law_threads ct_law_threads : Value}
    (a_law_threads : PySem.W.nsIn K mainGlobals "_law_threads" = some (some (.ref f_law_threads)))
    (l_law_threads : K.lookup f_law_threads = some ⟨oc_law_threads, od_law_threads, .func (PySem.W.fnOf "_law_threads" "_law_threads" (defArgs s_law_threads) (defBody s_law_threads) (defScope s_law_threads) .none kV_law_threads dc_law_threads pm_law_threads an_law_threads cd_law_threads ct_law_threads), sl_law_threads⟩)
    (c_law_threads : PySem.W.codeIn K cd_law_threads "_law_threads" = true)
    (k_law_threads : PySem.W.keepIn K (.ref f_law_threads) = true)
    {fis_sequence : Addr} {ocis_sequence : Value} {odis_sequence anis_sequence : Option Addr} {slis_sequence : Array (Option Value)} {kVis_sequence dcis_sequence pmis_sequence cdis_sequence ctis_sequence : Value}
    (ais_sequence : PySem.W.nsIn K mainGlobals "is_sequence" = some (some (.ref fis_sequence)))
    (lis_sequence : K.lookup fis_sequence = some ⟨ocis_sequence, odis_sequence, .func (PySem.W.fnOf "is_sequence" "is_sequence" (defArgs sis_sequence) (defBody sis_sequence) (defScope sis_sequence) .none kVis_sequence dcis_sequence pmis_sequence anis_sequence cdis_sequence ctis_sequence), slis_sequence⟩)
    (cis_sequence : PySem.W.codeIn K cdis_sequence "is_sequence" = true)
    (kis_sequence : PySem.W.keepIn K (.ref fis_sequence) = true)
    {fis_pattern : Addr} {ocis_pattern : Value} {odis_pattern anis_pattern : Option Addr} {slis_pattern : Array (Option Value)} {kVis_pattern dcis_pattern pmis_pattern cdis_pattern ctis_pattern : Value}
    (ais_pattern : PySem.W.nsIn K mainGlobals "is_pattern" = some (some (.ref fis_pattern)))
    (lis_pattern : K.lookup fis_pattern = some ⟨ocis_pattern, odis_pattern, .func (PySem.W.fnOf "is_pattern" "is_pattern" (defArgs sis_pattern) (defBody sis_pattern) (defScope sis_pattern) .none kVis_pattern dcis_pattern pmis_pattern anis_pattern cdis_pattern ctis_pattern), slis_pattern⟩)
    (cis_pattern : PySem.W.codeIn K cdis_pattern "is_pattern" = true)
    (kis_pattern : PySem.W.keepIn K (.ref fis_pattern) = true)
    {fare_rows : Addr} {ocare_rows : Value} {odare_rows anare_rows : Option Addr} {slare_rows : Array (Option Value)} {kVare_rows dcare_rows pmare_rows cdare_rows ctare_rows : Value}
    (aare_rows : PySem.W.nsIn K mainGlobals "are_rows" = some (some (.ref fare_rows)))
    (lare_rows : K.lookup fare_rows = some ⟨ocare_rows, odare_rows, .func (PySem.W.fnOf "are_rows" "are_rows" (defArgs sare_rows) (defBody sare_rows) (defScope sare_rows) .none kVare_rows dcare_rows pmare_rows anare_rows cdare_rows ctare_rows), slare_rows⟩)
    (care_rows : PySem.W.codeIn K cdare_rows "are_rows" = true)
    (kare_rows : PySem.W.keepIn K (.ref fare_rows) = true)
    {f_law_lies_over : Addr} {oc_law_lies_over : Value} {od_law_lies_over an_law_lies_over : Option Addr} {sl_law_lies_over : Array (Option Value)} {kV_law_lies_over dc_law_lies_over pm_law_lies_over cd_law_lies_over ct_law_lies_over : Value}
    (a_law_lies_over : PySem.W.nsIn K mainGlobals "_law_lies_over" = some (some (.ref f_law_lies_over)))
    (l_law_lies_over : K.lookup f_law_lies_over = some ⟨oc_law_lies_over, od_law_lies_over, .func (PySem.W.fnOf "_law_lies_over" "_law_lies_over" (defArgs s_law_lies_over) (defBody s_law_lies_over) (defScope s_law_lies_over) .none kV_law_lies_over dc_law_lies_over pm_law_lies_over an_law_lies_over cd_law_lies_over ct_law_lies_over), sl_law_lies_over⟩)
    (c_law_lies_over : PySem.W.codeIn K cd_law_lies_over "_law_lies_over" = true)
    (k_law_lies_over : PySem.W.keepIn K (.ref f_law_lies_over) = true)
    {fis_integer : Addr} {ocis_integer : Value} {odis_integer anis_integer : Option Addr} {slis_integer : Array (Option Value)} {kVis_integer dcis_integer pmis_integer cdis_integer ctis_integer : Value}
    (ais_integer : PySem.W.nsIn K mainGlobals "is_integer" = some (some (.ref fis_integer)))
    (lis_integer : K.lookup fis_integer = some ⟨ocis_integer, odis_integer, .func (PySem.W.fnOf "is_integer" "is_integer" (defArgs sis_integer) (defBody sis_integer) (defScope sis_integer) .none kVis_integer dcis_integer pmis_integer anis_integer cdis_integer ctis_integer), slis_integer⟩)
    (cis_integer : PySem.W.codeIn K cdis_integer "is_integer" = true)
    (kis_integer : PySem.W.keepIn K (.ref fis_integer) = true)
    {fis_thread : Addr} {ocis_thread : Value} {odis_thread anis_thread : Option Addr} {slis_thread : Array (Option Value)} {kVis_thread dcis_thread pmis_thread cdis_thread ctis_thread : Value}
    (ais_thread : PySem.W.nsIn K mainGlobals "is_thread" = some (some (.ref fis_thread)))
    (lis_thread : K.lookup fis_thread = some ⟨ocis_thread, odis_thread, .func (PySem.W.fnOf "is_thread" "is_thread" (defArgs sis_thread) (defBody sis_thread) (defScope sis_thread) .none kVis_thread dcis_thread pmis_thread anis_thread cdis_thread ctis_thread), slis_thread⟩)
    (cis_thread : PySem.W.codeIn K cdis_thread "is_thread" = true)
    (kis_thread : PySem.W.keepIn K (.ref fis_thread) = true)
    {fcrossing_of : Addr} {occrossing_of : Value} {odcrossing_of ancrossing_of : Option Addr} {slcrossing_of : Array (Option Value)} {kVcrossing_of dccrossing_of pmcrossing_of cdcrossing_of ctcrossing_of : Value}
    (acrossing_of : PySem.W.nsIn K mainGlobals "crossing_of" = some (some (.ref fcrossing_of)))
    (lcrossing_of : K.lookup fcrossing_of = some ⟨occrossing_of, odcrossing_of, .func (PySem.W.fnOf "crossing_of" "crossing_of" (defArgs scrossing_of) (defBody scrossing_of) (defScope scrossing_of) .none kVcrossing_of dccrossing_of pmcrossing_of ancrossing_of cdcrossing_of ctcrossing_of), slcrossing_of⟩)
    (ccrossing_of : PySem.W.codeIn K cdcrossing_of "crossing_of" = true)
    (kcrossing_of : PySem.W.keepIn K (.ref fcrossing_of) = true)
    {fis_crossing : Addr} {ocis_crossing : Value} {odis_crossing anis_crossing : Option Addr} {slis_crossing : Array (Option Value)} {kVis_crossing dcis_crossing pmis_crossing cdis_crossing ctis_crossing : Value}
    (ais_crossing : PySem.W.nsIn K mainGlobals "is_crossing" = some (some (.ref fis_crossing)))
    (lis_crossing : K.lookup fis_crossing = some ⟨ocis_crossing, odis_crossing, .func (PySem.W.fnOf "is_crossing" "is_crossing" (defArgs sis_crossing) (defBody sis_crossing) (defScope sis_crossing) .none kVis_crossing dcis_crossing pmis_crossing anis_crossing cdis_crossing ctis_crossing), slis_crossing⟩)
    (cis_crossing : PySem.W.codeIn K cdis_crossing "is_crossing" = true)
    (kis_crossing : PySem.W.keepIn K (.ref fis_crossing) = true)
    {f_law_lists_right : Addr} {oc_law_lists_right : Value} {od_law_lists_right an_law_lists_right : Option Addr} {sl_law_lists_right : Array (Option Value)} {kV_law_lists_right dc_law_lists_right pm_law_lists_right cd_law_lists_right ct_law_lists_right : Value}
    (a_law_lists_right : PySem.W.nsIn K mainGlobals "_law_lists_right" = some (some (.ref f_law_lists_right)))
    (l_law_lists_right : K.lookup f_law_lists_right = some ⟨oc_law_lists_right, od_law_lists_right, .func (PySem.W.fnOf "_law_lists_right" "_law_lists_right" (defArgs s_law_lists_right) (defBody s_law_lists_right) (defScope s_law_lists_right) .none kV_law_lists_right dc_law_lists_right pm_law_lists_right an_law_lists_right cd_law_lists_right ct_law_lists_right), sl_law_lists_right⟩)
    (c_law_lists_right : PySem.W.codeIn K cd_law_lists_right "_law_lists_right" = true)
    (k_law_lists_right : PySem.W.keepIn K (.ref f_law_lists_right) = true)
    {f_law_odd : Addr} {oc_law_odd : Value} {od_law_odd an_law_odd : Option Addr} {sl_law_odd : Array (Option Value)} {kV_law_odd dc_law_odd pm_law_odd cd_law_odd ct_law_odd : Value}
    (a_law_odd : PySem.W.nsIn K mainGlobals "_law_odd" = some (some (.ref f_law_odd)))
    (l_law_odd : K.lookup f_law_odd = some ⟨oc_law_odd, od_law_odd, .func (PySem.W.fnOf "_law_odd" "_law_odd" (defArgs s_law_odd) (defBody s_law_odd) (defScope s_law_odd) .none kV_law_odd dc_law_odd pm_law_odd an_law_odd cd_law_odd ct_law_odd), sl_law_odd⟩)
    (c_law_odd : PySem.W.codeIn K cd_law_odd "_law_odd" = true)
    (k_law_odd : PySem.W.keepIn K (.ref f_law_odd) = true)
    {f_law_is_thread : Addr} {oc_law_is_thread : Value} {od_law_is_thread an_law_is_thread : Option Addr} {sl_law_is_thread : Array (Option Value)} {kV_law_is_thread dc_law_is_thread pm_law_is_thread cd_law_is_thread ct_law_is_thread : Value}
    (a_law_is_thread : PySem.W.nsIn K mainGlobals "_law_is_thread" = some (some (.ref f_law_is_thread)))
    (l_law_is_thread : K.lookup f_law_is_thread = some ⟨oc_law_is_thread, od_law_is_thread, .func (PySem.W.fnOf "_law_is_thread" "_law_is_thread" (defArgs s_law_is_thread) (defBody s_law_is_thread) (defScope s_law_is_thread) .none kV_law_is_thread dc_law_is_thread pm_law_is_thread an_law_is_thread cd_law_is_thread ct_law_is_thread), sl_law_is_thread⟩)
    (c_law_is_thread : PySem.W.codeIn K cd_law_is_thread "_law_is_thread" = true)
    (k_law_is_thread : PySem.W.keepIn K (.ref f_law_is_thread) = true)
    {f_law_caught : Addr} {oc_law_caught : Value} {od_law_caught an_law_caught : Option Addr} {sl_law_caught : Array (Option Value)} {kV_law_caught dc_law_caught pm_law_caught cd_law_caught ct_law_caught : Value}
    (a_law_caught : PySem.W.nsIn K mainGlobals "_law_caught" = some (some (.ref f_law_caught)))
    (l_law_caught : K.lookup f_law_caught = some ⟨oc_law_caught, od_law_caught, .func (PySem.W.fnOf "_law_caught" "_law_caught" (defArgs s_law_caught) (defBody s_law_caught) (defScope s_law_caught) .none kV_law_caught dc_law_caught pm_law_caught an_law_caught cd_law_caught ct_law_caught), sl_law_caught⟩)
    (c_law_caught : PySem.W.codeIn K cd_law_caught "_law_caught" = true)
    (k_law_caught : PySem.W.keepIn K (.ref f_law_caught) = true)
    {f_law_pair_right : Addr} {oc_law_pair_right : Value} {od_law_pair_right an_law_pair_right : Option Addr} {sl_law_pair_right : Array (Option Value)} {kV_law_pair_right dc_law_pair_right pm_law_pair_right cd_law_pair_right ct_law_pair_right : Value}
    (a_law_pair_right : PySem.W.nsIn K mainGlobals "_law_pair_right" = some (some (.ref f_law_pair_right)))
    (l_law_pair_right : K.lookup f_law_pair_right = some ⟨oc_law_pair_right, od_law_pair_right, .func (PySem.W.fnOf "_law_pair_right" "_law_pair_right" (defArgs s_law_pair_right) (defBody s_law_pair_right) (defScope s_law_pair_right) .none kV_law_pair_right dc_law_pair_right pm_law_pair_right an_law_pair_right cd_law_pair_right ct_law_pair_right), sl_law_pair_right⟩)
    (c_law_pair_right : PySem.W.codeIn K cd_law_pair_right "_law_pair_right" = true)
    (k_law_pair_right : PySem.W.keepIn K (.ref f_law_pair_right) = true)
    (e_law_pair_right : cd_law_pair_right = .ref 483)
    {f_law_one_right : Addr} {oc_law_one_right : Value} {od_law_one_right an_law_one_right : Option Addr} {sl_law_one_right : Array (Option Value)} {kV_law_one_right dc_law_one_right pm_law_one_right cd_law_one_right ct_law_one_right : Value}
    (a_law_one_right : PySem.W.nsIn K mainGlobals "_law_one_right" = some (some (.ref f_law_one_right)))
    (l_law_one_right : K.lookup f_law_one_right = some ⟨oc_law_one_right, od_law_one_right, .func (PySem.W.fnOf "_law_one_right" "_law_one_right" (defArgs s_law_one_right) (defBody s_law_one_right) (defScope s_law_one_right) .none kV_law_one_right dc_law_one_right pm_law_one_right an_law_one_right cd_law_one_right ct_law_one_right), sl_law_one_right⟩)
    (c_law_one_right : PySem.W.codeIn K cd_law_one_right "_law_one_right" = true)
    (k_law_one_right : PySem.W.keepIn K (.ref f_law_one_right) = true)
    (e_law_one_right : cd_law_one_right = .ref 488)
    {flaw : Addr} {oclaw : Value} {odlaw anlaw : Option Addr} {sllaw : Array (Option Value)} {kVlaw dclaw pmlaw cdlaw ctlaw : Value}
    (alaw : PySem.W.nsIn K mainGlobals "law" = some (some (.ref flaw)))
    (llaw : K.lookup flaw = some ⟨oclaw, odlaw, .func (PySem.W.fnOf "law" "law" (defArgs slaw) (defBody slaw) (defScope slaw) .none kVlaw dclaw pmlaw anlaw cdlaw ctlaw), sllaw⟩)
    (claw : PySem.W.codeIn K cdlaw "law" = true)
    (klaw : PySem.W.keepIn K (.ref flaw) = true) :
    ∃ fd : FuncData, (∀ (s : Shared) (u : Value), BindsTo s fd ⟨[u], []⟩ [("_law_script", u)]) ∧ ∀ base : Heap, K.In base → base.Ns mainGlobals mg → (∀ p ∈ allL, GxR.TabB base mg p.1 p.2) → GFn P w K mg base 13 fa fd ["_law_script"] glaw := by
  have T : Txt P K mg := ⟨PySem.W.mg_none_of X G z_all,
   PySem.W.mg_none_of X G z_bool,
   PySem.W.mg_none_of X G z_int,
   PySem.W.mg_none_of X G z_isinstance,
   PySem.W.mg_none_of X G z_len,
   PySem.W.mg_none_of X G z_list,
   PySem.W.mg_none_of X G z_max,
   PySem.W.mg_none_of X G z_min,
   PySem.W.mg_none_of X G z_range,
   PySem.W.mg_none_of X G z_repr,
   PySem.W.mg_none_of X G z_str,
   PySem.W.mg_none_of X G z_tuple,
   isc_tup (PySem.W.mg_of X G a_KINDS) l_KINDS (Nat.le_of_ble_eq_true rfl) (.cons (.str _ _) (.cons (.str _ _) (.nil))),
   isc_str (PySem.W.mg_of X G a_SIGNS),
   fun _ _ h => PySem.W.mg_of X G h,
   ⟨PySem.W.mg_none_of X G z_super, z_third⟩,
   ⟨⟨CInvalidCrossing, fIInvalidCrossing, xaInvalidCrossing, ⟨_, _, _, _, bmInvalidCrossing, _, _, _, _, _, _, _, _, _, _, _, _, _, _, PySem.Mxe.xb_ValueError, xcInvalidCrossing, xtInvalidCrossing, xsInvalidCrossing, xbInvalidCrossing⟩, xiInvalidCrossing, xyInvalidCrossing, ⟨ccInvalidCrossing, cdaInvalidCrossing, _, _, _, _, _, _, _, _, _, _, _, _, _, _, _, _, _, _, _, _, _, _, _, vsInvalidCrossing, _, ⟨rfl, rfl, rfl, by decide +kernel, rfl, rfl, rfl, rfl, by decide, by decide, z_top, ⟨_, _, _, _, _, _, _, _, _, _, _, rfl, rfl⟩⟩, xlInvalidCrossing, xoInvalidCrossing, xdInvalidCrossing, xvInvalidCrossing, xfInvalidCrossing, xeInvalidCrossing, rfl, rfl, fun _ _ _ => .of_eq rfl⟩, xmInvalidCrossing, xpInvalidCrossing, xnInvalidCrossing, xqInvalidCrossing, xrInvalidCrossing, xkInvalidCrossing, xgInvalidCrossing, xhInvalidCrossing, xjInvalidCrossing⟩⟩,
   ⟨⟨CInvalidRows, fIInvalidRows, xaInvalidRows, ⟨_, _, _, _, bmInvalidRows, _, _, _, _, _, _, _, _, _, _, _, _, _, _, PySem.Mxe.xb_ValueError, xcInvalidRows, xtInvalidRows, xsInvalidRows, xbInvalidRows⟩, xiInvalidRows, xyInvalidRows, ⟨ccInvalidRows, cdaInvalidRows, _, _, _, _, _, _, _, _, _, _, _, _, _, _, _, _, _, _, _, _, _, _, _, vsInvalidRows, _, ⟨rfl, rfl, rfl, by decide +kernel, rfl, rfl, rfl, rfl, by decide, by decide, z_top, ⟨_, _, _, _, _, _, _, _, _, _, _, rfl, rfl⟩⟩, xlInvalidRows, xoInvalidRows, xdInvalidRows, xvInvalidRows, xfInvalidRows, xeInvalidRows, rfl, rfl, fun _ _ _ => .of_eq rfl⟩, xmInvalidRows, xpInvalidRows, xnInvalidRows, xqInvalidRows, xrInvalidRows, xkInvalidRows, xgInvalidRows, xhInvalidRows, xjInvalidRows⟩⟩,
   ⟨⟨CInvalidThread, fIInvalidThread, xaInvalidThread, ⟨_, _, _, _, bmInvalidThread, _, _, _, _, _, _, _, _, _, _, _, _, _, _, PySem.Mxe.xb_ValueError, xcInvalidThread, xtInvalidThread, xsInvalidThread, xbInvalidThread⟩, xiInvalidThread, xyInvalidThread, ⟨ccInvalidThread, cdaInvalidThread, _, _, _, _, _, _, _, _, _, _, _, _, _, _, _, _, _, _, _, _, _, _, _, vsInvalidThread, _, ⟨rfl, rfl, rfl, by decide +kernel, rfl, rfl, rfl, rfl, by decide, by decide, z_top, ⟨_, _, _, _, _, _, _, _, _, _, _, rfl, rfl⟩⟩, xlInvalidThread, xoInvalidThread, xdInvalidThread, xvInvalidThread, xfInvalidThread, xeInvalidThread, rfl, rfl, fun _ _ _ => .of_eq rfl⟩, xmInvalidThread, xpInvalidThread, xnInvalidThread, xqInvalidThread, xrInvalidThread, xkInvalidThread, xgInvalidThread, xhInvalidThread, xjInvalidThread⟩⟩,
   ⟨_, xaInvalidCrossing⟩,
   ⟨_, xaInvalidThread⟩,
   exm_of (.inl xaInvalidRows) (.inl xaInvalidCrossing) (exm_mk hbInvalidCrossing hcInvalidCrossing htInvalidCrossing em_InvalidRows_InvalidCrossing) (by decide +kernel),
   exm_of (.inl xaInvalidThread) (.inl xaInvalidCrossing) (exm_mk hbInvalidCrossing hcInvalidCrossing htInvalidCrossing em_InvalidThread_InvalidCrossing) (by decide +kernel),
   exm_of (.inl xaInvalidCrossing) (.inl xaInvalidCrossing) (exm_mk hbInvalidCrossing hcInvalidCrossing htInvalidCrossing em_InvalidCrossing_InvalidCrossing) (by decide +kernel),
   exm_of (.inl xaInvalidRows) (.inl xaInvalidThread) (exm_mk hbInvalidThread hcInvalidThread htInvalidThread em_InvalidRows_InvalidThread) (by decide +kernel),
   exm_of (.inl xaInvalidThread) (.inl xaInvalidThread) (exm_mk hbInvalidThread hcInvalidThread htInvalidThread em_InvalidThread_InvalidThread) (by decide +kernel),
   exm_of (.inl xaInvalidCrossing) (.inl xaInvalidThread) (exm_mk hbInvalidThread hcInvalidThread htInvalidThread em_InvalidCrossing_InvalidThread) (by decide +kernel),
   ⟨ACloth, .inl caCloth, ⟨cpCloth, cdCloth, coCloth, csCloth⟩, fn_Cloth_kept_rows⟩,
   ⟨ACloth, .type "type", _, caCloth, ⟨rdCloth, rgCloth⟩, ⟨cv_Cloth_MOST, ⟨_, rfl⟩⟩⟩,
   ⟨ACloth, fCloth____contains__, .inl caCloth, ⟨sfCloth____contains__, snCloth____contains__, sgCloth____contains__, ssCloth____contains__⟩, ⟨_, fun_mk (st := sCloth____contains__) lCloth____contains__ cCloth____contains__ kCloth____contains__, (fun_mk (st := sCloth____contains__) lCloth____contains__ cCloth____contains__ kCloth____contains__).binds fun _ _ _ _ _ _ us hl => match us, hl with | [_, _], _ => rfl⟩⟩,
   ⟨ACloth, fCloth____getitem__, .inl caCloth, ⟨sfCloth____getitem__, snCloth____getitem__, sgCloth____getitem__, ssCloth____getitem__⟩, ⟨_, fun_mk (st := sCloth____getitem__) lCloth____getitem__ cCloth____getitem__ kCloth____getitem__, (fun_mk (st := sCloth____getitem__) lCloth____getitem__ cCloth____getitem__ kCloth____getitem__).binds fun _ _ _ _ _ _ us hl => match us, hl with | [_, _], _ => rfl⟩⟩,
   ⟨ACloth, fCloth____init__, caCloth, ⟨kiCloth, kfCloth, knCloth, kkCloth⟩, ⟨_, fun_mk (st := sCloth____init__) lCloth____init__ cCloth____init__ kCloth____init__, (fun_mk (st := sCloth____init__) lCloth____init__ cCloth____init__ kCloth____init__).binds fun _ _ _ _ _ _ us hl => match us, hl with | [_, _], _ => rfl⟩⟩,
   ⟨ACloth, fCloth__above, .inl caCloth, ⟨cpCloth, cdCloth, coCloth, csCloth⟩, ⟨mfCloth__above, mnCloth__above, kCloth__above⟩, ⟨_, fun_mk (st := sCloth__above) lCloth__above cCloth__above kCloth__above, (fun_mk (st := sCloth__above) lCloth__above cCloth__above kCloth__above).binds fun _ _ _ _ _ _ us hl => match us, hl with | [_, _], _ => rfl⟩⟩,
   ⟨ACloth, fCloth__below, .inl caCloth, ⟨cpCloth, cdCloth, coCloth, csCloth⟩, ⟨mfCloth__below, mnCloth__below, kCloth__below⟩, ⟨_, fun_mk (st := sCloth__below) lCloth__below cCloth__below kCloth__below, (fun_mk (st := sCloth__below) lCloth__below cCloth__below kCloth__below).binds fun _ _ _ _ _ _ us hl => match us, hl with | [_, _], _ => rfl⟩⟩,
   ⟨ACloth, fCloth__crossed, .inl caCloth, ⟨cpCloth, cdCloth, coCloth, csCloth⟩, ⟨mfCloth__crossed, mnCloth__crossed, kCloth__crossed⟩, ⟨_, fun_mk (st := sCloth__crossed) lCloth__crossed cCloth__crossed kCloth__crossed, (fun_mk (st := sCloth__crossed) lCloth__crossed cCloth__crossed kCloth__crossed).binds fun _ _ _ _ _ _ us hl => match us, hl with | [_, _], _ => rfl⟩⟩,
   ⟨ACloth, fCloth__over, .inl caCloth, ⟨cpCloth, cdCloth, coCloth, csCloth⟩, ⟨mfCloth__over, mnCloth__over, kCloth__over⟩, ⟨_, fun_mk (st := sCloth__over) lCloth__over cCloth__over kCloth__over, (fun_mk (st := sCloth__over) lCloth__over cCloth__over kCloth__over).binds fun _ _ _ _ _ _ us hl => match us, hl with | [_, _, _], _ => rfl⟩⟩,
   ⟨ACloth, fCloth__score, .inl caCloth, ⟨cpCloth, cdCloth, coCloth, csCloth⟩, ⟨mfCloth__score, mnCloth__score, kCloth__score⟩, ⟨_, fun_mk (st := sCloth__score) lCloth__score cCloth__score kCloth__score, (fun_mk (st := sCloth__score) lCloth__score cCloth__score kCloth__score).binds fun _ _ _ _ _ _ us hl => match us, hl with | [_, _], _ => rfl⟩⟩,
   ⟨ACloth, fCloth__score_lists, .inl caCloth, ⟨cpCloth, cdCloth, coCloth, csCloth⟩, ⟨mfCloth__score_lists, mnCloth__score_lists, kCloth__score_lists⟩, ⟨_, fun_mk (st := sCloth__score_lists) lCloth__score_lists cCloth__score_lists kCloth__score_lists, (fun_mk (st := sCloth__score_lists) lCloth__score_lists cCloth__score_lists kCloth__score_lists).binds fun _ _ _ _ _ _ us hl => match us, hl with | [_], _ => rfl⟩⟩,
   ⟨ACloth, fCloth__threads, .inl caCloth, ⟨cpCloth, cdCloth, coCloth, csCloth⟩, ⟨mfCloth__threads, mnCloth__threads, kCloth__threads⟩, ⟨_, fun_mk (st := sCloth__threads) lCloth__threads cCloth__threads kCloth__threads, (fun_mk (st := sCloth__threads) lCloth__threads cCloth__threads kCloth__threads).binds fun _ _ _ _ _ _ us hl => match us, hl with | [_], _ => rfl⟩⟩,
   ⟨ACloth, pCloth__warp_count, fCloth__warp_count, .inl caCloth, ⟨cpCloth, cdCloth, coCloth, csCloth⟩, ⟨pfCloth__warp_count, pgCloth__warp_count, ptCloth__warp_count, ⟨rsCloth__warp_count, prCloth__warp_count⟩⟩, ⟨_, fun_mk (st := sCloth__warp_count) lCloth__warp_count cCloth__warp_count kCloth__warp_count, (fun_mk (st := sCloth__warp_count) lCloth__warp_count cCloth__warp_count kCloth__warp_count).binds fun _ _ _ _ _ _ us hl => match us, hl with | [_], _ => rfl⟩⟩,
   ⟨ACloth, pCloth__weft_count, fCloth__weft_count, .inl caCloth, ⟨cpCloth, cdCloth, coCloth, csCloth⟩, ⟨pfCloth__weft_count, pgCloth__weft_count, ptCloth__weft_count, ⟨rsCloth__weft_count, prCloth__weft_count⟩⟩, ⟨_, fun_mk (st := sCloth__weft_count) lCloth__weft_count cCloth__weft_count kCloth__weft_count, (fun_mk (st := sCloth__weft_count) lCloth__weft_count cCloth__weft_count kCloth__weft_count).binds fun _ _ _ _ _ _ us hl => match us, hl with | [_], _ => rfl⟩⟩,
   ⟨f_law_box, _, PySem.W.mg_of X G a_law_box, fun_mk (st := s_law_box) l_law_box c_law_box k_law_box, (fun_mk (st := s_law_box) l_law_box c_law_box k_law_box).binds fun _ _ _ _ _ _ us hl => match us, hl with | [_], _ => rfl⟩,
   ⟨f_law_cell, _, PySem.W.mg_of X G a_law_cell, fun_mk (st := s_law_cell) l_law_cell c_law_cell k_law_cell, (fun_mk (st := s_law_cell) l_law_cell c_law_cell k_law_cell).binds fun _ _ _ _ _ _ us hl => match us, hl with | [_, _], _ => rfl⟩,
   ⟨f_law_take, _, PySem.W.mg_of X G a_law_take, fun_mk (st := s_law_take) l_law_take c_law_take k_law_take, (fun_mk (st := s_law_take) l_law_take c_law_take k_law_take).binds fun _ _ _ _ _ _ us hl => match us, hl with | [_, _], _ => rfl⟩,
   ⟨f_law_rows, _, PySem.W.mg_of X G a_law_rows, fun_mk (st := s_law_rows) l_law_rows c_law_rows k_law_rows, (fun_mk (st := s_law_rows) l_law_rows c_law_rows k_law_rows).binds fun _ _ _ _ _ _ us hl => match us, hl with | [_], _ => rfl⟩,
   ⟨f_law_threads, _, PySem.W.mg_of X G a_law_threads, fun_mk (st := s_law_threads) l_law_threads c_law_threads k_law_threads, (fun_mk (st := s_law_threads) l_law_threads c_law_threads k_law_threads).binds fun _ _ _ _ _ _ us hl => match us, hl with | [_], _ => rfl⟩,
   ⟨fis_sequence, _, PySem.W.mg_of X G ais_sequence, fun_mk (st := sis_sequence) lis_sequence cis_sequence kis_sequence, (fun_mk (st := sis_sequence) lis_sequence cis_sequence kis_sequence).binds fun _ _ _ _ _ _ us hl => match us, hl with | [_], _ => rfl⟩,
   ⟨fis_pattern, _, PySem.W.mg_of X G ais_pattern, fun_mk (st := sis_pattern) lis_pattern cis_pattern kis_pattern, (fun_mk (st := sis_pattern) lis_pattern cis_pattern kis_pattern).binds fun _ _ _ _ _ _ us hl => match us, hl with | [_, _], _ => rfl⟩,
   ⟨fare_rows, _, PySem.W.mg_of X G aare_rows, fun_mk (st := sare_rows) lare_rows care_rows kare_rows, (fun_mk (st := sare_rows) lare_rows care_rows kare_rows).binds fun _ _ _ _ _ _ us hl => match us, hl with | [_, _], _ => rfl⟩,
   ⟨f_law_lies_over, _, PySem.W.mg_of X G a_law_lies_over, fun_mk (st := s_law_lies_over) l_law_lies_over c_law_lies_over k_law_lies_over, (fun_mk (st := s_law_lies_over) l_law_lies_over c_law_lies_over k_law_lies_over).binds fun _ _ _ _ _ _ us hl => match us, hl with | [_, _, _], _ => rfl⟩,
   ⟨fis_integer, _, PySem.W.mg_of X G ais_integer, fun_mk (st := sis_integer) lis_integer cis_integer kis_integer, (fun_mk (st := sis_integer) lis_integer cis_integer kis_integer).binds fun _ _ _ _ _ _ us hl => match us, hl with | [_, _, _], _ => rfl⟩,
   ⟨fis_thread, _, PySem.W.mg_of X G ais_thread, fun_mk (st := sis_thread) lis_thread cis_thread kis_thread, (fun_mk (st := sis_thread) lis_thread cis_thread kis_thread).binds fun _ _ _ _ _ _ us hl => match us, hl with | [_, _, _], _ => rfl⟩,
   ⟨fcrossing_of, _, PySem.W.mg_of X G acrossing_of, fun_mk (st := scrossing_of) lcrossing_of ccrossing_of kcrossing_of, (fun_mk (st := scrossing_of) lcrossing_of ccrossing_of kcrossing_of).binds fun _ _ _ _ _ _ us hl => match us, hl with | [_, _], _ => rfl⟩,
   ⟨fis_crossing, _, PySem.W.mg_of X G ais_crossing, fun_mk (st := sis_crossing) lis_crossing cis_crossing kis_crossing, (fun_mk (st := sis_crossing) lis_crossing cis_crossing kis_crossing).binds fun _ _ _ _ _ _ us hl => match us, hl with | [_, _, _], _ => rfl⟩,
   ⟨f_law_lists_right, _, PySem.W.mg_of X G a_law_lists_right, fun_mk (st := s_law_lists_right) l_law_lists_right c_law_lists_right k_law_lists_right, (fun_mk (st := s_law_lists_right) l_law_lists_right c_law_lists_right k_law_lists_right).binds fun _ _ _ _ _ _ us hl => match us, hl with | [_, _], _ => rfl⟩,
   ⟨f_law_odd, _, PySem.W.mg_of X G a_law_odd, fun_mk (st := s_law_odd) l_law_odd c_law_odd k_law_odd, (fun_mk (st := s_law_odd) l_law_odd c_law_odd k_law_odd).binds fun _ _ _ _ _ _ us hl => match us, hl with | [_], _ => rfl⟩,
   ⟨f_law_is_thread, _, PySem.W.mg_of X G a_law_is_thread, fun_mk (st := s_law_is_thread) l_law_is_thread c_law_is_thread k_law_is_thread, (fun_mk (st := s_law_is_thread) l_law_is_thread c_law_is_thread k_law_is_thread).binds fun _ _ _ _ _ _ us hl => match us, hl with | [_, _], _ => rfl⟩,
   ⟨f_law_caught, _, PySem.W.mg_of X G a_law_caught, fun_mk (st := s_law_caught) l_law_caught c_law_caught k_law_caught, (fun_mk (st := s_law_caught) l_law_caught c_law_caught k_law_caught).binds fun _ _ _ _ _ _ us hl => match us, hl with | [_], _ => rfl⟩,
   ⟨f_law_pair_right, _, PySem.W.mg_of X G a_law_pair_right, fun_mk (st := s_law_pair_right) l_law_pair_right c_law_pair_right k_law_pair_right, (fun_mk (st := s_law_pair_right) l_law_pair_right c_law_pair_right k_law_pair_right).binds fun _ _ _ _ _ _ us hl => match us, hl with | [_, _, _, _], _ => rfl⟩,
   e_law_pair_right,
   ⟨f_law_one_right, _, PySem.W.mg_of X G a_law_one_right, fun_mk (st := s_law_one_right) l_law_one_right c_law_one_right k_law_one_right, (fun_mk (st := s_law_one_right) l_law_one_right c_law_one_right k_law_one_right).binds fun _ _ _ _ _ _ us hl => match us, hl with | [_, _, _], _ => rfl⟩,
   e_law_one_right,
   ⟨flaw, _, PySem.W.mg_of X G alaw, fun_mk (st := slaw) llaw claw klaw, (fun_mk (st := slaw) llaw claw klaw).binds fun _ _ _ _ _ _ us hl => match us, hl with | [_], _ => rfl⟩⟩
  cases hmg.symm.trans T.flaw.mgf
  refine ⟨T.flaw.fd, fun s u => ?_, fun base _ _ tb => L2.Lw.klaw ⟨T, tb⟩⟩
  obtain ⟨_, _, _, _, _, _, _, _, _, e, _, _⟩ := T.flaw.F.ex
  rw [e]
  exact .of_eq rfl
end L2.Lw

namespace L2.Lw
open PySem PySem.Spec PyProof.Rows L2 L2.Mi
local macro_rules | `(tactic| walk_at "ok0") => `(tactic| first
  | with_reducible refine os_seq ?_ | with_reducible refine os_set ?_ | with_reducible refine os_ret ?_ | with_reducible refine os_asg ?_ | with_reducible refine os_par ?_ | with_reducible refine os_for ?_
  | with_reducible refine os_expr ?_ | with_reducible refine os_nil ?_ | with_reducible refine os_retn ?_ | with_reducible refine os_brk ?_ | with_reducible refine os_cnt ?_
  | with_reducible refine ok_op ?_ | (with_reducible refine ok_var ?_ ?_; (focus rfl)) | with_reducible refine ok_c ?_ | with_reducible refine ok_un ?_ | with_reducible refine ok_cb ?_ | with_reducible refine ok_anil ?_ | with_reducible refine ok_acons ?_
  | with_reducible refine ok_lst ?_ | with_reducible refine ok_tup ?_ | with_reducible refine ok_lstM ?_ | with_reducible refine ok_dict1 ?_
  | with_reducible refine ok_and ?_ | with_reducible refine ok_or ?_ | with_reducible refine ok_not ?_ | with_reducible refine ok_chain ?_ | with_reducible refine ok_t ?_ | with_reducible refine ok_tnot ?_ | with_reducible refine ok_tand ?_
  | with_reducible refine ok_tor ?_ | with_reducible refine ok_if ?_ | with_reducible refine ok_onone ?_ | with_reducible refine ok_osome ?_ | with_reducible refine ok_slice ?_ | with_reducible refine ok_m1 ?_
  | with_reducible refine ok_bm ?_ | with_reducible refine ok_gs ?_ | with_reducible refine ok_cbd ?_ | with_reducible refine ok_cbk ?_ | with_reducible refine os_ifNm ?_ | with_reducible refine ok_frz ?_ | with_reducible refine ok_itup ?_ | with_reducible refine ok_istr ?_ | with_reducible refine ok_r1 ?_ | with_reducible refine ok_r2 ?_ | with_reducible refine ok_il ?_ | with_reducible refine ok_gn ?_ | with_reducible refine ok_lc ?_
  | refine And.intro (Nat.le_of_ble_eq_true rfl) ?_ | refine Exists.intro _ (And.intro rfl ?_) | refine And.intro (fun _ => ?_) (fun hk => Bool.noConfusion hk) | refine And.intro (fun hk => Bool.noConfusion hk) (fun _ => ?_)
  | ((fail_if_success (with_reducible refine Ok.fun ?_ ?_)); refine ok_ret ?_))
local macro_rules | `(tactic| walk_at "ok1") => `(tactic| first | with_reducible refine os_if ?_ | with_reducible refine os_fcons ?_ | with_reducible refine os_fnil ?_ | walk_at "ok0")
local macro_rules | `(tactic| walk_at "okn") => `(tactic| repeat (walk_at "ok0"))
local macro_rules | `(tactic| walk_at "ok") => `(tactic| repeat (walk_at "ok1"))
local macro_rules | `(tactic| walk_at "nolp") => `(tactic| (fail_if_success (with_reducible refine at_lc ?_); fail_if_success (with_reducible refine at_lcW ?_); fail_if_success (with_reducible refine at_for ?_); fail_if_success (with_reducible refine at_forW ?_); fail_if_success (with_reducible refine at_mul ?_); fail_if_success (with_reducible refine at_mod ?_); fail_if_success (with_reducible refine at_div ?_); fail_if_success (with_reducible refine at_pow ?_)))
local macro_rules | `(tactic| walk_at "ok3") => `(tactic| first
  | with_reducible refine os_seq ?_ | with_reducible refine os_set ?_ | with_reducible refine os_ret ?_ | with_reducible refine os_asg ?_ | with_reducible refine os_par ?_ 
  | with_reducible refine os_expr ?_ | with_reducible refine os_nil ?_ | with_reducible refine os_retn ?_ | with_reducible refine os_brk ?_ | with_reducible refine os_cnt ?_
  | with_reducible refine ok_op ?_ | (with_reducible refine ok_var ?_ ?_; (focus rfl)) | with_reducible refine ok_c ?_ | with_reducible refine ok_un ?_ | with_reducible refine ok_cb ?_ | with_reducible refine ok_anil ?_ | with_reducible refine ok_acons ?_
  | with_reducible refine ok_lst ?_ | with_reducible refine ok_tup ?_ | with_reducible refine ok_lstM ?_ | with_reducible refine ok_dict1 ?_
  | with_reducible refine ok_and ?_ | with_reducible refine ok_or ?_ | with_reducible refine ok_not ?_ | with_reducible refine ok_chain ?_ | with_reducible refine ok_t ?_ | with_reducible refine ok_tnot ?_ | with_reducible refine ok_tand ?_
  | with_reducible refine ok_tor ?_ | with_reducible refine ok_if ?_ | with_reducible refine ok_onone ?_ | with_reducible refine ok_osome ?_ | with_reducible refine ok_slice ?_ | with_reducible refine ok_m1 ?_
  | with_reducible refine ok_bm ?_ | with_reducible refine ok_gs ?_ | with_reducible refine ok_cbd ?_ | with_reducible refine ok_cbk ?_ | with_reducible refine os_ifNm ?_ | with_reducible refine ok_frz ?_ | with_reducible refine ok_gn ?_ 
  | refine And.intro (Nat.le_of_ble_eq_true rfl) ?_ | (walk_at "nolp"; refine Exists.intro _ (And.intro rfl ?_)) | refine And.intro (fun _ => ?_) (fun hk => Bool.noConfusion hk) | refine And.intro (fun hk => Bool.noConfusion hk) (fun _ => ?_)
  | (walk_at "nolp"; (fail_if_success (with_reducible refine Ok.fun ?_ ?_)); refine ok_ret ?_))
local macro_rules | `(tactic| walk_at "okm") => `(tactic| repeat (first | with_reducible refine os_if ?_ | walk_at "ok3"))

theorem ok_eq {α : Type} {r : Mi.R α} {x : α} {c : Cs} (h : Ok r fun d c' => d = x ∧ c' = c) : r = .ok x c := by
  obtain ⟨d, c', e, rfl, rfl⟩ := h
  exact e
structure ElV (x : D) (c : Cs) : Prop where
  ex : ∃ t, tyD x c = some t ∧ (t = "str" → ∃ s, x = .str s ∧ s.length ≤ 5000)
structure SeqV (v : D) (c : Cs) (xs : List D) : Prop where
  sq : seqOf v c = some xs
  ty : tyD v c = some "list" ∨ tyD v c = some "tuple"
  ln : xs.length ≤ 10000
  el : ∀ x ∈ xs, ElV x c
  nr : ∀ ys, v ≠ .ro ys
theorem len_seq {v : D} {c : Cs} {xs : List D} (h : seqOf v c = some xs) : lenD [v] c = .ok (.int xs.length) c := by
  cases v with
  | lst ys => cases h; rfl
  | tup ys => cases h; rfl
  | ro ys => cases h; rfl
  | ref k =>
    have h : (match c[k]? with
      | some (.lst xs) => some xs
      | _ => none) = some xs := h
    cases q : c[k]? with
    | none => rw [q] at h; cases h
    | some y =>
      rw [q] at h
      cases y with
      | lst ys => cases h; simp [lenD, lenC, q]
      | _ => cases h
  | _ => cases h
theorem item_seq {v : D} {c : Cs} {xs : List D} {i : Nat} {x : D} (h : seqOf v c = some xs) (hx : xs[i]? = some x) : itemD v (.int (i : Nat)) c = .ok x c := by
  have hl := (List.getElem?_eq_some_iff.mp hx).1
  have e : ∀ ys : List D, ys = xs → itL ys (i : Nat) c = .ok x c := fun ys e => by subst e; simp [itL, atI, ixN, hl, hx]; exact (List.getElem?_eq_some_iff.mp hx).2
  cases v with
  | lst ys => cases h; exact e _ rfl
  | tup ys => cases h; exact e _ rfl
  | ro ys => cases h; exact e _ rfl
  | ref k =>
    have h : (match c[k]? with
      | some (.lst xs) => some xs
      | _ => none) = some xs := h
    cases q : c[k]? with
    | none => rw [q] at h; cases h
    | some y =>
      rw [q] at h
      cases y with
      | lst ys =>
        cases h
        simp only [itemD, q]
        exact e _ rfl
      | _ => cases h
  | _ => cases h
theorem isi_str {x : D} {c : Cs} {t : String} (h : tyD x c = some t) : isiD [x, .ty "str"] c = .ok (.bl (isT t "str")) c := by simp [isiD, h, tyNames]
theorem isT_str {t : String} (h : t ∈ tyNames) : isT t "str" = (t == "str") := by
  simp only [tyNames, List.mem_cons, List.not_mem_nil, or_false] at h
  rcases h with rfl | rfl | rfl | rfl | rfl | rfl | rfl <;> decide
theorem isi_seq {x : D} {c : Cs} {t : String} (h : tyD x c = some t) : isiD [x, .tup [.ty "list", .ty "tuple"]] c = .ok (.bl (t == "list" || t == "tuple")) c := by
  have hm := tyD_mem h
  have e : isiD [x, .tup [.ty "list", .ty "tuple"]] c = .ok (.bl (isiAny t ["list", "tuple"])) c := by simp [isiD, h, clsL, tyNames]
  rw [e]
  simp only [tyNames, List.mem_cons, List.not_mem_nil, or_false] at hm
  rcases hm with rfl | rfl | rfl | rfl | rfl | rfl | rfl <;> rfl
def bitB (k : Nat) : Bool := k == 48 || k == 49
def rowB (n : Int) (d : D) : Bool := match d with
  | .str s => decide ((s.length : Int) = n) && s.cps.toList.all bitB
  | _ => false
theorem in_dec (k : Nat) : (decide (k ∈ ("01" : Str).cps.toList)) = bitB k := by
  have : ("01" : Str).cps.toList = [48, 49] := by decide +kernel
  rw [this]
  simp [bitB, Bool.decide_or]
  rfl
theorem bls_map {α : Type} (f : α → Bool) : ∀ xs : List α, blsOf (xs.map fun x => D.bl (f x)) = some (xs.map f)
  | [] => rfl
  | x :: xs => by simp [blsOf, bls_map f xs]
theorem all_bls {α : Type} (f : α → Bool) (xs : List α) (c : Cs) : allD [.lst (xs.map fun x => D.bl (f x))] c = .ok (.bl (xs.all f)) c := by
  have e : allD [.lst (xs.map fun x => D.bl (f x))] c = .ok (.bl ((xs.map f).all id)) c := by simp [allD, on1, allP, bls_map]
  rw [e, List.all_map]
  rfl
theorem filter_yes {α : Type} (xs : List α) : xs.filter (fun _ => true) = xs := List.filter_eq_self.mpr fun _ _ => rfl
theorem pattern_eq {d : D} {n : Int} {c : Cs} (h : ElV d c) : gis_pattern [d, .int n] c = .ok (.bl (rowB n d)) c := by
  obtain ⟨t, ht, hs⟩ := h.ex
  have hz : sizeLine = 16777216 := sizeLine_eq
  refine ok_eq (Ok.fun rfl ?_)
  unfold cis_pattern
  walk_at "ok"
  refine Ok.of (isi_str ht) ?_
  rw [isT_str (tyD_mem ht)]
  refine ⟨_, rfl, fun q => ?_, fun q => ?_⟩
  · obtain ⟨s, rfl, hl⟩ := hs (eq_of_beq q)
    walk_at "ok"
    refine ok_len_str (by omega) ?_
    walk_at "ok"
    refine ⟨fun q => ?_, fun q => ?_⟩
    · walk_at "ok"
      refine Ok.of (lcW_pure (w := fixW (chrs s)) (xs := chrs s) (P := fun _ => true) (F := fun x => match x with | .str ⟨a⟩ => .bl (a.toList.all bitB) | _ => .bl false) (lt := fun x => (wipeL [some (.str s), some (.int n), none] [2]).set 2 (some x)) rfl (fun _ => rfl) ?_ ?_) ?_
      · simp only [chrs, List.length_map, Array.length_toList]; have : s.cps.size = s.length := rfl; omega
      · intro x hx
        obtain ⟨k, hk, rfl⟩ := List.mem_map.mp hx
        refine ⟨rfl, rfl, fun _ => ?_⟩
        refine ok_eq ?_
        walk_at "ok"
        refine ⟨?_, rfl⟩
        show D.bl (decide (k ∈ ("01" : Str).cps.toList)) = D.bl ([k].all bitB)
        rw [in_dec]
        simp
      · walk_at "ok"
        have e : ((chrs s).filter fun _ => true).map (fun x => match x with | .str ⟨a⟩ => D.bl (a.toList.all bitB) | _ => .bl false) = s.cps.toList.map fun k => D.bl (bitB k) := by
          rw [filter_yes]
          unfold chrs
          rw [List.map_map]
          refine List.map_congr_left fun k _ => ?_
          simp [Function.comp]
        rw [e]
        refine Ok.of (all_bls bitB _ c) ?_
        simp only [rowB, q, Bool.true_and]
        exact ⟨trivial, trivial⟩
    · refine ⟨?_, rfl⟩
      simp only [rowB, q, Bool.false_and]
  · refine ⟨?_, rfl⟩
    have : ∀ s, d ≠ .str s := fun s e => by
      subst e
      cases ht
      cases q
    cases d <;> first | rfl | exact absurd rfl (this _)
def isRows (xs : List D) : Bool := decide (1 ≤ xs.length) && decide (xs.length ≤ 8) && (match xs with
  | .str s :: _ => decide (1 ≤ s.length) && decide (s.length ≤ 8) && xs.all (rowB s.length)
  | _ => false)

theorem is_sequence_eq {v : D} {c : Cs} {t : String} (h : tyD v c = some t) : gis_sequence [v] c = .ok (.bl (t == "list" || t == "tuple")) c := by
  refine ok_eq (Ok.fun rfl ?_)
  unfold cis_sequence
  walk_at "ok"
  refine Ok.of (isi_seq h) ?_
  exact ⟨rfl, rfl⟩
theorem SeqV.tt {v : D} {c : Cs} {xs : List D} (h : SeqV v c xs) : ∃ t, tyD v c = some t ∧ (t == "list" || t == "tuple") = true := by
  rcases h.ty with e | e
  · exact ⟨_, e, rfl⟩
  · exact ⟨_, e, rfl⟩
theorem are_rows_seq {v : D} {c : Cs} {xs : List D} (h : SeqV v c xs) : gare_rows [v, .int 8] c = .ok (.bl (isRows xs)) c := by
  have hz : sizeLine = 16777216 := sizeLine_eq
  obtain ⟨t, ht, htt⟩ := h.tt
  refine ok_eq (Ok.fun rfl ?_)
  unfold care_rows
  walk_at "ok"
  refine Ok.of (is_sequence_eq ht) ?_
  rw [htt]
  walk_at "ok"
  refine Ok.of (len_seq h.sq) ?_
  walk_at "ok"
  refine ⟨fun q1 => ?_, fun q1 => ?_⟩
  · have q1 := of_decide_eq_true q1
    walk_at "ok"
    refine ⟨fun q2 => ?_, fun q2 => ?_⟩
    · have q2 : ¬ ((xs.length : Int) ≤ 8) := by simpa using q2
      walk_at "ok"
      refine ⟨?_, rfl⟩
      have : decide (xs.length ≤ 8) = false := decide_eq_false (by omega)
      simp [isRows, this]
    · have q2 : (xs.length : Int) ≤ 8 := by simpa using q2
      cases xs with
      | nil => simp at q1
      | cons x r =>
        have hx := h.el x List.mem_cons_self
        obtain ⟨t2, ht2, hs2⟩ := hx.ex
        have i0 := item_seq (i := 0) h.sq rfl
        walk_at "ok"
        refine Ok.of i0 ?_
        walk_at "ok"
        refine Ok.of (isi_str ht2) ?_
        rw [isT_str (tyD_mem ht2)]
        by_cases hstr : t2 = "str"
        · obtain ⟨s, rfl, hsl⟩ := hs2 hstr
          subst hstr
          rw [show (("str" : String) == "str") = true from rfl]
          walk_at "ok"
          refine Ok.of i0 ?_
          walk_at "ok"
          refine ok_len_str (by omega) ?_
          walk_at "ok"
          have d1 : decide (1 ≤ (D.str s :: r).length) = true := by simp
          have d2 : decide ((D.str s :: r).length ≤ 8) = true := decide_eq_true (by omega)
          refine ⟨fun q3 => ?_, fun q3 => ?_⟩
          · have q3 := of_decide_eq_true q3
            walk_at "ok"
            refine ⟨fun q4 => ?_, fun q4 => ?_⟩
            · have q4 : ¬ ((s.length : Int) ≤ 8) := by simpa using q4
              walk_at "ok"
              refine ⟨?_, rfl⟩
              have e4 : decide (s.length ≤ 8) = false := decide_eq_false (by omega)
              simp [isRows, e4]
            · have q4 : (s.length : Int) ≤ 8 := by simpa using q4
              obtain ⟨w, hw1, hw2⟩ := wAny_seq h.sq
              walk_at "ok"
              refine Ok.of (lcW_pure (w := w) (xs := D.str s :: r) (P := fun _ => true) (F := fun y => .bl (rowB s.length y)) (lt := fun y => (wipeL [some v, some (.int 8), none] [2]).set 2 (some y)) hw1 hw2 (by have := h.ln; omega) (fun y hy => ⟨rfl, rfl, fun _ => ?_⟩)) ?_
              · refine ok_eq ?_
                walk_at "ok"
                refine Ok.of i0 ?_
                walk_at "ok"
                refine ok_len_str (by omega) ?_
                walk_at "ok"
                refine Ok.of (pattern_eq (h.el y hy)) ?_
                exact ⟨rfl, rfl⟩
              · rw [filter_yes]
                walk_at "ok"
                refine Ok.of (all_bls _ _ c) ?_
                refine ⟨?_, rfl⟩
                have e3 : decide (1 ≤ s.length) = true := decide_eq_true (by omega)
                have e4 : decide (s.length ≤ 8) = true := decide_eq_true (by omega)
                simp only [isRows, d1, d2, e3, e4, Bool.true_and]
          · have q3 := of_decide_eq_false q3
            walk_at "ok"
            refine ⟨?_, rfl⟩
            have e3 : decide (1 ≤ s.length) = false := decide_eq_false (by omega)
            simp [isRows, e3]
        · rw [show (t2 == "str") = false from beq_eq_false_iff_ne.mpr hstr]
          walk_at "ok"
          refine ⟨?_, rfl⟩
          have : ∀ s, x ≠ .str s := fun s e => by
            subst e
            cases ht2
            exact hstr rfl
          cases x <;> first | rfl | exact absurd rfl (this _) | (simp [isRows])
  · have q1 := of_decide_eq_false q1
    walk_at "ok"
    refine ⟨?_, rfl⟩
    have : decide (1 ≤ xs.length) = false := decide_eq_false (by omega)
    simp [isRows, this]

def flat (ys : List Str) : List Nat := (ys.map fun y => y.cps.toList).flatten
theorem len_cps (s : Str) : s.cps.toList.length = s.length := Array.length_toList
theorem sum_le8 : ∀ ys : List Str, (∀ y ∈ ys, y.length ≤ 8) → (ys.map (·.length)).sum ≤ 8 * ys.length
  | [], _ => by simp
  | y :: ys, h => by
    have a1 := sum_le8 ys fun z hz => h z (List.mem_cons_of_mem _ hz)
    have a2 := h y List.mem_cons_self
    simp only [List.map_cons, List.sum_cons, List.length_cons]
    omega
theorem isRows_mk {y0 : Str} {yr : List Str} (h1 : (y0 :: yr).length ≤ 8) (h2 : ∀ y ∈ y0 :: yr, y.length = y0.length ∧ y.cps.toList.all bitB = true) (h3 : 1 ≤ y0.length) (h4 : y0.length ≤ 8) : isRows ((y0 :: yr).map D.str) = true := by
  have e1 : decide (1 ≤ ((y0 :: yr).map D.str).length) = true := by simp
  have e2 : decide (((y0 :: yr).map D.str).length ≤ 8) = true := decide_eq_true (by rw [List.length_map]; exact h1)
  have e5 : ((y0 :: yr).map D.str).all (rowB y0.length) = true := by
    refine List.all_eq_true.mpr fun x hx => ?_
    obtain ⟨y, hy, rfl⟩ := List.mem_map.mp hx
    obtain ⟨a, b⟩ := h2 y hy
    show (decide ((y.length : Int) = y0.length) && y.cps.toList.all bitB) = true
    rw [b, decide_eq_true (by rw [a])]
    rfl
  show (decide (1 ≤ ((y0 :: yr).map D.str).length) && decide (((y0 :: yr).map D.str).length ≤ 8) && (decide (1 ≤ y0.length) && decide (y0.length ≤ 8) && ((y0 :: yr).map D.str).all (rowB y0.length))) = true
  rw [e1, e2, e5, decide_eq_true h3, decide_eq_true h4]
  rfl

theorem tyD_app {x : D} {c : Cs} {t : String} (h : tyD x c = some t) (y : Cs) : tyD x (c ++ y) = some t := by
  cases x with
  | ref k =>
    simp only [tyD] at h ⊢
    cases q : c[k]? with
    | none => rw [q] at h; cases h
    | some z =>
      rw [List.getElem?_append_left (List.getElem?_eq_some_iff.mp q).1, q]
      rw [q] at h
      exact h
  | _ => exact h
theorem SeqV.app {v : D} {c : Cs} {xs : List D} (h : SeqV v c xs) (y : Cs) : SeqV v (c ++ y) xs := by
  refine ⟨?_, h.ty.imp (tyD_app · y) (tyD_app · y), h.ln, fun x hx => ?_, h.nr⟩
  · have hq := h.sq
    cases v with
    | ref k =>
      simp only [seqOf] at hq ⊢
      cases q : c[k]? with
      | none => rw [q] at hq; cases hq
      | some z =>
        rw [List.getElem?_append_left (List.getElem?_eq_some_iff.mp q).1, q]
        rw [q] at hq
        exact hq
    | _ => exact hq
  · obtain ⟨t, ht, hs⟩ := (h.el x hx).ex
    exact ⟨t, tyD_app ht y, hs⟩
theorem init_ok {k : Nat} {v : D} {c : Cs} {xs : List D} (h : gare_rows [v, .int 8] c = .ok (.bl true) c) (hs : seqOf v c = some xs) (hk : c[k]? = some (.ins "Cloth" [])) : gCloth____init__ [.ref k, v] c = .ok .non (c.set k (.ins "Cloth" [("kept_rows", .lst xs)])) := by
  have e : listD [v] c = .ok (.lst xs) c := by simp [listD, on1, listP, hs]
  unfold gCloth____init__ mFun cCloth____init__
  generalize gare_rows = F at h ⊢
  simp [sSeq, sIf, tNotM, mT, mCB, aCons, aNil, mVar, mC, h, sNil, sFldM, e, fldS, hk, putFD]
theorem cell_last {c : Cs} (x : Cell) : (c ++ [x])[c.length]? = some x := by rw [List.getElem?_append_right (Nat.le_refl _), Nat.sub_self]; rfl
theorem set_last {c : Cs} (x y : Cell) : (c ++ [x]).set c.length y = c ++ [y] := by
  induction c with
  | nil => rfl
  | cons a c ih => simp [ih]
theorem make_ok {v : D} {c : Cs} {xs : List D} (h : SeqV v c xs) (hr : isRows xs = true) : mkR "Cloth" gCloth____init__ [v] c = .ok (.ref c.length) (c ++ [.ins "Cloth" [("kept_rows", .lst xs)]]) := by
  have h2 := h.app [.ins "Cloth" []]
  have e := init_ok (k := c.length) (by rw [are_rows_seq h2, hr]) h2.sq (cell_last _)
  unfold mkR
  rw [e, set_last]
  rfl

/-! ### the draws -/
theorem take_big (c : Cs) (k : Nat) (a b z many : Int) (hc : c[k]? = some (.lst [.int a, .int b, .int z])) (ha : 0 < a) (hm : 0 < many) (hm2 : many ≤ 1000000) :
    g_law_take [.ref k, .int many] c = .ok (.int (a.fmod many)) (c.set k (.lst [.int (a.fdiv many), .int b, .int z])) := by
  have h1 : many ≠ 0 := by omega
  have h2 : many.natAbs < 1073741824 := by omega
  simp [g_law_take, mFun, c_law_take, sSeq, sIf, mT, mOp, mVar, mC, itemD, hc, itL, atI, ixN, gtD, cmpI, ha, sSet, modI, divI, intC, CNz, CDivN, sRet, sAsg, gS, putD, h1, h2]
theorem take_hash (c : Cs) (k : Nat) (a b z many : Int) (hc : c[k]? = some (.lst [.int a, .int b, .int z])) (ha : ¬ 0 < a) (hm : 0 < many) (hm2 : many ≤ 1000000) (hb : 0 ≤ b) (hb2 : b < 2147483629) (hz : 0 ≤ z) (hz2 : z ≤ 1000000) :
    ∃ d : Int, 0 ≤ d ∧ d < many ∧ g_law_take [.ref k, .int many] c = .ok (.int d) (c.set k (.lst [.int a, .int b, .int (z + 1)])) := by
  have h1 : many ≠ 0 := by omega
  have hs : ∀ x, (c.set k x)[k]? = some x := fun x => by rw [List.getElem?_set_self (List.getElem?_eq_some_iff.mp hc).1]
  have h3 : (b + 7907 * (z + 1) + 613).natAbs < 18446744073709551616 := by omega
  refine ⟨(((((b + 7907 * (z + 1) + 613) ^ 5).fmod 2147483647 + 104723 * (z + 1)) ^ 3).fmod 2147483587).fdiv 16 |>.fmod many, Int.fmod_nonneg_of_pos _ hm, Int.fmod_lt_of_pos _ hm, ?_⟩
  have h5 : 0 ≤ ((b + 7907 * (z + 1) + 613) ^ 5).fmod 2147483647 := Int.fmod_nonneg_of_pos _ (by decide)
  have h6 : ((b + 7907 * (z + 1) + 613) ^ 5).fmod 2147483647 < 2147483647 := Int.fmod_lt_of_pos _ (by decide)
  generalize e : ((b + 7907 * (z + 1) + 613) ^ 5).fmod 2147483647 = y at h5 h6 ⊢
  have h4 : (y + 104723 * (z + 1)).natAbs < 18446744073709551616 := by omega
  simp [g_law_take, mFun, c_law_take, sSeq, sIf, mT, mOp, mVar, mC, itemD, hc, itL, atI, ixN, gtD, cmpI, ha, sSet, modI, divI, intC, CNz, CDivN, sRet, sAsg, gS, putD, h1, addD, mulI, powI, CMul, CPow, h3, h4, e, sNil, hs, -List.getElem?_set_self]
/-- a draw changes the box alone -/
theorem take_ok {c : Cs} {k : Nat} {n many : Int} {Q : D → Cs → Prop} (h : Bx c k n) (hn : n ≤ 1000000) (hm : 0 < many) (hm2 : many ≤ 1000000)
    (q : ∀ (i : Int) (c' : Cs), 0 ≤ i → i < many → Bx c' k (n + 1) → c'.length = c.length → (∀ j, j ≠ k → c'[j]? = c[j]?) → Q (.int i) c') : Ok (g_law_take [.ref k, .int many] c) Q := by
  obtain ⟨a, b, z, hc, ha, hb, hb2, hz, hz2⟩ := h
  have hk := (List.getElem?_eq_some_iff.mp hc).1
  have fin : ∀ x : Cell, (c.set k x).length = c.length ∧ ∀ j, j ≠ k → (c.set k x)[j]? = c[j]? := fun x => ⟨by simp, fun j hj => by rw [List.getElem?_set_ne (Ne.symm hj)]⟩
  by_cases h0 : 0 < a
  · exact ⟨_, _, take_big c k a b z many hc h0 hm hm2, q _ _ (Int.fmod_nonneg_of_pos _ hm) (Int.fmod_lt_of_pos _ hm) ⟨a.fdiv many, b, z, by rw [List.getElem?_set_self hk], by rw [Int.fdiv_eq_ediv_of_nonneg _ (Int.le_of_lt hm)]; exact Int.ediv_nonneg ha (Int.le_of_lt hm), hb, hb2, hz, by omega⟩ (fin _).1 (fin _).2⟩
  · obtain ⟨d, hd, hd2, e⟩ := take_hash c k a b z many hc h0 hm hm2 hb hb2 hz (by omega)
    exact ⟨_, _, e, q _ _ hd hd2 ⟨a, b, z + 1, by rw [List.getElem?_set_self hk], ha, hb, hb2, by omega, by omega⟩ (fin _).1 (fin _).2⟩
theorem bx_mono {c : Cs} {k : Nat} {n n' : Int} (h : Bx c k n) (hn : n ≤ n') : Bx c k n' := by
  obtain ⟨a, b, z, hc, ha, hb, hb2, hz, hz2⟩ := h
  exact ⟨a, b, z, hc, ha, hb, hb2, hz, by omega⟩
theorem cell_ok {ns : List Int} {i : Nat} {c : Cs} {Q : D → Cs → Prop} (hl : ns.length ≤ 63) (hi : i ≤ 1000) (q : ∀ v : Int, Q (.int v) c) : Ok (g_law_cell [.ro (ns.map D.int), .int i] c) Q := by
  refine Ok.fun rfl ?_
  refine os_seq (os_if (ok_t (ok_op (ok_var rfl (ok_cb (ok_acons (ok_var rfl (ok_anil ⟨_, _, rfl, ⟨_, _, rfl, ⟨_, rfl, fun h => ?_, fun h => ?_⟩⟩⟩))))))))
  · refine os_ret (ok_op (ok_var rfl (ok_var rfl ?_)))
    have hi : i < ns.length := by simpa using h
    refine ⟨.int ns[i], c, ?_, q _⟩
    simp [itemD, itL, atI, ixN, hi]
  · refine os_nil (os_ret (ok_op (ok_op (ok_c (ok_var rfl ?_)))))
    exact ok_intC (Or.inl ⟨by decide, by decide⟩) (ok_c ⟨_, _, rfl, q _⟩)
theorem box_ok {v : Int} {c : Cs} {Q : D → Cs → Prop} (q : ∀ c', Bx c' c.length 0 → c'.length = c.length + 1 → (∀ j, j ≠ c.length → c'[j]? = c[j]?) → Q (.ref c.length) c') : Ok (g_law_box [.int v] c) Q := by
  refine Ok.fun rfl ?_
  refine os_ret (ok_lstM (ok_acons (ok_cb (ok_acons (ok_c (ok_acons (ok_op (ok_var rfl (ok_op (ok_c (ok_c ?_)))) ) ) ) ) ) ) )
  refine ok_intC ⟨by decide, by decide, by decide⟩ ⟨_, _, rfl, ok_anil ⟨_, _, rfl, ok_acons (ok_op (ok_var rfl (ok_c (ok_intC (show (2147483629 : Int) ≠ 0 by decide) (ok_acons (ok_c (ok_anil ⟨Nat.le_of_ble_eq_true rfl, ?_⟩)))))))⟩⟩
  refine q _ ⟨_, _, _, by rw [List.getElem?_append_right (Nat.le_refl _), Nat.sub_self]; rfl, ?_, Int.fmod_nonneg_of_pos _ (by decide), Int.fmod_lt_of_pos _ (by decide), Int.le_refl _, Int.le_refl _⟩ (by simp) fun j hj => ?_
  · dsimp only
    split <;> omega
  · rcases Nat.lt_or_ge j c.length with h | h
    · rw [List.getElem?_append_left h]
    · rw [List.getElem?_eq_none (by simp; omega), List.getElem?_eq_none (by omega)]

def bitS (s : Str) : Prop := s.cps.toList.all bitB = true
def Rows (rs : List D) : Prop := ∃ y0 yr, rs = (y0 :: yr).map D.str ∧ (y0 :: yr).length ≤ 8 ∧ (∀ y ∈ y0 :: yr, y.length = y0.length ∧ bitS y) ∧ 1 ≤ y0.length ∧ y0.length ≤ 8
theorem Rows.is {rs : List D} (h : Rows rs) : isRows rs = true := by
  obtain ⟨y0, yr, rfl, h1, h2, h3, h4⟩ := h
  exact isRows_mk h1 h2 h3 h4
/-- n draws below many -/
theorem draws_ok {l : Ls} {c : Cs} {k j : Nat} {n : Int} {a : ME} {m : Nat} {js : Int} {Q : List D → Cs → Prop} (hm : m ≤ 8) (hn : n ≤ 900000) (hjs : 1 ≤ js ∧ js ≤ 100) (hb : Bx c k n)
    (ha : ∀ (d : D) (c' : Cs) (Q : D → Cs → Prop), Q (.int js) c' → Ok (a ((wipeL l [j]).set j (some d)) c') Q) (hv : ∀ (d : D), ((wipeL l [j]).set j (some d))[0]? = some (some (.ref k)))
    (q : ∀ (zs : List Int) (c' : Cs), zs.length = m → Bx c' k (n + m) → c'.length = c.length → (∀ i, i ≠ k → c'[i]? = c[i]?) → Q (zs.map D.int) c') :
    Ok (compD (gN j) tYesM (mCB g_law_take (aCons (mVar 0) (aCons a (aNil)))) (wipeL l [j]) (rangeL 0 m) [] c) Q := by
  have hz : sizeLine = 16777216 := sizeLine_eq
  refine comp_ok (fun ds acc c' => ∃ zs : List Int, acc = zs.map D.int ∧ zs.length + ds.length = m ∧ Bx c' k (n + zs.length) ∧ c'.length = c.length ∧ ∀ i, i ≠ k → c'[i]? = c[i]?) ?_ ?_ _ _ _ ⟨[], rfl, by simp [rangeL_len], by simpa using hb, rfl, fun _ _ => rfl⟩
  · rintro acc c' ⟨zs, rfl, hl, b, h1, h2⟩
    simp only [List.length_nil, Nat.add_zero] at hl
    exact q zs c' hl (hl ▸ b) h1 h2
  · rintro d ds acc c' ⟨zs, rfl, hl, b, h1, h2⟩
    simp only [List.length_cons] at hl
    refine ok_gn (ok_ret ?_)
    refine ok_cb (ok_acons (ok_var (hv d) (ok_acons (ha d _ _ (ok_anil ?_)))))
    refine take_ok b (by omega) (by omega) (by omega) fun i c2 g0 g1 b2 l2 f2 => ?_
    exact ⟨by simp; omega, zs ++ [i], by simp, by simp; omega, by simpa [Int.add_assoc] using b2, by omega, fun i hi => by rw [f2 i hi, h2 i hi]⟩
theorem item_ints {xs : List Int} {c : Cs} {i : Int} {Q : D → Cs → Prop} (h0 : 0 ≤ i) (h : i < xs.length) (q : ∀ z ∈ xs, Q (.int z) c) : Ok (itemD (.lst (xs.map D.int)) (.int i) c) Q :=
  ok_item_mem h0 (by simpa using h) fun d hd => by
    obtain ⟨z, hz, rfl⟩ := List.mem_map.mp hd
    exact q z hz
theorem str_bit (b : Bool) (c : Cs) : strFD [.int (if b = true then 1 else 0)] c = .ok (.str ⟨#[if b = true then 49 else 48]⟩) c := by
  cases b <;> first | rfl | kernel_rfl
theorem rows_ok {c : Cs} {k : Nat} {n : Int} {Q : D → Cs → Prop} (hb : Bx c k n) (hn : n ≤ 800000)
    (q : ∀ (rs : List D) (c' : Cs), Rows rs → Bx c' k (n + 100) → c.length ≤ c'.length → (∀ j, j ≠ k → j < c.length → c'[j]? = c[j]?) → Q (.lst rs) c') : Ok (g_law_rows [.ref k] c) Q := by
  have hz : sizeLine = 16777216 := sizeLine_eq
  have hk := bx_lt hb
  refine Ok.fun rfl ?_
  unfold c_law_rows
  walk_at "ok"
  refine take_ok hb (by omega) (by decide) (by decide) fun w0 c1 h0 h1 b1 l1 f1 => ?_
  walk_at "ok"
  refine take_ok b1 (by omega) (by decide) (by decide) fun t0 c2 g0 g1 b2 l2 f2 => ?_
  walk_at "ok"
  refine take_ok b2 (by omega) (by decide) (by decide) fun i3 c3 e0 e1 b3 l3 f3 => ?_
  refine item_ints (xs := [1, 2, 3, 5]) e0 e1 fun many hmany => ?_
  have hmany : 1 ≤ many ∧ many ≤ 100 := by
    simp only [List.mem_cons, List.not_mem_nil, or_false] at hmany
    rcases hmany with rfl | rfl | rfl | rfl <;> decide
  walk_at "ok"
  refine ⟨⟨by omega, by omega⟩, ?_⟩
  refine draws_ok (k := k) (j := 10) (js := many) (a := mVar 4) (by omega) (by omega) hmany b3 (fun d c' Q q => ok_var rfl q) (fun d => rfl) fun up c4 hup b4 l4 f4 => ?_
  walk_at "ok"
  refine ⟨⟨by omega, by omega⟩, ?_⟩
  refine draws_ok (k := k) (j := 10) (js := many) (a := mVar 4) (by omega) (by omega) hmany b4 (fun d c' Q q => ok_var rfl q) (fun d => rfl) fun down c5 hdown b5 l5 f5 => ?_
  walk_at "ok"
  refine take_ok b5 (by omega) (by decide) (by decide) fun i6 c6 e0 e1 b6 l6 f6 => ?_
  refine item_ints (xs := [2, 2, 3, 6]) e0 e1 fun bias hbias => ?_
  have hbias : 2 ≤ bias ∧ bias ≤ 100 := by
    simp only [List.mem_cons, List.not_mem_nil, or_false] at hbias
    rcases hbias with rfl | rfl | rfl | rfl <;> decide
  walk_at "ok"
  have hc7 : (c6 ++ [Cell.lst []])[c6.length]? = some (.lst []) := by rw [List.getElem?_append_right (Nat.le_refl _), Nat.sub_self]; rfl
  have b7 := bx_app b6 [Cell.lst []]
  have l7 : (c6 ++ [Cell.lst []]).length = c.length + 1 := by simp; omega
  have f7 : ∀ j, j ≠ k → j < c.length → (c6 ++ [Cell.lst []])[j]? = c[j]? := fun j hj hl => by
    rw [List.getElem?_append_left (by omega), f6 j hj, f5 j hj, f4 j hj, f3 j hj, f2 j hj, f1 j hj]
  have hkr : c6.length = c.length := by omega
  rw [hkr] at hc7 ⊢
  generalize c6 ++ [Cell.lst []] = c7 at hc7 b7 l7 f7 ⊢
  have hup1 : 1 ≤ up.length ∧ up.length ≤ 8 := by omega
  have hdn1 : 1 ≤ down.length ∧ down.length ≤ 8 := by omega
  refine os_forL (ds := down.map D.int) (by simp; omega) rfl ?_
  refine OkS.for (fun ds l c' => (∃ o1 o9 o10 o11 o12, l = [some (.ref k), o1, some (.int (1 + w0)), some (.int (1 + t0)), some (.int many), some (.lst (up.map D.int)), some (.lst (down.map D.int)), some (.int bias), some (.ref c.length), o9, o10, o11, o12]) ∧
    ∃ ys : List Str, c'[c.length]? = some (.lst (ys.map D.str)) ∧ (∀ y ∈ ys, y.length = up.length ∧ bitS y) ∧ ys.length + ds.length = down.length ∧ Bx c' k (n + 20 + 8 * ys.length) ∧ c'.length = c.length + 1 ∧ (∀ j, j ≠ k → j < c.length → c'[j]? = c[j]?) ∧ ∀ d ∈ ds, ∃ z : Int, d = .int z) ?_ ?_ _ _ _
    ⟨⟨_, _, _, _, _, rfl⟩, [], hc7, fun _ h => absurd h List.not_mem_nil, by simp, bx_mono b7 (by simp; omega), l7, f7, fun d hd => by obtain ⟨z, _, rfl⟩ := List.mem_map.mp hd; exact ⟨z, rfl⟩⟩
  · rintro l c' ⟨⟨o1, o9, o10, o11, o12, rfl⟩, ys, hc, hy, hl, hbx, hlen, hf, _⟩
    simp only [List.length_nil, Nat.add_zero] at hl
    walk_at "ok"
    refine ⟨_, _, rfl, hc, ?_⟩
    obtain ⟨y0, yr, rfl⟩ : ∃ y0 yr, ys = y0 :: yr := by
      cases ys with
      | nil => simp at hl; omega
      | cons a b => exact ⟨a, b, rfl⟩
    have h0 := hy y0 List.mem_cons_self
    refine q _ _ ⟨y0, yr, rfl, by omega, fun y hm => ⟨by rw [(hy y hm).1, h0.1], (hy y hm).2⟩, by omega, by omega⟩ ?_ (by simp; omega) fun j hj hl2 => ?_
    · exact bx_mono (bx_set hbx (by omega) _) (by omega)
    · rw [List.getElem?_set_ne (by omega)]
      exact hf j hj hl2
  · rintro d ds l c' ⟨⟨o1, o9, o10, o11, o12, rfl⟩, ys, hc, hy, hl, hbx, hlen, hf, hds⟩
    simp only [List.length_cons] at hl
    obtain ⟨low, rfl⟩ := hds d List.mem_cons_self
    walk_at "ok"
    refine ok_lcL (ds := up.map D.int) (by simp; omega) rfl ?_
    refine comp_ok (fun es acc c2 => ∃ bs : List Bool, acc = bs.map (fun b => D.int (if b = true then 1 else 0)) ∧ bs.length + es.length = up.length ∧ Bx c2 k (n + 20 + 8 * ys.length + bs.length) ∧ c2.length = c'.length ∧ (∀ j, j ≠ k → c2[j]? = c'[j]?) ∧ ∀ d ∈ es, ∃ z : Int, d = .int z) ?_ ?_ _ _ _
      ⟨[], rfl, by simp, by simpa using hbx, rfl, fun _ _ => rfl, fun d hd => by obtain ⟨z, _, rfl⟩ := List.mem_map.mp hd; exact ⟨z, rfl⟩⟩
    · rintro acc c2 ⟨bs, rfl, hbl, bb, bl, bf, _⟩
      simp only [List.length_nil, Nat.add_zero] at hbl
      have hc2 : c2[c.length]? = some (.lst (ys.map D.str)) := by rw [bf _ (by omega)]; exact hc
      walk_at "ok"
      refine ⟨isL_ref hc2, ?_⟩
      walk_at "ok"
      refine Ok.of (lcW_pure (w := fixW (bs.map fun b => D.int (if b = true then 1 else 0))) (xs := bs.map fun b => D.int (if b = true then 1 else 0)) (P := fun _ => true) (F := fun x => match x with | .int i => .str ⟨#[if i = 1 then 49 else 48]⟩ | _ => .non) (lt := fun x => (wipeL [some (D.ref k), some (.int low), some (.int (1 + w0)), some (.int (1 + t0)), some (.int many), some (.lst (up.map D.int)), some (.lst (down.map D.int)), some (.int bias), some (.ref c.length), some (.lst (bs.map fun b => D.int (if b = true then 1 else 0))), o10, o11, o12] [12]).set 12 (some x)) rfl (fun _ => rfl) (by simp; omega) (fun x hx => ⟨rfl, rfl, fun _ => ?_⟩)) ?_
      · obtain ⟨b, _, rfl⟩ := List.mem_map.mp hx
        refine ok_eq (ok_cb (ok_acons (ok_var rfl (ok_anil (Ok.of (str_bit b _) ⟨?_, rfl⟩)))))
        cases b <;> rfl
      · have e : ((bs.map fun b => D.int (if b = true then 1 else 0)).filter fun _ => true).map (fun x => match x with | .int i => D.str ⟨#[if i = 1 then 49 else 48]⟩ | _ => .non) = (bs.map fun b => if b = true then 49 else 48).map fun k => D.str ⟨#[k]⟩ := by
          rw [filter_yes, List.map_map, List.map_map]
          refine List.map_congr_left fun b _ => ?_
          cases b <;> rfl
        rw [e]
        have hjn : joinX (.str "") (.lst ((bs.map fun b => if b = true then 49 else 48).map fun k => D.str ⟨#[k]⟩)) c2 = .ok (.str ⟨(bs.map fun b => if b = true then 49 else 48).toArray⟩) c2 := by
          show joinL "" _ c2 = _
          unfold joinL
          rw [strs_ones]
          have e1 : (((bs.map fun b => if b = true then 49 else 48).map fun k => (⟨#[k]⟩ : Str)).map (·.length)).sum ≤ 8 * bs.length := by
            have := sum_le8 ((bs.map fun b => if b = true then 49 else 48).map fun k => (⟨#[k]⟩ : Str)) fun y hm => by
              obtain ⟨z, _, rfl⟩ := List.mem_map.mp hm
              show 1 ≤ 8
              omega
            simpa using this
          have e0' : ("" : Str).length = 0 := rfl
          refine (if_pos (by rw [e0']; omega)).trans ?_
          rw [join_ones']
        walk_at "ok"
        refine Ok.of hjn ?_
        walk_at "ok"
        refine ok_append hc2 (by rw [List.length_map]; omega) ?_
        refine ⟨⟨_, _, _, _, _, rfl⟩, ys ++ [⟨(bs.map fun b => if b = true then 49 else 48).toArray⟩], by rw [List.getElem?_set_self (by omega)]; simp, fun y hm => ?_, by simp; omega, ?_, by simp; omega, fun j hj hl2 => ?_, fun d hd => hds d (List.mem_cons_of_mem _ hd)⟩
        · rcases List.mem_append.mp hm with hm | hm
          · exact hy y hm
          · simp only [List.mem_singleton] at hm
            subst hm
            refine ⟨?_, ?_⟩
            · show (List.toArray _).size = _
              simp [hbl]
            · show ((List.toArray _).toList).all bitB = true
              rw [List.toList_toArray]
              refine List.all_eq_true.mpr fun z hz2 => ?_
              obtain ⟨b, _, rfl⟩ := List.mem_map.mp hz2
              cases b <;> rfl
        · exact bx_mono (bx_set bb (by omega) _) (by simp; omega)
        · rw [List.getElem?_set_ne (by omega), bf j hj]
          exact hf j hj hl2
    · rintro x es acc c2 ⟨bs, rfl, hbl, bb, bl, bf, hes⟩
      simp only [List.length_cons] at hbl
      obtain ⟨hi, rfl⟩ := hes x List.mem_cons_self
      refine ok_gn (ok_ret ?_)
      walk_at "ok"
      refine ⟨fun qq => ?_, fun qq => ?_⟩
      · walk_at "ok"
        refine ⟨by simp; omega, bs ++ [decide (low < hi)], by simp, by simp; omega, bx_mono bb (by simp; omega), bl, bf, fun d hd => hes d (List.mem_cons_of_mem _ hd)⟩
      · walk_at "ok"
        refine take_ok bb (by omega) (by omega) (by omega) fun i8 c8 g0 g1 b8 l8 f8 => ?_
        walk_at "ok"
        refine ⟨by simp; omega, bs ++ [decide (0 < i8)], by simp, by simp; omega, bx_mono b8 (by simp; omega), by omega, fun j hj => by rw [f8 j hj, bf j hj], fun d hd => hes d (List.mem_cons_of_mem _ hd)⟩

def FRB (d : D) : Bool := match toPyC 17 [] d with
  | some p => bP p && decide (wP p ≤ 20000) && decide (p.depth ≤ 10)
  | none => false
def top0 : D → Bool
  | .non => true
  | .bl _ => true
  | .int _ => true
  | .str _ => true
  | .tup _ => true
  | _ => false
def PV (v : D) (c : Cs) : Prop := (FRB v = true ∧ (top0 v = true ∨ ∃ xs, v = .lst xs ∧ Rows xs)) ∨ (∃ k xs, v = .ref k ∧ c[k]? = some (.lst xs) ∧ xs.length ≤ 100 ∧ ∀ x ∈ xs, FRB x = true) ∨
  ∃ k kvs, v = .ref k ∧ c[k]? = some (.dct kvs) ∧ (kvs = [] ∨ kvs = [(.inr "a", .int 1)])
theorem frb_of {d : D} (h : FRB d = true) : ∃ p, toPyC 17 [] d = some p ∧ bP p = true ∧ wP p ≤ 20000 ∧ p.depth ≤ 10 := by
  unfold FRB at h
  cases q : toPyC 17 [] d with
  | none => rw [q] at h; cases h
  | some p =>
    rw [q] at h
    simp only [Bool.and_eq_true, decide_eq_true_eq] at h
    exact ⟨p, rfl, h.1.1, h.1.2, h.2⟩
theorem el_of {n : Nat} {x : D} {q : PyData} {c : Cs} (h : toPyC n [] x = some q) (hw : wP q ≤ 40000) : ElV x c := by
  cases n with
  | zero => cases h
  | succ n =>
    cases x with
    | str s =>
      cases h
      have hw : 10 * s.length + 2 ≤ 40000 := hw
      exact ⟨"str", rfl, fun _ => ⟨s, rfl, by omega⟩⟩
    | ref k => cases h
    | obj => cases h
    | adr => cases h
    | ty => cases h
    | gh => cases h
    | _ => exact ⟨_, rfl, fun e => by simp at e⟩
theorem mapO_mem {α β : Type} {f : α → Option β} {x : α} : ∀ {xs : List α} {ys : List β}, mapO f xs = some ys → x ∈ xs → ∃ y ∈ ys, f x = some y
  | [], _, _, h => absurd h List.not_mem_nil
  | z :: xs, ys, e, h => by
    unfold mapO at e
    cases q : f z with
    | none => rw [q] at e; cases e
    | some y =>
      cases q2 : mapO f xs with
      | none => rw [q, q2] at e; cases e
      | some zs =>
        rw [q, q2] at e
        cases e
        rcases List.mem_cons.mp h with rfl | h
        · exact ⟨y, List.mem_cons_self, q⟩
        · obtain ⟨w, hw, e⟩ := mapO_mem q2 h
          exact ⟨w, List.mem_cons_of_mem _ hw, e⟩
theorem wPs_mem {q : PyData} : ∀ {ps : List PyData}, q ∈ ps → wP q ≤ wPs ps
  | [], h => absurd h List.not_mem_nil
  | p :: ps, h => by
    simp only [wPs]
    rcases List.mem_cons.mp h with rfl | h
    · omega
    · have := wPs_mem h; omega
theorem frs_ok : ∀ {xs : List D}, (∀ x ∈ xs, FRB x = true) → ∃ ps, mapO (toPyC 17 []) xs = some ps ∧ bPs ps = true ∧ wPs ps ≤ 20002 * xs.length ∧ PyData.depthAll ps ≤ 10
  | [], _ => ⟨[], rfl, rfl, by decide, by decide⟩
  | x :: xs, h => by
    obtain ⟨p, h2, h3, h4, h5⟩ := frb_of (h x List.mem_cons_self)
    obtain ⟨ps, g2, g3, g4, g5⟩ := frs_ok fun y hy => h y (List.mem_cons_of_mem _ hy)
    refine ⟨p :: ps, by simp only [mapO, h2, g2], by simp [bPs, h3, g3], ?_, ?_⟩
    · simp only [wPs, List.length_cons]; omega
    · simp only [PyData.depthAll]; omega
theorem pv_py {v : D} {c : Cs} (h : PV v c) {n : Nat} (hn : 18 ≤ n) : ∃ p, toPyC n c v = some p ∧ bP p = true ∧ wP p ≤ 3000000 ∧ p.depth ≤ 15 := by
  obtain ⟨n, rfl⟩ : ∃ m, n = m + 1 := ⟨n - 1, by omega⟩
  rcases h with ⟨h, ht⟩ | ⟨k, xs, rfl, hk, hl, hx⟩ | ⟨k, kvs, rfl, hk, hv⟩
  · obtain ⟨p, hp, hb, hw, hd⟩ := frb_of h
    exact ⟨p, toPyC_free (by omega) hp, hb, by omega, by omega⟩
  · obtain ⟨ps, g2, g3, g4, g5⟩ := frs_ok hx
    refine ⟨.list ps, ?_, g3, ?_, ?_⟩
    · rw [toPyC_lst hk]
      exact Option.map_eq_some_iff.mpr ⟨ps, mapO_mono (fun a b => toPyC_free (by omega)) g2, rfl⟩
    · show wPs ps + 2 ≤ _
      have : 20002 * xs.length ≤ 20002 * 100 := Nat.mul_le_mul_left _ hl
      omega
    · simp only [PyData.depth]; omega
  · rcases hv with rfl | rfl
    · refine ⟨.dict [], ?_, rfl, by decide, by decide⟩
      rw [toPyC_dct hk]; rfl
    · refine ⟨.dict [(.str "a", .int 1)], ?_, by decide +kernel, by decide +kernel, by decide +kernel⟩
      obtain ⟨m, rfl⟩ : ∃ m, n = m + 1 := ⟨n - 1, by omega⟩
      rw [toPyC_dct hk]; rfl
theorem toPyC_up {n m : Nat} {c : Cs} : ∀ {d : D} {p : PyData}, n ≤ m → toPyC n c d = some p → toPyC m c d = some p := by
  induction n generalizing m with
  | zero => intro d p h e; cases e
  | succ n ih =>
    intro d p h e
    cases m with
    | zero => omega
    | succ m =>
      have ih := fun a b => ih (m := m) (d := a) (p := b) (by omega)
      cases d with
      | lst xs =>
        obtain ⟨ps, e1, rfl⟩ := Option.map_eq_some_iff.mp e
        exact Option.map_eq_some_iff.mpr ⟨ps, mapO_mono ih e1, rfl⟩
      | ro xs =>
        obtain ⟨ps, e1, rfl⟩ := Option.map_eq_some_iff.mp e
        exact Option.map_eq_some_iff.mpr ⟨ps, mapO_mono ih e1, rfl⟩
      | tup xs =>
        obtain ⟨ps, e1, rfl⟩ := Option.map_eq_some_iff.mp e
        exact Option.map_eq_some_iff.mpr ⟨ps, mapO_mono ih e1, rfl⟩
      | dct xs =>
        obtain ⟨ps, e1, rfl⟩ := Option.map_eq_some_iff.mp e
        refine Option.map_eq_some_iff.mpr ⟨ps, mapO_mono (fun a b q => ?_) e1, rfl⟩
        obtain ⟨z, q1, rfl⟩ := Option.map_eq_some_iff.mp q
        exact Option.map_eq_some_iff.mpr ⟨z, ih _ _ q1, rfl⟩
      | ref k =>
        cases q : c[k]? with
        | none => simp [toPyC, q] at e
        | some x =>
          cases x with
          | lst xs =>
            rw [toPyC_lst q] at e ⊢
            obtain ⟨ps, e1, rfl⟩ := Option.map_eq_some_iff.mp e
            exact Option.map_eq_some_iff.mpr ⟨ps, mapO_mono ih e1, rfl⟩
          | dct xs =>
            rw [toPyC_dct q] at e ⊢
            obtain ⟨ps, e1, rfl⟩ := Option.map_eq_some_iff.mp e
            refine Option.map_eq_some_iff.mpr ⟨ps, mapO_mono (fun a b q => ?_) e1, rfl⟩
            obtain ⟨z, q1, rfl⟩ := Option.map_eq_some_iff.mp q
            exact Option.map_eq_some_iff.mpr ⟨z, ih _ _ q1, rfl⟩
          | frz d => simp only [toPyC, q] at e ⊢; exact ih _ _ e
          | ins n fs => simp [toPyC, q] at e
      | _ => exact e
theorem PV.app {v : D} {c : Cs} (h : PV v c) (y : Cs) : PV v (c ++ y) := by
  rcases h with h | ⟨k, xs, rfl, hk, r⟩ | ⟨k, kvs, rfl, hk, r⟩
  · exact .inl h
  · exact .inr (.inl ⟨k, xs, rfl, by rw [List.getElem?_append_left (List.getElem?_eq_some_iff.mp hk).1]; exact hk, r⟩)
  · exact .inr (.inr ⟨k, kvs, rfl, by rw [List.getElem?_append_left (List.getElem?_eq_some_iff.mp hk).1]; exact hk, r⟩)
theorem PV.at {v : D} {c c' : Cs} (h : PV v c) (e : ∀ k, v = .ref k → c'[k]? = c[k]?) : PV v c' := by
  rcases h with h | ⟨k, xs, rfl, hk, r⟩ | ⟨k, kvs, rfl, hk, r⟩
  · exact .inl h
  · exact .inr (.inl ⟨k, xs, rfl, by rw [e k rfl]; exact hk, r⟩)
  · exact .inr (.inr ⟨k, kvs, rfl, by rw [e k rfl]; exact hk, r⟩)
theorem PV.lt {v : D} {c : Cs} (h : PV v c) : ∀ j, v = .ref j → j < c.length := fun j e => by
  rcases h with ⟨hf, _⟩ | ⟨k', xs, e', hk, _⟩ | ⟨k', kvs, e', hk, _⟩
  · subst e
    obtain ⟨p, hp, _⟩ := frb_of hf
    cases hp
  · rw [e] at e'; cases e'
    exact (List.getElem?_eq_some_iff.mp hk).1
  · rw [e] at e'; cases e'
    exact (List.getElem?_eq_some_iff.mp hk).1
theorem PV.keep {v : D} {c c' : Cs} {kb : Nat} (h : PV v c) (hv : v ≠ .ref kb) (f : ∀ j, j ≠ kb → j < c.length → c'[j]? = c[j]?) : PV v c' :=
  h.at fun k e => f k (fun ek => hv (by rw [e, ek])) (h.lt k e)
/-! ### values of threads.py -/
theorem ty_ref {k : Nat} {c : Cs} {t : String} (h : tyD (.ref k) c = some t) : t = "list" ∨ t = "dict" := by
  unfold tyD at h
  cases q : c[k]? with
  | none => simp only [q] at h; cases h
  | some x =>
    simp only [q] at h
    cases x with
    | lst xs => cases h; exact .inl rfl
    | dct xs => cases h; exact .inr rfl
    | frz d => cases d <;> first | (cases h; exact .inl rfl) | cases h
    | _ => cases h
def isInt (d : D) (lo hi : Int) : Bool := match d with
  | .int i => decide (lo ≤ i) && decide (i ≤ hi)
  | _ => false
theorem is_integer_eq {d : D} {lo hi : Int} {c : Cs} (h : (tyD d c).isSome = true) : gis_integer [d, .int lo, .int hi] c = .ok (.bl (isInt d lo hi)) c := by
  obtain ⟨t, ht⟩ := Option.isSome_iff_exists.mp h
  have hm := tyD_mem ht
  have e1 : isiD [d, .ty "int"] c = .ok (.bl (isT t "int")) c := by simp [isiD, ht, tyNames]
  have e2 : isiD [d, .ty "bool"] c = .ok (.bl (isT t "bool")) c := by simp [isiD, ht, tyNames]
  have non : isT t "int" = false → isInt d lo hi = false → gis_integer [d, .int lo, .int hi] c = .ok (.bl (isInt d lo hi)) c := fun h1 h2 => by
    rw [h2]
    simp [gis_integer, mFun, cis_integer, sRet, mAnd, mCB, aCons, aNil, mVar, mC, e1, h1]
  cases d with
  | int i =>
    cases ht
    by_cases h1 : lo ≤ i
    · by_cases h2 : i ≤ hi
      · simp [gis_integer, mFun, cis_integer, sRet, mAnd, mNot, mCB, aCons, aNil, mVar, mC, isiD, tyD, isT, tyNames, mChain, leD, isInt, h1, h2]
      · simp [gis_integer, mFun, cis_integer, sRet, mAnd, mNot, mCB, aCons, aNil, mVar, mC, isiD, tyD, isT, tyNames, mChain, leD, isInt, h1, h2]
    · simp [gis_integer, mFun, cis_integer, sRet, mAnd, mNot, mCB, aCons, aNil, mVar, mC, isiD, tyD, isT, tyNames, mChain, leD, isInt, h1]
  | bl b =>
    cases ht
    simp [gis_integer, mFun, cis_integer, sRet, mAnd, mNot, mCB, aCons, aNil, mVar, mC, isiD, tyD, isT, tyNames, isInt]
  | ref k => rcases ty_ref ht with rfl | rfl <;> exact non rfl rfl
  | obj => cases ht
  | adr => cases ht
  | ty => cases ht
  | gh => cases ht
  | _ => cases ht; exact non rfl rfl
/-- a value as the laws draw it -/
def Val (d : D) (c : Cs) : Prop := match d with
  | .tup xs => ∀ x ∈ xs, (tyD x c).isSome = true
  | .ref k => (∃ xs, c[k]? = some (.lst xs)) ∨ ∃ kvs, c[k]? = some (.dct kvs)
  | .ro _ => False
  | d => (tyD d c).isSome = true
def isThr (d : D) (w h : Int) : Bool := match d with
  | .tup [.str s, x] => if s = "warp" then isInt x 0 (w - 1) else if s = "weft" then isInt x 0 (h - 1) else false
  | _ => false
theorem in_kinds (s : Str) (c : Cs) : inX false (.str s) (.tup [.str "warp", .str "weft"]) c = .ok (.bl (decide (s = "warp") || decide (s = "weft"))) c := by
  have e : ∀ a s : Str, (a == s) = decide (s = a) := fun a s => by rw [Bool.eq_iff_iff, beq_iff_eq, decide_eq_true_iff]; exact ⟨Eq.symm, Eq.symm⟩
  simp [inX, inD, inL, flatD, eqF, sgn, e]
theorem in_kindsY (s : Str) (c : Cs) : inY false (.str s) (.tup [.str "warp", .str "weft"]) c = .ok (.bl (decide (s = "warp") || decide (s = "weft"))) c := by
  unfold inY
  rw [in_kinds]
theorem is_thread_eq {d : D} {w h : Int} {c : Cs} (hv : Val d c) : gis_thread [d, .int w, .int h] c = .ok (.bl (isThr d w h)) c := by
  cases d with
  | tup xs =>
    match xs, hv with
    | [], _ => simp [gis_thread, mFun, cis_thread, sSeq, sMatch2, mVar, pairOf, seqOf, sRet, mC, isThr]
    | [a], _ => simp [gis_thread, mFun, cis_thread, sSeq, sMatch2, mVar, pairOf, seqOf, sRet, mC, isThr]
    | [a, b], hv =>
      have ha : (tyD a c).isSome = true := hv a (by simp)
      have hb : (tyD b c).isSome = true := hv b (by simp)
      obtain ⟨t, ht⟩ := Option.isSome_iff_exists.mp ha
      by_cases hs : t = "str"
      · subst hs
        obtain ⟨s, rfl⟩ : ∃ s, a = .str s := by
          cases a with
          | str s => exact ⟨s, rfl⟩
          | ref k => rcases ty_ref ht with h | h <;> exact absurd h (by decide)
          | _ => simp [tyD] at ht
        by_cases h1 : s = "warp"
        · subst h1
          have e := is_integer_eq (lo := 0) (hi := w - 1) (c := c) hb
          unfold gis_thread mFun cis_thread
          generalize gis_integer = F at e ⊢
          simp [sSeq, sMatch2, mVar, pairOf, seqOf, sRet, mC, isThr, tAndM, mT, mCB, aCons, aNil, isiD, tyD, isT, tyNames, mOp, in_kindsY, subD, mIf, eqX, eqD, e]
        · by_cases h2 : s = "weft"
          · subst h2
            have e := is_integer_eq (lo := 0) (hi := h - 1) (c := c) hb
            unfold gis_thread mFun cis_thread
            generalize gis_integer = F at e ⊢
            simp [sSeq, sMatch2, mVar, pairOf, seqOf, sRet, mC, isThr, tAndM, mT, mCB, aCons, aNil, isiD, tyD, isT, tyNames, mOp, in_kindsY, subD, mIf, eqX, eqD, e, h1]
          · simp [gis_thread, mFun, cis_thread, sSeq, sMatch2, mVar, pairOf, seqOf, sRet, mC, isThr, tAndM, mT, mCB, aCons, aNil, isiD, tyD, isT, tyNames, mOp, in_kindsY, subD, mIf, eqX, eqD, h1, h2]
      · have e1 : isiD [a, .ty "str"] c = .ok (.bl false) c := by
          rw [isi_str ht, isT_str (tyD_mem ht), beq_eq_false_iff_ne.mpr hs]
        have e2 : isThr (.tup [a, b]) w h = false := by
          cases a with
          | str s => cases ht; exact absurd rfl hs
          | _ => rfl
        rw [e2]
        simp [gis_thread, mFun, cis_thread, sSeq, sMatch2, mVar, pairOf, seqOf, sRet, mC, tAndM, mT, mCB, aCons, aNil, isiD, tyD, isT, tyNames] at e1 ⊢
        simp [e1, sRet, mC]
    | a :: b :: e :: r, _ => simp [gis_thread, mFun, cis_thread, sSeq, sMatch2, mVar, pairOf, seqOf, sRet, mC, isThr]
  | lst xs =>
    match xs with
    | [] => simp [gis_thread, mFun, cis_thread, sSeq, sMatch2, mVar, pairOf, seqOf, sRet, mC, isThr]
    | [a] => simp [gis_thread, mFun, cis_thread, sSeq, sMatch2, mVar, pairOf, seqOf, sRet, mC, isThr]
    | [a, b] => simp [gis_thread, mFun, cis_thread, sSeq, sMatch2, mVar, pairOf, seqOf, sRet, mC, isThr, tAndM, mT, mCB, aCons, aNil, isiD, tyD, isT, tyNames]
    | a :: b :: e :: r => simp [gis_thread, mFun, cis_thread, sSeq, sMatch2, mVar, pairOf, seqOf, sRet, mC, isThr]
  | ref k =>
    rcases hv with ⟨xs, e⟩ | ⟨kvs, e⟩
    · match xs, e with
      | [], e => simp [gis_thread, mFun, cis_thread, sSeq, sMatch2, mVar, pairOf, seqOf, e, sRet, mC, isThr]
      | [a], e => simp [gis_thread, mFun, cis_thread, sSeq, sMatch2, mVar, pairOf, seqOf, e, sRet, mC, isThr]
      | [a, b], e => simp [gis_thread, mFun, cis_thread, sSeq, sMatch2, mVar, pairOf, seqOf, e, sRet, mC, tAndM, mT, mCB, aCons, aNil, isiD, tyD, isT, tyNames, isThr]
      | a :: b :: d :: r, e => simp [gis_thread, mFun, cis_thread, sSeq, sMatch2, mVar, pairOf, seqOf, e, sRet, mC, isThr]
    · simp [gis_thread, mFun, cis_thread, sSeq, sMatch2, mVar, pairOf, seqOf, e, tyD, notSeq, sRet, mC, isThr]
  | ro => cases hv
  | obj => cases hv
  | adr => cases hv
  | ty => cases hv
  | gh => cases hv
  | _ => simp [gis_thread, mFun, cis_thread, sSeq, sMatch2, mVar, pairOf, seqOf, tyD, notSeq, sRet, mC, isThr]
theorem pv_val {v : D} {c : Cs} (h : PV v c) : Val v c := by
  rcases h with ⟨h, ht⟩ | ⟨k, xs, rfl, hk, hl, hx⟩ | ⟨k, kvs, rfl, hk, _⟩
  · obtain ⟨p, hp, hb, hw, _⟩ := frb_of h
    cases v with
    | tup xs =>
      obtain ⟨ps, e1, rfl⟩ := Option.map_eq_some_iff.mp hp
      intro x hx
      obtain ⟨q, hq, e⟩ := mapO_mem e1 hx
      have hw : wPs ps + 3 ≤ 20000 := hw
      have := wPs_mem hq
      obtain ⟨t, h1, _⟩ := (el_of (c := c) e (by omega)).ex
      rw [h1]; rfl
    | lst xs => rfl
    | non => rfl
    | bl _ => rfl
    | int _ => rfl
    | str _ => rfl
    | _ => rcases ht with ht | ⟨_, e, _⟩ <;> first | cases ht | cases e
  · exact .inl ⟨xs, hk⟩
  · exact .inr ⟨kvs, hk⟩

/-! ### cloths -/
structure RwS (ys : List Str) (w : Nat) : Prop where
  n1 : 1 ≤ ys.length
  n8 : ys.length ≤ 8
  w1 : 1 ≤ w
  w8 : w ≤ 8
  len : ∀ y ∈ ys, y.length = w
  bit : ∀ y ∈ ys, bitS y
theorem Rows.rws {rs : List D} (h : Rows rs) : ∃ ys w, rs = ys.map D.str ∧ RwS ys w := by
  obtain ⟨y0, yr, e, h1, h2, h3, h4⟩ := h
  exact ⟨y0 :: yr, y0.length, e, by simp, h1, h3, h4, fun y hy => (h2 y hy).1, fun y hy => (h2 y hy).2⟩
theorem RwS.rows {ys : List Str} {w : Nat} (h : RwS ys w) : Rows (ys.map D.str) := by
  cases ys with
  | nil => exact absurd h.n1 (by simp)
  | cons y0 yr =>
    have e := h.len y0 List.mem_cons_self
    exact ⟨y0, yr, rfl, h.n8, fun y hy => ⟨by rw [h.len y hy, e], h.bit y hy⟩, by rw [e]; exact h.w1, by rw [e]; exact h.w8⟩
theorem RwS.is {ys : List Str} {w : Nat} (h : RwS ys w) : isRows (ys.map D.str) = true := h.rows.is
theorem RwS.head {ys : List Str} {w : Nat} (h : RwS ys w) : ∃ y0 yr, ys = y0 :: yr ∧ y0.length = w := by
  cases ys with
  | nil => exact absurd h.n1 (by simp)
  | cons y0 yr => exact ⟨y0, yr, rfl, h.len y0 List.mem_cons_self⟩
def clD (ys : List Str) : List (Str × D) := [("kept_rows", .lst (ys.map D.str))]
def clo (ys : List Str) : D := .obj "Cloth" (clD ys)
def IsCl (x : D) (c : Cs) (ys : List Str) : Prop := insOf x c = some (("Cloth" : Str), clD ys)
theorem clo_is (ys : List Str) (c : Cs) : IsCl (clo ys) c ys := rfl
theorem IsCl.ext {x : D} {c c' : Cs} {ys : List Str} (h : IsCl x c ys) (p : Pfx c c') : IsCl x c' ys := by
  unfold IsCl at h ⊢
  cases x with
  | ref k =>
    unfold insOf at h ⊢
    cases q : c[k]? with
    | none => simp only [q] at h; cases h
    | some z => simp only [q] at h; simp only [p.get q]; exact h
  | _ => exact h
theorem lk_kept (ys : List Str) : (clD ys).lookup ("kept_rows" : Str) = some (D.lst (ys.map D.str)) := by
  simp [clD, List.lookup]
theorem ok_kept {o : ME} {l : Ls} {c : Cs} {Q : D → Cs → Prop} (h : Ok (o l c) fun x c1 => ∃ ys, IsCl x c1 ys ∧ Q (.lst (ys.map D.str)) c1) : Ok (mFld ["Cloth"] "kept_rows" o l c) Q :=
  ok_fld (h.mono fun x c1 ⟨ys, h1, q⟩ => ⟨_, _, h1, lk_kept ys, q⟩)
theorem lk_ne {ys : List Str} {mm : Str} (h : (mm == ("kept_rows" : Str)) = false) : (clD ys).lookup mm = none := by
  simp [clD, List.lookup, h]
theorem ok_clmeth {g : List D → Cs → R D} {mm : Str} {o : ME} {t : MA} {l : Ls} {c : Cs} {Q : D → Cs → Prop} (hm : (mm == ("kept_rows" : Str)) = false) (h : Ok (o l c) fun x c1 => (∃ ys, IsCl x c1 ys) ∧ Ok (t l c1) fun xs c2 => Ok (g (x :: xs) c2) Q) : Ok (mMeth [("Cloth", g)] mm o t l c) Q :=
  ok_meth (h.mono fun x c1 ⟨⟨ys, h1⟩, q⟩ => ⟨⟨_, h1, lk_ne hm⟩, q⟩)
theorem ok_clprop {g : List D → Cs → R D} {o : ME} {l : Ls} {c : Cs} {Q : D → Cs → Prop} (h : Ok (o l c) fun x c1 => (∃ ys, IsCl x c1 ys) ∧ Ok (g [x] c1) Q) : Ok (mProp [("Cloth", g)] o l c) Q :=
  ok_prop (h.mono fun x c1 ⟨⟨ys, h1⟩, q⟩ => ⟨⟨_, h1⟩, q⟩)
theorem weft_eq {x : D} {c : Cs} {ys : List Str} (h : IsCl x c ys) : gCloth__weft_count [x] c = .ok (.int ys.length) c := by
  refine Ok.eq (Ok.fun rfl ?_)
  unfold cCloth__weft_count
  refine os_ret (ok_cb (ok_acons (ok_kept (ok_var rfl ⟨ys, h, ok_anil (Ok.of (len_seq rfl) ?_)⟩))))
  rw [List.length_map]
  exact ⟨rfl, rfl⟩
theorem warp_eq {x : D} {c : Cs} {ys : List Str} {w : Nat} (h : IsCl x c ys) (hr : RwS ys w) : gCloth__warp_count [x] c = .ok (.int w) c := by
  have hz : sizeLine = 16777216 := sizeLine_eq
  obtain ⟨y0, yr, rfl, e0⟩ := hr.head
  have := hr.w8
  refine Ok.eq (Ok.fun rfl ?_)
  unfold cCloth__warp_count
  refine os_ret (ok_cb (ok_acons (ok_op (ok_kept (ok_var rfl ⟨_, h, ok_c (Ok.of (item_seq (i := 0) rfl rfl) (ok_anil (ok_len_str (by omega) ?_)))⟩)))))
  rw [e0]
  exact ⟨rfl, rfl⟩
theorem cl_make {v : D} {c : Cs} {ys : List Str} {w : Nat} (h : SeqV v c (ys.map D.str)) (hr : RwS ys w) : (mkR "Cloth" gCloth____init__ [v] c).bind (fun d c1 => frzI d c1) = .ok (clo ys) (c ++ [.frz (clo ys)]) := by
  rw [make_ok h hr.is]
  show (match (c ++ [Cell.ins "Cloth" [("kept_rows", D.lst (ys.map D.str))]])[c.length]? with
    | some (.ins n fs) => (.ok (.obj n fs) ((c ++ [Cell.ins "Cloth" [("kept_rows", D.lst (ys.map D.str))]]).set c.length (.frz (.obj n fs))) : Mi.R D)
    | _ => .stuck) = _
  rw [cell_last]
  show Mi.R.ok _ ((c ++ [_]).set c.length _) = _
  rw [set_last]
  rfl
theorem ok_clmake {t : MA} {l : Ls} {c : Cs} {Q : D → Cs → Prop} (h : Ok (t l c) fun xs c1 => ∃ v ys w, xs = [v] ∧ SeqV v c1 (ys.map D.str) ∧ RwS ys w ∧ Q (clo ys) (c1 ++ [.frz (clo ys)])) : Ok (mFrzI (mMake "Cloth" gCloth____init__ t) l c) Q := by
  obtain ⟨xs, c1, e, v, ys, w, rfl, hv, hr, q⟩ := h
  refine ⟨clo ys, c1 ++ [.frz (clo ys)], ?_, q⟩
  have := cl_make hv hr
  unfold mFrzI mMake
  rw [e]
  exact this
theorem str_seq {ys : List Str} {v : D} {c : Cs} (hs : seqOf v c = some (ys.map D.str)) (ht : tyD v c = some "list" ∨ tyD v c = some "tuple") (hr : ∀ zs, v ≠ .ro zs) (hl : ys.length ≤ 10000) (h : ∀ y ∈ ys, y.length ≤ 5000) : SeqV v c (ys.map D.str) :=
  ⟨hs, ht, by rw [List.length_map]; exact hl, fun x hx => by
    obtain ⟨y, hy, rfl⟩ := List.mem_map.mp hx
    exact ⟨"str", rfl, fun _ => ⟨y, rfl, h y hy⟩⟩, hr⟩
theorem RwS.seqL {ys : List Str} {w : Nat} (h : RwS ys w) (c : Cs) : SeqV (.lst (ys.map D.str)) c (ys.map D.str) := str_seq rfl (.inl rfl) nofun (by have := h.n8; omega) fun y hy => by rw [h.len y hy]; have := h.w8; omega
theorem RwS.seqR {ys : List Str} {w k : Nat} {c : Cs} (h : RwS ys w) (hk : c[k]? = some (.lst (ys.map D.str))) : SeqV (.ref k) c (ys.map D.str) := str_seq (by simp [seqOf, hk]) (.inl (by simp [tyD, hk])) nofun (by have := h.n8; omega) fun y hy => by rw [h.len y hy]; have := h.w8; omega

/-! ### slices -/
theorem fmod_nat (a b : Nat) : (a : Int).fmod (b : Int) = ((a % b : Nat) : Int) := by
  rw [Int.fmod_eq_emod_of_nonneg _ (by omega)]; rfl
theorem fdiv_nat (a b : Nat) : (a : Int).fdiv (b : Int) = ((a / b : Nat) : Int) := by
  rw [Int.fdiv_eq_ediv_of_nonneg _ (by omega)]; rfl

/-- the box may change, else the cells only grow -/
def Gr (kb : Nat) (c c' : Cs) : Prop := c.length ≤ c'.length ∧ ∀ j, j ≠ kb → j < c.length → c'[j]? = c[j]?
theorem Gr.refl (kb : Nat) (c : Cs) : Gr kb c c := ⟨Nat.le_refl _, fun _ _ _ => rfl⟩
theorem Gr.trans {kb : Nat} {a b c : Cs} (h : Gr kb a b) (g : Gr kb b c) : Gr kb a c := ⟨Nat.le_trans h.1 g.1, fun j hj hl => by rw [g.2 j hj (Nat.lt_of_lt_of_le hl h.1), h.2 j hj hl]⟩
theorem Gr.of {kb : Nat} {a b : Cs} (h : Pfx a b) : Gr kb a b := ⟨h.len, fun _ _ hl => h.at hl⟩
theorem Gr.app {kb : Nat} {a b : Cs} (h : Gr kb a b) (x : Cs) : Gr kb a (b ++ x) := h.trans (.of (Pfx.one b x))
theorem Gr.get {kb : Nat} {c c' : Cs} {k : Nat} {x : Cell} (h : Gr kb c c') (hk : k ≠ kb) (e : c[k]? = some x) : c'[k]? = some x := by
  rw [h.2 k hk (List.getElem?_eq_some_iff.mp e).1]
  exact e
theorem Gr.set {kb : Nat} {a b : Cs} (h : Gr kb a b) {k : Nat} (hk : a.length ≤ k) (x : Cell) : Gr kb a (b.set k x) := ⟨by rw [List.length_set]; exact h.1, fun j hj hl => by rw [List.getElem?_set_ne (by omega)]; exact h.2 j hj hl⟩
theorem Gr.take {kb : Nat} {c c' : Cs} (hl : c'.length = c.length) (f : ∀ j, j ≠ kb → c'[j]? = c[j]?) : Gr kb c c' := ⟨by omega, fun j hj _ => f j hj⟩
/-- a draw -/
theorem take_gr {c : Cs} {k : Nat} {n many : Int} {Q : D → Cs → Prop} (h : Bx c k n) (hn : n ≤ 1000000) (hm : 0 < many) (hm2 : many ≤ 1000000)
    (q : ∀ (i : Int) (c' : Cs), 0 ≤ i → i < many → Bx c' k (n + 1) → Gr k c c' → c'.length = c.length → Q (.int i) c') : Ok (g_law_take [.ref k, .int many] c) Q :=
  take_ok h hn hm hm2 fun i c' h0 h1 b l f => q i c' h0 h1 b (.take l f) l

/-! ### turning, in plain lists -/
def tR (j : Nat) (r : List Nat) (ps : List (Nat × Nat)) : List Nat := r.mapIdx fun i k => if (i, j) ∈ ps then exch k else k
theorem tR_len (j : Nat) (r : List Nat) (ps : List (Nat × Nat)) : (tR j r ps).length = r.length := by simp [tR]
def mkS (ks : List Nat) : Str := ⟨ks.toArray⟩
theorem mkS_cps (ks : List Nat) : (mkS ks).cps.toList = ks := by simp [mkS]
theorem exch_bit {k : Nat} (h : bitB k = true) : bitB (exch k) = true ∧ exch k = if k = 49 then 48 else 49 := by
  have : k = 48 ∨ k = 49 := by simpa [bitB] using h
  rcases this with rfl | rfl <;> decide
theorem tR_bits {j : Nat} {r : List Nat} {ps : List (Nat × Nat)} (h : r.all bitB = true) : (tR j r ps).all bitB = true := by
  refine List.all_eq_true.mpr fun k hk => ?_
  obtain ⟨i, hi, e⟩ := List.mem_mapIdx.mp hk
  have hb := List.all_eq_true.mp h r[i] (List.getElem_mem hi)
  rw [← e]
  split
  · exact (exch_bit hb).1
  · exact hb
/-- the rows, turned -/
def tS (ys : List Str) (ps : List (Nat × Nat)) : List Str := ys.mapIdx fun j y => mkS (tR j y.cps.toList ps)
theorem tS_len (ys : List Str) (ps : List (Nat × Nat)) : (tS ys ps).length = ys.length := by simp [tS]
theorem RwS.turn {ys : List Str} {w : Nat} (h : RwS ys w) (ps : List (Nat × Nat)) : RwS (tS ys ps) w := by
  have hm : ∀ z ∈ tS ys ps, ∃ j, ∃ y ∈ ys, z = mkS (tR j y.cps.toList ps) := fun z hz => by
    obtain ⟨j, hj, e⟩ := List.mem_mapIdx.mp hz
    exact ⟨j, ys[j], List.getElem_mem hj, e.symm⟩
  refine ⟨by rw [tS_len]; exact h.n1, by rw [tS_len]; exact h.n8, h.w1, h.w8, fun z hz => ?_, fun z hz => ?_⟩
  · obtain ⟨j, y, hy, rfl⟩ := hm z hz
    rw [← len_cps, mkS_cps, tR_len, len_cps]
    exact h.len y hy
  · obtain ⟨j, y, hy, rfl⟩ := hm z hz
    unfold bitS
    rw [mkS_cps]
    exact tR_bits (h.bit y hy)
/-! ### crossings -/
def crD (p : Nat × Nat) : D := .tup [.int p.1, .int p.2]
def crOf (w h : Nat) (x : D) : Option (Nat × Nat) := match x with
  | .tup [.int i, .int j] => if 0 ≤ i ∧ i < w ∧ 0 ≤ j ∧ j < h then some (i.toNat, j.toNat) else none
  | _ => none
theorem crOf_at {w h : Nat} {x : D} {p : Nat × Nat} (e : crOf w h x = some p) : x = crD p ∧ p.1 < w ∧ p.2 < h := by
  unfold crOf at e
  split at e
  · rename_i i j
    split at e
    · rename_i hc
      cases e
      obtain ⟨a, b, c, d⟩ := hc
      refine ⟨?_, by omega, by omega⟩
      unfold crD
      rw [Int.toNat_of_nonneg a, Int.toNat_of_nonneg c]
    · cases e
  · cases e
def crP (p : Nat × Nat) : PyData := .tuple [.int p.1, .int p.2]
theorem py_cr (n : Nat) (c : Cs) (p : Nat × Nat) : toPyC (n + 2) c (crD p) = some (crP p) := rfl
theorem mapO_map {α : Type} {f : D → Option PyData} {e : α → D} {g : α → PyData} (h : ∀ a, f (e a) = some (g a)) : ∀ xs : List α, mapO f (xs.map e) = some (xs.map g)
  | [] => rfl
  | x :: xs => by
    rw [List.map_cons, List.map_cons]
    unfold mapO
    rw [h, mapO_map h xs]
theorem item_str_at {y : Str} {i : Nat} {c : Cs} (hz : y.length ≤ 100) (hi : i < y.cps.toList.length) : itemD (.str y) (.int (i : Nat)) c = .ok (.str ⟨#[y.cps.toList.getD i 0]⟩) c := by
  have hsz : sizeLine = 16777216 := sizeLine_eq
  show fits y.length _ = _
  unfold fits
  rw [if_pos (by omega), atI_nat (List.getElem?_eq_getElem hi), List.getD_eq_getElem?_getD, List.getElem?_eq_getElem hi]
  rfl
theorem isInt_non {a : D} {lo hi : Int} (h : ∀ i, a ≠ .int i) : isInt a lo hi = false := by
  cases a <;> first | rfl | exact absurd rfl (h _)
theorem crOf_two (a b : D) (w h : Nat) : (crOf w h (.tup [a, b])).isSome = (isInt a 0 (w - 1) && isInt b 0 (h - 1)) := by
  by_cases ha : ∃ i, a = .int i
  · obtain ⟨i, rfl⟩ := ha
    by_cases hb : ∃ j, b = .int j
    · obtain ⟨j, rfl⟩ := hb
      show (if 0 ≤ i ∧ i < (w : Int) ∧ 0 ≤ j ∧ j < (h : Int) then some (i.toNat, j.toNat) else none).isSome = ((decide (0 ≤ i) && decide (i ≤ (w : Int) - 1)) && (decide (0 ≤ j) && decide (j ≤ (h : Int) - 1)))
      split
      · rename_i hc
        obtain ⟨h1, h2, h3, h4⟩ := hc
        rw [decide_eq_true h1, decide_eq_true (show i ≤ (w : Int) - 1 by omega), decide_eq_true h3, decide_eq_true (show j ≤ (h : Int) - 1 by omega)]
        rfl
      · rename_i hc
        symm
        simp only [Option.isSome_none, Bool.and_eq_false_iff, decide_eq_false_iff_not]
        omega
    · have hb2 : ∀ j, b ≠ .int j := fun j e => hb ⟨j, e⟩
      rw [isInt_non (a := b) hb2, Bool.and_false]
      cases b <;> first | rfl | exact absurd rfl (hb2 _)
  · have ha2 : ∀ i, a ≠ .int i := fun i e => ha ⟨i, e⟩
    rw [isInt_non (a := a) ha2, Bool.false_and]
    cases a <;> first | rfl | exact absurd rfl (ha2 _)

theorem isi_tup {x : D} {c : Cs} {t : String} (h : tyD x c = some t) : isiD [x, .ty "tuple"] c = .ok (.bl (isT t "tuple")) c := by simp [isiD, h, tyNames]
def isTup (x : D) : Bool := match x with | .tup _ => true | _ => false
theorem isT_tup {x : D} {c : Cs} {t : String} (h : tyD x c = some t) : isT t "tuple" = isTup x := by
  cases x with
  | ref k =>
    rcases ty_ref h with rfl | rfl
    · exact (by decide : isT "list" "tuple" = false)
    · exact (by decide : isT "dict" "tuple" = false)
  | obj => cases h
  | adr => cases h
  | ty => cases h
  | gh => cases h
  | non => cases h; exact (by decide : isT "NoneType" "tuple" = false)
  | bl _ => cases h; exact (by decide : isT "bool" "tuple" = false)
  | int _ => cases h; exact (by decide : isT "int" "tuple" = false)
  | str _ => cases h; exact (by decide : isT "str" "tuple" = false)
  | lst _ => cases h; exact (by decide : isT "list" "tuple" = false)
  | ro _ => cases h; exact (by decide : isT "list" "tuple" = false)
  | dct _ => cases h; exact (by decide : isT "dict" "tuple" = false)
  | tup _ => cases h; exact (by decide : isT "tuple" "tuple" = true)

/-! ### threads -/
abbrev Th := Bool × Nat
def kdS (b : Bool) : Str := if b = true then "weft" else "warp"
def thD (t : Th) : D := .tup [.str (kdS t.1), .int t.2]
def thOf (w h : Nat) (x : D) : Option Th := match x with
  | .tup [.str s, .int i] => if s = "warp" ∧ 0 ≤ i ∧ i < w then some (false, i.toNat) else if s = "weft" ∧ 0 ≤ i ∧ i < h then some (true, i.toNat) else none
  | _ => none
def inB2 (w h : Nat) (t : Th) : Prop := t.2 < (if t.1 = true then h else w)
theorem thOf_at {w h : Nat} {x : D} {t : Th} (e : thOf w h x = some t) : x = thD t ∧ inB2 w h t := by
  unfold thOf at e
  split at e
  · rename_i s i
    split at e
    · rename_i hc
      cases e
      obtain ⟨rfl, h0, h1⟩ := hc
      refine ⟨?_, ?_⟩
      · unfold thD kdS
        simp [Int.toNat_of_nonneg h0]
      · show i.toNat < w
        omega
    · split at e
      · rename_i hc
        cases e
        obtain ⟨rfl, h0, h1⟩ := hc
        refine ⟨?_, ?_⟩
        · unfold thD kdS
          simp [Int.toNat_of_nonneg h0]
        · show i.toNat < h
          omega
      · cases e
  · cases e
theorem ww : ¬ (("weft" : Str) = "warp") := by decide +kernel
theorem thOf_th {w h : Nat} {t : Th} (ht : inB2 w h t) : thOf w h (thD t) = some t := by
  obtain ⟨b, n⟩ := t
  unfold thOf thD kdS
  unfold inB2 at ht
  cases b with
  | false =>
    simp only [Bool.false_eq_true, if_false] at ht ⊢
    rw [if_pos ⟨trivial, by omega, by omega⟩, Int.toNat_natCast]
  | true =>
    simp only [if_true] at ht ⊢
    rw [if_neg (fun e => ww e.1), if_pos ⟨trivial, by omega, by omega⟩, Int.toNat_natCast]
theorem isThr_of (w h : Nat) (x : D) : isThr x w h = (thOf w h x).isSome := by
  unfold isThr thOf
  split
  · rename_i s y
    by_cases hi : ∃ i, y = .int i
    · obtain ⟨i, rfl⟩ := hi
      by_cases h1 : s = "warp"
      · subst h1
        simp only [if_true, true_and]
        have h2 : ¬ (("warp" : Str) = "weft") := by decide +kernel
        simp only [h2, false_and, if_false]
        by_cases hc : 0 ≤ i ∧ i < (w : Int)
        · rw [if_pos hc]
          simp [isInt]; omega
        · rw [if_neg hc]
          simp [isInt]; omega
      · simp only [h1, false_and, if_false]
        by_cases h2 : s = "weft"
        · subst h2
          simp only [if_true, true_and]
          by_cases hc : 0 ≤ i ∧ i < (h : Int)
          · rw [if_pos hc]
            simp [isInt]; omega
          · rw [if_neg hc]
            simp [isInt]; omega
        · simp [h2]
    · have hn : ∀ lo hi2, isInt y lo hi2 = false := fun lo hi2 => by
        cases y <;> first | rfl | exact absurd ⟨_, rfl⟩ hi
      rw [hn, hn]
      have e : ∀ (f : Int → Option Th), (match (D.tup [.str s, y] : D) with | .tup [.str _, .int i] => f i | _ => none) = none := fun f => by
        cases y <;> first | rfl | exact absurd ⟨_, rfl⟩ hi
      cases y <;> first | (simp; done) | exact absurd ⟨_, rfl⟩ hi
  · rename_i hx
    split
    · exact absurd rfl (hx _ _)
    · rfl
def thP (t : Th) : PyData := .tuple [.str (kdS t.1), .int t.2]
theorem kd_inj : ∀ {a b : Bool}, kdS a = kdS b → a = b := by
  have : ¬ (kdS false = kdS true) := by decide +kernel
  intro a b h
  cases a <;> cases b <;> first | rfl | exact absurd h this | exact absurd h.symm this
theorem thP_eqv (p q : Th) : PyData.eqv (thP p) (thP q) = decide (p = q) := by
  obtain ⟨a, n⟩ := p
  obtain ⟨b, m⟩ := q
  have e : PyData.eqv (thP (a, n)) (thP (b, m)) = ((kdS a == kdS b) && (((n : Int) == (m : Int)) && true)) := by simp only [thP, PyData.eqv, PyData.eqvAll]
  rw [e, Bool.eq_iff_iff]
  simp only [Bool.and_true, Bool.and_eq_true, beq_iff_eq, decide_eq_true_eq, Prod.mk.injEq]
  constructor
  · rintro ⟨h1, h2⟩
    exact ⟨kd_inj h1, by omega⟩
  · rintro ⟨rfl, rfl⟩
    exact ⟨rfl, rfl⟩
theorem thP_any (ps : List Th) (p : Th) : ((ps.map thP).any fun z => PyData.eqv z (thP p)) = decide (p ∈ ps) := by
  induction ps with
  | nil => rfl
  | cons q ps ih =>
    rw [List.map_cons, List.any_cons, ih, thP_eqv]
    by_cases h : q = p
    · subst h; simp
    · have h2 : ¬ p = q := fun e => h e.symm
      simp [h, h2]
theorem thP_lay1 (p : Th) : (thP p).canLay0 = true := by
  obtain ⟨a, n⟩ := p
  cases a <;> first | rfl | (simp [thP, PyData.canLay0, PyData.canLayAll0]; decide +kernel) | (show ((PyData.str _).canLay0 && (PyData.canLayAll0 [PyData.int n])) = true; rw [show (PyData.canLayAll0 [PyData.int n]) = true from rfl]; decide +kernel)
theorem thP_lay : ∀ ps : List Th, PyData.canLayAll0 (ps.map thP) = true
  | [] => rfl
  | p :: ps => by
    rw [List.map_cons]
    show ((thP p).canLay0 && PyData.canLayAll0 (ps.map thP)) = true
    rw [thP_lay ps, thP_lay1]
    rfl
theorem thP_ok (ps : List Th) (p : Th) : inOk (thP p) (ps.map thP) = true := by
  show (PyData.canLayAll0 (ps.map thP) && (thP p).canLay0 && decide ((thP p).depth ≤ 60)) = true
  rw [thP_lay, thP_lay1]
  rfl
/-- a thread in a list or tuple of threads -/
theorem in_th {neg : Bool} {p : Th} {v : D} {c : Cs} {ps : List Th} (hs : seqOf v c = some (ps.map thD)) (hr : ∀ xs, v ≠ .ro xs) : inY neg (thD p) v c = .ok (.bl (sgn neg (decide (p ∈ ps)))) c := by
  have hm : mapO (toPyC 29 c) (ps.map thD) = some (ps.map thP) := mapO_map (fun p => rfl) ps
  have e1 : inX neg (thD p) v c = .stuck := by
    cases v with
    | lst xs => rfl
    | tup xs => rfl
    | ro xs => exact absurd rfl (hr xs)
    | ref k =>
      show (match lstOf (.ref k) c with
        | some xs => inL neg (thD p) xs c
        | none => .stuck) = _
      cases lstOf (.ref k) c <;> rfl
    | _ => cases hs
  have e2 : ∃ b, toPyC 30 c v = some b ∧ seqP b = some (ps.map thP) := by
    cases v with
    | lst xs => cases hs; exact ⟨_, by show (mapO (toPyC 29 c) _).map PyData.list = _; rw [hm]; rfl, rfl⟩
    | tup xs => cases hs; exact ⟨_, by show (mapO (toPyC 29 c) _).map PyData.tuple = _; rw [hm]; rfl, rfl⟩
    | ro xs => exact absurd rfl (hr xs)
    | ref k =>
      have hs : (match c[k]? with
        | some (.lst xs) => some xs
        | _ => none) = some (ps.map thD) := hs
      cases q : c[k]? with
      | none => rw [q] at hs; cases hs
      | some y =>
        rw [q] at hs
        cases y with
        | lst zs =>
          cases hs
          exact ⟨_, by rw [toPyC_lst q, hm]; rfl, rfl⟩
        | _ => cases hs
    | _ => cases hs
  obtain ⟨b, e2, e3⟩ := e2
  unfold inY
  rw [e1]
  show inQ neg (thD p) v c = _
  unfold inQ
  rw [show toPyC 30 c (thD p) = some (thP p) from rfl, e2]
  simp only [e3]
  rw [if_pos (thP_ok ps p), thP_any]

def ItQ (x : D) (c : Cs) : Prop := (tyD x c).isSome = true ∧ ∀ ys, x = .tup ys → ∀ y ∈ ys, (tyD y c).isSome = true
theorem is_crossing_eq {x : D} {c : Cs} {w h : Nat} (hx : ItQ x c) : gis_crossing [x, .int w, .int h] c = .ok (.bl (crOf w h x).isSome) c := by
  have hz : sizeLine = 16777216 := sizeLine_eq
  obtain ⟨t, ht⟩ := Option.isSome_iff_exists.mp hx.1
  have e0 := isi_tup ht
  rw [isT_tup ht] at e0
  refine ok_eq (Ok.fun rfl ?_)
  unfold cis_crossing
  refine os_seq (os_if (ok_tor (ok_tnot (ok_t (ok_cb (ok_acons (ok_var rfl (ok_acons (ok_c (ok_anil (Ok.of e0 ⟨_, rfl, ?_⟩)))))))))))
  by_cases hxt : ∃ ys, x = .tup ys
  · obtain ⟨ys, rfl⟩ := hxt
    refine ⟨fun h => Bool.noConfusion h, fun _ => ?_⟩
    refine ok_t (ok_op (ok_cb (ok_acons (ok_var rfl (ok_anil (Ok.of (len_seq rfl) (ok_c ⟨_, _, rfl, _, rfl, fun h => ?_, fun h => os_nil ?_⟩)))))))
    · have h : (!decide ((ys.length : Int) = 2)) = true := h
      refine os_ret (ok_c ⟨?_, rfl⟩)
      match ys, h with
      | [], _ => rfl
      | [a], _ => cases a <;> rfl
      | [a, b], h => simp at h
      | a :: b :: d :: r, _ => cases a <;> (cases b <;> rfl)
    · have h : (!decide ((ys.length : Int) = 2)) = false := h
      match ys, h, hx with
      | [], h, _ => simp at h
      | [a], h, _ => simp at h
      | a :: b :: d :: r, h, _ => simp at h; omega
      | [a, b], _, hx =>
        have ta := hx.2 _ rfl a (by simp)
        have tb := hx.2 _ rfl b (by simp)
        rw [crOf_two]
        refine os_ret (ok_and (ok_cb (ok_acons (ok_op (ok_var rfl (ok_c (Ok.of (show itemD (.tup [a, b]) (.int 0) c = .ok a c from rfl) (ok_acons (ok_c (ok_acons (ok_op (ok_var rfl (ok_c ⟨_, _, rfl, ok_anil (Ok.of (is_integer_eq ta) ⟨_, rfl, fun h => ?_, fun h => ?_⟩)⟩)))))))))))))
        · refine ok_cb (ok_acons (ok_op (ok_var rfl (ok_c (Ok.of (show itemD (.tup [a, b]) (.int 1) c = .ok b c from rfl) (ok_acons (ok_c (ok_acons (ok_op (ok_var rfl (ok_c ⟨_, _, rfl, ok_anil (Ok.of (is_integer_eq tb) ⟨?_, rfl⟩)⟩)))))))))))
          rw [h]; rfl
        · refine ⟨?_, rfl⟩
          rw [h]; rfl
  · have hf : isTup x = false := by
      cases x <;> first | rfl | exact absurd ⟨_, rfl⟩ hxt
    rw [hf]
    refine ⟨fun _ => ⟨fun _ => os_ret (ok_c ⟨?_, rfl⟩), fun h => Bool.noConfusion h⟩, fun h => Bool.noConfusion h⟩
    cases x <;> first | rfl | exact absurd ⟨_, rfl⟩ hxt

/-! ### threads and who lies over whom -/
theorem nW : ¬ (("warp" : Str) = "weft") := by decide +kernel
def thL (w g : Nat) : List Th := (List.range w).map (fun i => (false, i)) ++ (List.range g).map fun i => (true, i)
theorem thL_mem {w g : Nat} {t : Th} : t ∈ thL w g ↔ inB2 w g t := by
  obtain ⟨b, n⟩ := t
  unfold thL inB2
  cases b <;> simp
theorem thL_len (w g : Nat) : (thL w g).length = w + g := by simp [thL]
theorem threads_eq {c : Cs} {ys : List Str} {w : Nat} (hr : RwS ys w) : gCloth__threads [clo ys] c = .ok (.lst ((thL w ys.length).map thD)) c := by
  have hz : sizeLine = 16777216 := sizeLine_eq
  have n8 := hr.n8
  have w8 := hr.w8
  refine ok_eq (Ok.fun rfl ?_)
  unfold cCloth__threads
  have bd : ∀ (b : Bool) (i : Nat) (l : Ls), 3 ≤ l.length → Ok (gN 2 (.int (i : Nat)) (wipeL l [2]) c) fun l1 c1 => c1 = c ∧ Ok (mTup (aCons (mC (.str (kdS b))) (aCons (mVar 2) (aNil))) l1 c) fun d c3 => d = thD (b, i) ∧ c3 = c := fun b i l hl => by
    refine ok_gn ⟨rfl, ok_tup (ok_acons (ok_c (ok_acons (ok_var ?_ (ok_anil ⟨Nat.le_of_ble_eq_true rfl, rfl, rfl⟩)))))⟩
    rw [List.getElem?_set_self (by simp [wipeL]; omega)]
  refine os_seq (os_set (ok_lcR w (fun i => thD (false, i)) (by omega) ?_ (fun i hi => bd false i _ (by simp)) ?_))
  · exact ok_acons (ok_clprop (ok_var rfl ⟨⟨ys, clo_is ys _⟩, Ok.of (warp_eq (clo_is ys _) hr) (ok_anil ⟨rfl, rfl⟩)⟩))
  refine os_ret (ok_lst (ok_star (ok_var rfl ⟨_, rfl, ok_star (ok_lcR ys.length (fun i => thD (true, i)) (by omega) ?_ (fun i hi => bd true i _ (by simp)) ⟨_, rfl, ?_⟩)⟩)))
  · exact ok_acons (ok_clprop (ok_var rfl ⟨⟨ys, clo_is ys _⟩, Ok.of (weft_eq (clo_is ys _)) (ok_anil ⟨rfl, rfl⟩)⟩))
  refine ok_anil ⟨by simp; omega, ?_, rfl⟩
  unfold thL
  rw [List.map_append, List.map_map, List.map_map, List.append_nil]
  rfl
theorem thD_val (t : Th) (c : Cs) : Val (thD t) c := fun x hx => by
  simp only [List.mem_cons, List.not_mem_nil, or_false] at hx
  rcases hx with rfl | rfl <;> rfl
theorem contains_eq {c : Cs} {ys : List Str} {w : Nat} {x : D} (hr : RwS ys w) (hx : Val x c) : gCloth____contains__ [clo ys, x] c = .ok (.bl (thOf w ys.length x).isSome) c := by
  refine ok_eq (Ok.fun rfl ?_)
  unfold cCloth____contains__
  refine os_ret (ok_cb (ok_acons (ok_var rfl (ok_acons (ok_clprop (ok_var rfl ⟨⟨ys, clo_is ys _⟩, Ok.of (warp_eq (clo_is ys _) hr) (ok_acons (ok_clprop (ok_var rfl ⟨⟨ys, clo_is ys _⟩, Ok.of (weft_eq (clo_is ys _)) (ok_anil ?_)⟩)))⟩))))))
  have et := is_thread_eq (w := (w : Int)) (h := (ys.length : Int)) hx
  rw [isThr_of] at et
  exact Ok.of et ⟨rfl, rfl⟩
def sgn1 (ys : List Str) (i j : Nat) : Bool := decide ((ys.getD j "").cps.toList.getD i 0 = 49)
def ovr (ys : List Str) (a b : Th) : Bool := if a.1 = false then sgn1 ys a.2 b.2 else !sgn1 ys b.2 a.2
def crT (a b : Th) : Nat × Nat := if a.1 = false then (a.2, b.2) else (b.2, a.2)
theorem th0 (t : Th) (c : Cs) : itemD (thD t) (.int 0) c = .ok (.str (kdS t.1)) c := rfl
theorem th1 (t : Th) (c : Cs) : itemD (thD t) (.int 1) c = .ok (.int t.2) c := rfl
theorem eq_kd (a b : Bool) (c : Cs) : eqX (.str (kdS a)) (.str (kdS b)) c = .ok (.bl (a == b)) c := by
  cases a <;> cases b <;> kernel_rfl
theorem ne_kd (a b : Bool) (c : Cs) : neX (.str (kdS a)) (.str (kdS b)) c = .ok (.bl (!(a == b))) c := by
  cases a <;> cases b <;> kernel_rfl
theorem crossing_eq (a b : Th) (c : Cs) : gcrossing_of [thD a, thD b] c = .ok (if a.1 = b.1 then .non else crD (crT a b)) c := by
  refine ok_eq (Ok.fun rfl ?_)
  unfold ccrossing_of
  refine os_seq (os_if (ok_t (ok_op (ok_op (ok_var rfl (ok_c (Ok.of (th0 a c) (ok_op (ok_var rfl (ok_c (Ok.of (th0 b c) (Ok.of (eq_kd _ _ _) ⟨_, rfl, fun h => ?_, fun h => os_nil ?_⟩))))))))))))
  · exact os_ret (ok_c ⟨by rw [if_pos (eq_of_beq h)], rfl⟩)
  have hne : ¬ a.1 = b.1 := fun e => by rw [e] at h; simp at h
  rw [if_neg hne]
  refine os_ret (ok_if (ok_t (ok_op (ok_op (ok_var rfl (ok_c (Ok.of (th0 a c) (ok_c (Ok.of (eq_kd a.1 false c) ⟨_, rfl, fun h => ?_, fun h => ?_⟩)))))))))
  · refine ok_tup (ok_acons (ok_op (ok_var rfl (ok_c (Ok.of (th1 a c) (ok_acons (ok_op (ok_var rfl (ok_c (Ok.of (th1 b c) (ok_anil ⟨Nat.le_of_ble_eq_true rfl, ?_, rfl⟩)))))))))))
    unfold crT
    rw [if_pos (eq_of_beq h)]
    rfl
  · refine ok_tup (ok_acons (ok_op (ok_var rfl (ok_c (Ok.of (th1 b c) (ok_acons (ok_op (ok_var rfl (ok_c (Ok.of (th1 a c) (ok_anil ⟨Nat.le_of_ble_eq_true rfl, ?_, rfl⟩)))))))))))
    unfold crT
    rw [if_neg (fun e => by rw [e] at h; cases h)]
    rfl
theorem crD_itQ (p : Nat × Nat) (c : Cs) : ItQ (crD p) c := ⟨rfl, fun ys e y hy => by
  cases e
  simp only [List.mem_cons, List.not_mem_nil, or_false] at hy
  rcases hy with rfl | rfl <;> rfl⟩
theorem crOf_cr2 {w h i j : Nat} (hi : i < w) (hj : j < h) : crOf w h (crD (i, j)) = some (i, j) := by
  show (if 0 ≤ (i : Int) ∧ (i : Int) < (w : Int) ∧ 0 ≤ (j : Int) ∧ (j : Int) < (h : Int) then some ((i : Int).toNat, (j : Int).toNat) else none) = _
  rw [if_pos ⟨by omega, by omega, by omega, by omega⟩]
  rfl
theorem getitem_eq {c : Cs} {ys : List Str} {w i j : Nat} (hr : RwS ys w) (hi : i < w) (hj : j < ys.length) : gCloth____getitem__ [clo ys, crD (i, j)] c = .ok (.bl (sgn1 ys i j)) c := by
  have hz : sizeLine = 16777216 := sizeLine_eq
  have w8 := hr.w8
  have hm := List.getElem_mem hj
  have hl := hr.len _ hm
  have hil : i < ys[j].cps.toList.length := by rw [len_cps, hl]; exact hi
  have hy : ys.getD j "" = ys[j] := by simp [hj]
  refine ok_eq (Ok.fun rfl ?_)
  unfold cCloth____getitem__
  refine os_seq (os_if (ok_tnot (ok_t (ok_cb (ok_acons (ok_var rfl (ok_acons (ok_clprop (ok_var rfl ⟨⟨ys, clo_is ys _⟩, Ok.of (warp_eq (clo_is ys _) hr) (ok_acons (ok_clprop (ok_var rfl ⟨⟨ys, clo_is ys _⟩, Ok.of (weft_eq (clo_is ys _)) (ok_anil (Ok.of (is_crossing_eq (crD_itQ _ _)) ⟨_, rfl, fun h => ?_, fun _ => os_nil ?_⟩))⟩)))⟩)))))))))
  · rw [crOf_cr2 hi hj] at h; cases h
  refine os_ret (ok_op (ok_op (ok_op (ok_kept (ok_var rfl ⟨ys, clo_is ys _, ?_⟩)))))
  refine ok_op (ok_var rfl (ok_c (Ok.of (show itemD (crD (i, j)) (.int 1) c = .ok (.int (j : Nat)) c from rfl) ?_)))
  refine Ok.of (item_seq (x := .str ys[j]) (show seqOf (.lst (ys.map D.str)) c = some (ys.map D.str) from rfl) (by simp [hj])) ?_
  refine ok_op (ok_var rfl (ok_c (Ok.of (show itemD (crD (i, j)) (.int 0) c = .ok (.int (i : Nat)) c from rfl) ?_)))
  refine Ok.of (item_str_at (by omega) hil) (ok_c ⟨_, _, rfl, ?_, rfl⟩)
  unfold sgn1
  rw [hy]
  generalize ys[j].cps.toList.getD i 0 = k
  have : (⟨#[k]⟩ : Str) = "1" ↔ k = 49 := ⟨fun e => by
    have := congrArg (fun s : Str => s.cps.toList) e
    have e1 : ("1" : Str).cps.toList = [49] := by decide +kernel
    simp only [e1] at this
    simpa using this, fun e => by subst e; rfl⟩
  simp only [this]
theorem thOf_some {w g : Nat} {t : Th} (h : inB2 w g t) : (thOf w g (thD t)).isSome = true := by rw [thOf_th h]; rfl
theorem crT_lt {w g : Nat} {a b : Th} (ha : inB2 w g a) (hb : inB2 w g b) (hne : a.1 ≠ b.1) : (crT a b).1 < w ∧ (crT a b).2 < g := by
  obtain ⟨x, i⟩ := a
  obtain ⟨y, j⟩ := b
  unfold crT inB2 at *
  cases x <;> cases y <;> simp_all
theorem over_eq {c : Cs} {ys : List Str} {w : Nat} {a b : Th} (hr : RwS ys w) (ha : inB2 w ys.length a) (hb : inB2 w ys.length b) (hne : a.1 ≠ b.1) : gCloth__over [clo ys, thD a, thD b] c = .ok (.bl (ovr ys a b)) c := by
  refine ok_eq (Ok.fun rfl ?_)
  unfold cCloth__over
  refine os_seq (os_if (ok_t (ok_op (ok_var rfl (ok_var rfl (ok_inI (clo_is ys _) (Ok.of (contains_eq hr (thD_val a c)) ⟨_, rfl, _, rfl, fun h => ?_, fun _ => os_nil ?_⟩)))))))
  · rw [thOf_some ha] at h; cases h
  refine os_seq (os_if (ok_tor (ok_t (ok_op (ok_var rfl (ok_var rfl (ok_inI (clo_is ys _) (Ok.of (contains_eq hr (thD_val b c)) ⟨_, rfl, _, rfl, fun h => ?_, fun _ => ?_⟩))))))))
  · rw [thOf_some hb] at h; cases h
  obtain ⟨c1, c2⟩ := crT_lt ha hb hne
  refine ok_t (ok_op (ok_cb (ok_acons (ok_var rfl (ok_acons (ok_var rfl (ok_anil (Ok.of (crossing_eq a b c) (ok_c ⟨.bl false, c, ?_, _, rfl, fun h => Bool.noConfusion h, fun _ => os_nil ?_⟩)))))))))
  · rw [if_neg hne]; rfl
  refine os_ret (ok_op (ok_op (ok_var rfl (ok_cb (ok_acons (ok_var rfl (ok_acons (ok_var rfl (ok_anil (Ok.of (crossing_eq a b c) ?_))))))))))
  rw [if_neg hne]
  refine ok_ixI (clo_is ys _) (Ok.of (getitem_eq (i := (crT a b).1) (j := (crT a b).2) hr c1 c2) ?_)
  refine ok_op (ok_op (ok_var rfl (ok_c (Ok.of (th0 a c) (ok_c (Ok.of (eq_kd a.1 false c) ⟨_, _, rfl, ?_, rfl⟩))))))
  unfold ovr crT
  obtain ⟨x, i⟩ := a
  cases x
  · show D.bl (decide (sgn1 ys i b.2 = true)) = D.bl (sgn1 ys i b.2)
    cases sgn1 ys i b.2 <;> rfl
  · show D.bl (decide (sgn1 ys b.2 i = false)) = D.bl (!sgn1 ys b.2 i)
    cases sgn1 ys b.2 i <;> rfl

/-! ### exchanged signs, in plain lists -/
def ngS (ys : List Str) : List Str := ys.map fun y => mkS (y.cps.toList.map exch)
theorem ng_len (ys : List Str) : (ngS ys).length = ys.length := by simp [ngS]
theorem map_exch_bits {ks : List Nat} (h : ks.all bitB = true) : (ks.map exch).all bitB = true := by
  refine List.all_eq_true.mpr fun k hk => ?_
  obtain ⟨x, hx, rfl⟩ := List.mem_map.mp hk
  exact (exch_bit (List.all_eq_true.mp h x hx)).1
theorem RwS.ng {ys : List Str} {w : Nat} (h : RwS ys w) : RwS (ngS ys) w := by
  refine ⟨by rw [ng_len]; exact h.n1, by rw [ng_len]; exact h.n8, h.w1, h.w8, fun z hz => ?_, fun z hz => ?_⟩
  · obtain ⟨y, hy, rfl⟩ := List.mem_map.mp hz
    rw [← len_cps, mkS_cps, List.length_map, len_cps]
    exact h.len y hy
  · obtain ⟨y, hy, rfl⟩ := List.mem_map.mp hz
    unfold bitS
    rw [mkS_cps]
    exact map_exch_bits (h.bit y hy)
/-! ### columns -/
def colL (ys : List Str) (i : Nat) : List Nat := ys.map fun y => y.cps.toList.getD i 0
theorem col_len (ys : List Str) (i : Nat) : (colL ys i).length = ys.length := by simp [colL]
theorem RwS.getD {ys : List Str} {w i : Nat} (h : RwS ys w) (hi : i < w) {y : Str} (hy : y ∈ ys) : ∃ hl : i < y.cps.toList.length, y.cps.toList.getD i 0 = y.cps.toList[i] ∧ bitB (y.cps.toList[i]) = true := by
  have hl : i < y.cps.toList.length := by rw [len_cps, h.len y hy]; exact hi
  exact ⟨hl, by rw [List.getD_eq_getElem?_getD, List.getElem?_eq_getElem hl]; rfl, List.all_eq_true.mp (h.bit y hy) _ (List.getElem_mem hl)⟩
theorem RwS.col_bits {ys : List Str} {w i : Nat} (h : RwS ys w) (hi : i < w) : (colL ys i).all bitB = true := by
  refine List.all_eq_true.mpr fun k hk => ?_
  obtain ⟨y, hy, rfl⟩ := List.mem_map.mp hk
  obtain ⟨hl, e, b⟩ := h.getD hi hy
  rw [e]; exact b
def tpS (ys : List Str) (w : Nat) : List Str := (List.range w).map fun i => mkS ((colL ys i).map exch)
theorem tp_rws {ys : List Str} {w : Nat} (h : RwS ys w) : RwS (tpS ys w) ys.length := by
  refine ⟨by simp [tpS]; exact h.w1, by simp [tpS]; exact h.w8, h.n1, h.n8, fun z hz => ?_, fun z hz => ?_⟩
  · obtain ⟨i, hi, rfl⟩ := List.mem_map.mp hz
    rw [← len_cps, mkS_cps, List.length_map, col_len]
  · obtain ⟨i, hi, rfl⟩ := List.mem_map.mp hz
    unfold bitS
    rw [mkS_cps]
    exact map_exch_bits (h.col_bits (List.mem_range.mp hi))
/-! ### what raises -/
def ExR {α : Type} (r : Mi.R α) (X : Ex → Cs → Prop) : Prop := ∃ x c, r = .exc x c ∧ X x c
def ExS (r : RS) (X : Ex → Cs → Prop) : Prop := ∃ x l c, r = .exc x l c ∧ X x c
section
variable {l : Ls} {c : Cs} {X : Ex → Cs → Prop} {f g : MS} {a : ME}
theorem ExR.of {α : Type} {r : Mi.R α} {x : Ex} (e : r = .exc x c) (h : X x c) : ExR r X := ⟨x, c, e, h⟩
theorem ex_bind {α β : Type} {r : Mi.R α} {f : α → Cs → Mi.R β} (h : Ok r fun a c => ExR (f a c) X) : ExR (r.bind f) X := by
  obtain ⟨a, c, rfl, h⟩ := h
  exact h
theorem ex_fun {n k : Nat} {b : MS} {ds : List D} (hl : ds.length = k) (h : ExS (b (ds.map some ++ List.replicate (n - k) none) c) X) : ExR (mFun n k b ds c) X := by
  obtain ⟨x, l', c', e, h⟩ := h
  refine ⟨x, c', ?_, h⟩
  unfold mFun
  rw [if_pos hl, e]
theorem exs_here (h : ExS (f l c) X) : ExS (sSeq f g l c) X := by
  obtain ⟨x, l', c', e, h⟩ := h
  refine ⟨x, l', c', ?_, h⟩
  show (f l c).next g = _
  rw [e]
  rfl
theorem exs_next (h : OkS (f l c) fun fl c1 => match fl with
    | .nx l1 => ExS (g l1 c1) X
    | _ => False) : ExS (sSeq f g l c) X := by
  obtain ⟨fl, c1, e, h⟩ := h
  cases fl with
  | nx l1 =>
    obtain ⟨x, l', c', e2, h⟩ := h
    refine ⟨x, l', c', ?_, h⟩
    show (f l c).next g = _
    rw [e]
    exact e2
  | rt d => exact h.elim
  | bk l1 => exact h.elim
  | ct l1 => exact h.elim
theorem exs_if {p : MT} (h : Ok (p l c) fun k c1 => (k = true → ExS (f l c1) X) ∧ (k = false → ExS (g l c1) X)) : ExS (sIf p f g l c) X := by
  obtain ⟨k, c1, e, h1, h2⟩ := h
  have e2 : sIf p f g l c = (if k = true then f l c1 else g l c1) := by
    show (p l c).seq l _ = _
    rw [e]
    cases k <;> rfl
  rw [e2]
  cases k with
  | true => exact h1 rfl
  | false => exact h2 rfl
theorem exs_raise {n s : Str} (h : Ok (a l c) fun d c1 => X ⟨n, [(s, d)]⟩ c1) : ExS (sRaise n s a l c) X := by
  obtain ⟨d, c1, e, h⟩ := h
  refine ⟨_, l, c1, ?_, h⟩
  show (a l c).seq l _ = _
  rw [e]
  rfl
theorem ex_clmeth {h : List D → Cs → Mi.R D} {mm : Str} {o : ME} {t : MA} (hm : (mm == ("kept_rows" : Str)) = false) (q : Ok (o l c) fun x c1 => (∃ ys, IsCl x c1 ys) ∧ Ok (t l c1) fun xs c2 => ExR (h (x :: xs) c2) X) : ExR (mMeth [("Cloth", h)] mm o t l c) X :=
  ex_bind (q.mono fun x c1 ⟨⟨ys, hx⟩, q⟩ => by
    rw [viaT_eq hx, lk_ne hm]
    exact ex_bind q)
end

def crsL (w g : Nat) (a : Th) : List Th := (thL w g).filter fun t => !(t.1 == a.1)
theorem crs_mem {w g : Nat} {a t : Th} : t ∈ crsL w g a ↔ inB2 w g t ∧ t.1 ≠ a.1 := by
  unfold crsL
  rw [List.mem_filter, thL_mem]
  simp
theorem crs_len (w g : Nat) (a : Th) : (crsL w g a).length ≤ w + g := by
  have := List.length_filter_le (fun t : Th => !(t.1 == a.1)) (thL w g)
  rw [thL_len] at this
  exact this
theorem crossed_eq {c : Cs} {ys : List Str} {w : Nat} {a : Th} (hr : RwS ys w) (ha : inB2 w ys.length a) : gCloth__crossed [clo ys, thD a] c = .ok (.lst ((crsL w ys.length a).map thD)) c := by
  have n8 := hr.n8
  have w8 := hr.w8
  refine ok_eq (Ok.fun rfl ?_)
  unfold cCloth__crossed
  refine os_seq (os_if (ok_t (ok_op (ok_var rfl (ok_var rfl (ok_inI (clo_is ys _) (Ok.of (contains_eq hr (thD_val a c)) ⟨_, rfl, _, rfl, fun h => ?_, fun _ => os_nil ?_⟩)))))))
  · rw [thOf_some ha] at h; cases h
  have hit : iLst (mMeth [("Cloth", gCloth__threads)] "threads" (mVar 0) aNil) [some (clo ys), some (thD a), none] c = .ok ((thL w ys.length).map thD) c := by
    have : (mMeth [("Cloth", gCloth__threads)] "threads" (mVar 0) aNil) [some (clo ys), some (thD a), none] c = .ok (.lst ((thL w ys.length).map thD)) c := Ok.eq (ok_clmeth (by decide +kernel) (ok_var rfl ⟨⟨ys, clo_is ys _⟩, ok_anil (Ok.of (threads_eq hr) ⟨rfl, rfl⟩)⟩))
    unfold iLst
    rw [this]
    rfl
  refine os_ret (ok_mlc hit (by rw [List.length_map, thL_len]; omega) (ok_lcT (thL w ys.length) thD thD (fun t => !(t.1 == a.1)) (by rw [thL_len]; omega) (ok_kfix hit ⟨rfl, fun _ _ => rfl⟩) (fun t ht => ok_gn ⟨rfl, ?_⟩) ⟨rfl, rfl⟩))
  exact ok_t (ok_op (ok_op (ok_var rfl (ok_c (Ok.of (th0 t c) (ok_op (ok_var rfl (ok_c (Ok.of (th0 a c) (Ok.of (ne_kd _ _ _) ⟨_, rfl, rfl, rfl, fun _ => ok_var rfl ⟨rfl, rfl⟩⟩))))))))))
def blwL (ys : List Str) (w : Nat) (a : Th) : List Th := (crsL w ys.length a).filter fun t => ovr ys a t
def abvL (ys : List Str) (w : Nat) (a : Th) : List Th := (crsL w ys.length a).filter fun t => !ovr ys a t
theorem crs_hit {c : Cs} {ys : List Str} {w : Nat} {a : Th} {o : Option D} (hr : RwS ys w) (ha : inB2 w ys.length a) : iLst (mMeth [("Cloth", gCloth__crossed)] "crossed" (mVar 0) (aCons (mVar 1) (aNil))) [some (clo ys), some (thD a), o] c = .ok ((crsL w ys.length a).map thD) c := by
  have : (mMeth [("Cloth", gCloth__crossed)] "crossed" (mVar 0) (aCons (mVar 1) (aNil))) [some (clo ys), some (thD a), o] c = .ok (.lst ((crsL w ys.length a).map thD)) c := Ok.eq (ok_clmeth (by decide +kernel) (ok_var rfl ⟨⟨ys, clo_is ys _⟩, ok_acons (ok_var rfl (ok_anil (Ok.of (crossed_eq hr ha) ⟨rfl, rfl⟩)))⟩))
  unfold iLst
  rw [this]
  rfl
theorem blw_len (ys : List Str) (w : Nat) (a : Th) : (blwL ys w a).length ≤ w + ys.length := Nat.le_trans (List.length_filter_le _ _) (crs_len w ys.length a)
theorem abv_len (ys : List Str) (w : Nat) (a : Th) : (abvL ys w a).length ≤ w + ys.length := Nat.le_trans (List.length_filter_le _ _) (crs_len w ys.length a)

/-! ### the lists that are handed out -/
theorem ok_lcMI {α : Type} {l : Ls} {c : Cs} {g : MG} {e : ME} {Q : D → Cs → Prop} {it : MI} {t : MT} {js : List Nat} (h : Ok (mLc it js g t e l c) fun d c2 => ∃ xs, d = .lst xs ∧ Q (.ref c2.length) (c2 ++ [.lst xs])) : Ok (mLcM it js g t e l c) Q := by
  unfold mLc at h
  unfold mLcM
  cases e1 : it l c with
  | stuck => rw [e1] at h; obtain ⟨_, _, h, _⟩ := h; cases h
  | exc => rw [e1] at h; obtain ⟨_, _, h, _⟩ := h; cases h
  | ok w c1 =>
    rw [e1] at h
    simp only [R.bind_ok] at h ⊢
    cases e2 : compD g t e (wipeL l js) w [] c1 with
    | stuck => rw [e2] at h; obtain ⟨_, _, h, _⟩ := h; cases h
    | exc => rw [e2] at h; obtain ⟨_, _, h, _⟩ := h; cases h
    | ok xs c2 =>
      rw [e2] at h
      obtain ⟨d, c3, e3, ys, rfl, q⟩ := h
      cases e3
      exact ⟨_, _, rfl, q⟩
theorem seqR {j : Nat} {c : Cs} {xs : List D} (h : c[j]? = some (.lst xs)) : seqOf (.ref j) c = some xs := by simp [seqOf, h]
theorem below_ok {c : Cs} {ys : List Str} {w : Nat} {a : Th} {Q : D → Cs → Prop} (hr : RwS ys w) (ha : inB2 w ys.length a) (q : Q (.ref c.length) (c ++ [.lst ((blwL ys w a).map thD)])) : Ok (gCloth__below [clo ys, thD a] c) Q := by
  have n8 := hr.n8
  have w8 := hr.w8
  have hl := crs_len w ys.length a
  refine Ok.fun rfl ?_
  unfold cCloth__below
  refine os_ret (ok_lcMI (α := Nat) (ok_mlc (crs_hit hr ha) (by rw [List.length_map]; omega) (ok_lcT (crsL w ys.length a) thD thD (fun t => ovr ys a t) (by omega) (ok_kfix (crs_hit hr ha) ⟨rfl, fun _ _ => rfl⟩) (fun t ht => ok_gn ⟨rfl, ?_⟩) ⟨_, rfl, q⟩)))
  obtain ⟨h1, h2⟩ := crs_mem.mp ht
  exact ok_t (ok_clmeth (by decide +kernel) (ok_var rfl ⟨⟨ys, clo_is ys _⟩, ok_acons (ok_var rfl (ok_acons (ok_var rfl (ok_anil (Ok.of (over_eq hr ha h1 (fun e => h2 e.symm)) ⟨_, rfl, rfl, rfl, fun _ => ok_var rfl ⟨rfl, rfl⟩⟩)))))⟩))
theorem above_ok {c : Cs} {ys : List Str} {w : Nat} {a : Th} {Q : D → Cs → Prop} (hr : RwS ys w) (ha : inB2 w ys.length a) (q : Q (.ref c.length) (c ++ [.lst ((abvL ys w a).map thD)])) : Ok (gCloth__above [clo ys, thD a] c) Q := by
  have n8 := hr.n8
  have w8 := hr.w8
  have hl := crs_len w ys.length a
  refine Ok.fun rfl ?_
  unfold cCloth__above
  refine os_ret (ok_lcMI (α := Nat) (ok_mlc (crs_hit hr ha) (by rw [List.length_map]; omega) (ok_lcT (crsL w ys.length a) thD thD (fun t => !ovr ys a t) (by omega) (ok_kfix (crs_hit hr ha) ⟨rfl, fun _ _ => rfl⟩) (fun t ht => ok_gn ⟨rfl, ?_⟩) ⟨_, rfl, q⟩)))
  obtain ⟨h1, h2⟩ := crs_mem.mp ht
  exact ok_tnot (ok_t (ok_clmeth (by decide +kernel) (ok_var rfl ⟨⟨ys, clo_is ys _⟩, ok_acons (ok_var rfl (ok_acons (ok_var rfl (ok_anil (Ok.of (over_eq hr ha h1 (fun e => h2 e.symm)) ⟨_, rfl, rfl, rfl, fun _ => ok_var rfl ⟨rfl, rfl⟩⟩)))))⟩)))
theorem score_ok {c : Cs} {ys : List Str} {w : Nat} {a : Th} {Q : D → Cs → Prop} (hr : RwS ys w) (ha : inB2 w ys.length a) (q : ∀ c', Pfx c c' → Q (.int (blwL ys w a).length) c') : Ok (gCloth__score [clo ys, thD a] c) Q := by
  refine Ok.fun rfl ?_
  unfold cCloth__score
  refine os_ret (ok_cb (ok_acons (ok_clmeth (by decide +kernel) (ok_var rfl ⟨⟨ys, clo_is ys _⟩, ok_acons (ok_var rfl (ok_anil (below_ok hr ha (ok_anil (Ok.of (len_seq (seqR (cell_last _))) ?_)))))⟩))))
  rw [List.length_map]
  exact q _ (Pfx.one _ _)
def scoL (ys : List Str) (w : Nat) (b : Bool) : List Int := ((thL w ys.length).filter fun t => t.1 == b).map fun t => ((blwL ys w t).length : Int)
theorem thr_hit {c : Cs} {ys : List Str} {w : Nat} {l : Ls} (hr : RwS ys w) (h0 : l[0]? = some (some (clo ys))) : iLst (mMeth [("Cloth", gCloth__threads)] "threads" (mVar 0) aNil) l c = .ok ((thL w ys.length).map thD) c := by
  have : (mMeth [("Cloth", gCloth__threads)] "threads" (mVar 0) aNil) l c = .ok (.lst ((thL w ys.length).map thD)) c := Ok.eq (ok_clmeth (by decide +kernel) (ok_var h0 ⟨⟨ys, clo_is ys _⟩, ok_anil (Ok.of (threads_eq hr) ⟨rfl, rfl⟩)⟩))
  unfold iLst
  rw [this]
  rfl
theorem sco_lc {c : Cs} {ys : List Str} {w : Nat} {b : Bool} {l1 : Option D} {Q : D → Cs → Prop} (hr : RwS ys w) (q : ∀ c', Pfx c c' → Q (.ref c'.length) (c' ++ [.lst ((scoL ys w b).map D.int)])) : Ok (mLcM (iLst (mMeth [("Cloth", gCloth__threads)] "threads" (mVar 0) aNil)) [3] (gN 3) (mT (mOp eqX (mOp itemD (mVar 3) (mC (.int 0))) (mVar 2))) (mMeth [("Cloth", gCloth__score)] "score" (mVar 0) (aCons (mVar 3) (aNil))) [some (clo ys), l1, some (.str (kdS b)), none] c) Q := by
  have n8 := hr.n8
  have w8 := hr.w8
  refine ok_lcMI (α := Nat) (ok_mlc (thr_hit hr rfl) (by rw [List.length_map, thL_len]; omega) (ok_lcG (thL w ys.length) thD (fun t => D.int (blwL ys w t).length) (fun t => t.1 == b) (by rw [thL_len]; omega) (ok_kfix (thr_hit hr rfl) ⟨Pfx.refl _, fun _ _ _ _ => rfl⟩) (fun t ht c' p => ok_gn ⟨Pfx.refl _, ?_⟩) fun c' p => ⟨_, rfl, ?_⟩))
  · refine ok_t (ok_op (ok_op (ok_var rfl (ok_c (Ok.of (th0 t c') (ok_var rfl (Ok.of (eq_kd _ _ _) ⟨_, rfl, rfl, Pfx.refl _, fun _ => ?_⟩)))))))
    exact ok_clmeth (by decide +kernel) (ok_var rfl ⟨⟨ys, clo_is ys _⟩, ok_acons (ok_var rfl (ok_anil (score_ok hr (thL_mem.mp ht) fun c'' p => ⟨rfl, p⟩)))⟩)
  · have e : ((thL w ys.length).filter fun t => t.1 == b).map (fun t => D.int (blwL ys w t).length) = (scoL ys w b).map D.int := by
      unfold scoL
      rw [List.map_map]
      rfl
    rw [e]
    exact q c' p
theorem keys_ne : ¬ (("warp" : Str) = "weft") := by decide +kernel
theorem dcW_consG {g : MG} {t : MT} {kx vx : ME} {lw l1 : Ls} {w : Wk} {n i : Nat} {acc : List (Key × D)} {c c1 : Cs} {d y z : D} {k : Key} (hw : w i c = some (some d)) (hg : g d lw c = .ok l1 c) (ht : t l1 c = .ok true c) (hk : kx l1 c = .ok y c) (hv : vx l1 c = .ok z c1) (hy : Mi.keyOf y = some k) (hl : acc.length < sizeLine) :
    dcW g t kx vx lw w (n + 1) i acc c = dcW g t kx vx lw w n (i + 1) (putKD acc k z) c1 := by
  conv => lhs; unfold dcW
  rw [hw]
  simp only [hg, R.nox_ok, R.bind_ok, ht, hk, hv, hy]
  exact if_pos hl
theorem dcW_nil {g : MG} {t : MT} {kx vx : ME} {lw : Ls} {w : Wk} {n i : Nat} {acc : List (Key × D)} {c : Cs} (hw : w i c = some none) : dcW g t kx vx lw w (n + 1) i acc c = .ok acc c := by
  conv => lhs; unfold dcW
  rw [hw]
theorem kinds_ne : ¬ ((Sum.inr ("warp" : Str) : Key) = Sum.inr ("weft" : Str)) := fun e => nW (Sum.inr.inj e)
theorem dget_warp {k : Nat} {c : Cs} {x y : D} (hk : c[k]? = some (.dct [(.inr "warp", x), (.inr "weft", y)])) : dgetI (.ref k) (.str "warp") c = .ok x c := by
  have e : dctOf (.ref k) c = some [(.inr "warp", x), (.inr "weft", y)] := by simp [dctOf, hk]
  have g : getK [((.inr "warp" : Key), x), (.inr "weft", y)] (.inr "warp") = some x := by
    unfold getK
    rw [List.find?_cons]
    simp
  unfold dgetI
  rw [e]
  simp only [Mi.keyOf, g]
theorem dget_weft {k : Nat} {c : Cs} {x y : D} (hk : c[k]? = some (.dct [(.inr "warp", x), (.inr "weft", y)])) : dgetI (.ref k) (.str "weft") c = .ok y c := by
  have e : dctOf (.ref k) c = some [(.inr "warp", x), (.inr "weft", y)] := by simp [dctOf, hk]
  have g : getK [((.inr "warp" : Key), x), (.inr "weft", y)] (.inr "weft") = some y := by
    unfold getK
    rw [List.find?_cons]
    simp only [kinds_ne, decide_false]
    rw [List.find?_cons]
    simp
  unfold dgetI
  rw [e]
  simp only [Mi.keyOf, g]
theorem dget_kd {k : Nat} {c : Cs} {x y : D} (b : Bool) (hk : c[k]? = some (.dct [(.inr "warp", x), (.inr "weft", y)])) : dgetI (.ref k) (.str (kdS b)) c = .ok (if b = true then y else x) c := by
  cases b
  · exact dget_warp hk
  · exact dget_weft hk
theorem score_lists_c {c : Cs} {ys : List Str} {w : Nat} {Q : D → Cs → Prop} (hr : RwS ys w) (q : ∀ c' j1 j2, Pfx c c' → c.length ≤ j1 → j1 < j2 → c'[j1]? = some (.lst ((scoL ys w false).map D.int)) → c'[j2]? = some (.lst ((scoL ys w true).map D.int)) → Q (.tup [.ref j1, .ref j2]) c') : Ok (gCloth__score_lists [clo ys] c) Q := by
  have hz : sizeLine = 16777216 := sizeLine_eq
  obtain ⟨d1, c1, e1, j1, rfl, p1, a1, k1⟩ : ∃ d c1, mLcM (iLst (mMeth [("Cloth", gCloth__threads)] "threads" (mVar 0) aNil)) [3] (gN 3) (mT (mOp eqX (mOp itemD (mVar 3) (mC (.int 0))) (mVar 2))) (mMeth [("Cloth", gCloth__score)] "score" (mVar 0) (aCons (mVar 3) (aNil))) [some (clo ys), none, some (.str (kdS false)), none] c = .ok d c1 ∧ ∃ j, d = .ref j ∧ Pfx c c1 ∧ c.length ≤ j ∧ c1[j]? = some (.lst ((scoL ys w false).map D.int)) :=
    sco_lc (Q := fun d c1 => ∃ j, d = .ref j ∧ Pfx c c1 ∧ c.length ≤ j ∧ c1[j]? = some (.lst ((scoL ys w false).map D.int))) hr fun c' p => ⟨_, rfl, p.app _, p.len, cell_last _⟩
  obtain ⟨d2, c2, e2, j2, rfl, p2, a2, k2⟩ : ∃ d c2, mLcM (iLst (mMeth [("Cloth", gCloth__threads)] "threads" (mVar 0) aNil)) [3] (gN 3) (mT (mOp eqX (mOp itemD (mVar 3) (mC (.int 0))) (mVar 2))) (mMeth [("Cloth", gCloth__score)] "score" (mVar 0) (aCons (mVar 3) (aNil))) [some (clo ys), none, some (.str (kdS true)), none] c1 = .ok d c2 ∧ ∃ j, d = .ref j ∧ Pfx c1 c2 ∧ c1.length ≤ j ∧ c2[j]? = some (.lst ((scoL ys w true).map D.int)) :=
    sco_lc (Q := fun d c2 => ∃ j, d = .ref j ∧ Pfx c1 c2 ∧ c1.length ≤ j ∧ c2[j]? = some (.lst ((scoL ys w true).map D.int))) hr fun c' p => ⟨_, rfl, p.app _, p.len, cell_last _⟩
  have hd : mDc (kFix (iTup' (mC (.tup [.str "warp", .str "weft"])))) [2] (gN 2) (tYesM) (mVar 2) (mLcM (iLst (mMeth [("Cloth", gCloth__threads)] "threads" (mVar 0) aNil)) [3] (gN 3) (mT (mOp eqX (mOp itemD (mVar 3) (mC (.int 0))) (mVar 2))) (mMeth [("Cloth", gCloth__score)] "score" (mVar 0) (aCons (mVar 3) (aNil)))) [some (clo ys), none, none, none] c =
      .ok (.ref c2.length) (c2 ++ [.dct [(.inr "warp", .ref j1), (.inr "weft", .ref j2)]]) := by
    unfold mDc
    have hf : kFix (iTup' (mC (.tup [.str "warp", .str "weft"]))) [some (clo ys), none, none, none] c = .ok (fixW [.str "warp", .str "weft"]) c := rfl
    rw [hf]
    simp only [R.bind_ok]
    rw [show fuelW = 19999997 + 1 + 1 + 1 from rfl]
    rw [dcW_consG (d := .str "warp") (y := .str "warp") (k := .inr "warp") (l1 := [some (clo ys), none, some (.str "warp"), none]) rfl rfl rfl rfl e1 rfl (by rw [hz]; decide)]
    rw [dcW_consG (d := .str "weft") (y := .str "weft") (k := .inr "weft") (l1 := [some (clo ys), none, some (.str "weft"), none]) rfl rfl rfl rfl e2 rfl (by rw [hz]; show (1 : Nat) < 16777216; decide)]
    rw [dcW_nil rfl]
    have hp : putKD (putKD ([] : List (Key × D)) (.inr "warp") (.ref j1)) (.inr "weft") (.ref j2) = [(.inr "warp", .ref j1), (.inr "weft", .ref j2)] := by
      have h1 : putKD ([] : List (Key × D)) (.inr "warp") (.ref j1) = [(.inr "warp", .ref j1)] := rfl
      rw [h1]
      unfold putKD
      simp only [List.any_cons, List.any_nil, kinds_ne, decide_false, Bool.or_false, Bool.false_eq_true, if_false]
      rfl
    rw [hp]
    rfl
  refine Ok.fun rfl ?_
  unfold cCloth__score_lists
  refine os_seq (os_set (Ok.of hd ?_))
  have hk := cell_last (c := c2) (Cell.dct [(.inr "warp", .ref j1), (.inr "weft", .ref j2)])
  have l1 : j1 < c1.length := (List.getElem?_eq_some_iff.mp k1).1
  refine os_ret (ok_tup (ok_acons (ok_op (ok_var rfl (ok_c (Ok.of (dget_warp hk) (ok_acons (ok_op (ok_var rfl (ok_c (Ok.of (dget_weft hk) (ok_anil ⟨Nat.le_of_ble_eq_true rfl, ?_⟩))))))))))))
  exact q _ j1 j2 ((p1.trans p2).app _) a1 (by omega) ((p2.app _).get k1) ((Pfx.one _ _).get k2)
/-! ### what raises -/
def thE (v : D) : Ex := ⟨"InvalidThread", [("value", v)]⟩
def crE (v : D) : Ex := ⟨"InvalidCrossing", [("value", v)]⟩
theorem ex_eq {r : Mi.R D} {x : Ex} {c : Cs} (h : ExR r fun y c' => y = x ∧ c' = c) : r = .exc x c := by
  obtain ⟨y, c', e, rfl, rfl⟩ := h
  exact e
theorem over_x1 {c : Cs} {ys : List Str} {w : Nat} {x y : D} (hr : RwS ys w) (hx : Val x c) (h : thOf w ys.length x = none) : gCloth__over [clo ys, x, y] c = .exc (thE x) c := by
  refine ex_eq (ex_fun rfl ?_)
  unfold cCloth__over
  refine exs_here (exs_if (ok_t (ok_op (ok_var rfl (ok_var rfl (ok_inI (clo_is ys _) (Ok.of (contains_eq hr hx) ⟨_, rfl, _, rfl, fun _ => exs_raise (ok_var rfl ⟨rfl, rfl⟩), fun z => ?_⟩)))))))
  rw [h] at z
  cases z
theorem over_x2 {c : Cs} {ys : List Str} {w : Nat} {a : Th} {y : D} (hr : RwS ys w) (ha : inB2 w ys.length a) (hy : Val y c) (h : ∀ b, thOf w ys.length y = some b → b.1 = a.1) : gCloth__over [clo ys, thD a, y] c = .exc (thE y) c := by
  refine ex_eq (ex_fun rfl ?_)
  unfold cCloth__over
  refine exs_next (os_if (ok_t (ok_op (ok_var rfl (ok_var rfl (ok_inI (clo_is ys _) (Ok.of (contains_eq hr (thD_val a c)) ⟨_, rfl, _, rfl, fun z => ?_, fun _ => os_nil ?_⟩)))))))
  · rw [thOf_some ha] at z; cases z
  have raise : ExS (sRaise "InvalidThread" "value" (mVar 2) [some (clo ys), some (thD a), some y] c) fun e c' => e = thE y ∧ c' = c := exs_raise (ok_var rfl ⟨rfl, rfl⟩)
  refine exs_here (exs_if (ok_tor (ok_t (ok_op (ok_var rfl (ok_var rfl (ok_inI (clo_is ys _) (Ok.of (contains_eq hr hy) ⟨_, rfl, _, rfl, fun _ => ⟨fun _ => raise, fun z => Bool.noConfusion z⟩, fun z => ?_⟩))))))))
  cases e : thOf w ys.length y with
  | none => rw [e] at z; cases z
  | some b =>
    obtain ⟨rfl, hb⟩ := thOf_at e
    have hk := h b e
    refine ok_t (ok_op (ok_cb (ok_acons (ok_var rfl (ok_acons (ok_var rfl (ok_anil (Ok.of (crossing_eq a b c) (ok_c ⟨.bl true, c, ?_, _, rfl, fun _ => raise, fun z => Bool.noConfusion z⟩)))))))))
    rw [if_pos hk.symm]; rfl
theorem crossed_x {c : Cs} {ys : List Str} {w : Nat} {x : D} (hr : RwS ys w) (hx : Val x c) (h : thOf w ys.length x = none) : gCloth__crossed [clo ys, x] c = .exc (thE x) c := by
  refine ex_eq (ex_fun rfl ?_)
  unfold cCloth__crossed
  refine exs_here (exs_if (ok_t (ok_op (ok_var rfl (ok_var rfl (ok_inI (clo_is ys _) (Ok.of (contains_eq hr hx) ⟨_, rfl, _, rfl, fun _ => exs_raise (ok_var rfl ⟨rfl, rfl⟩), fun z => ?_⟩)))))))
  rw [h] at z
  cases z
theorem crs_x {c : Cs} {ys : List Str} {w : Nat} {x : D} {o : Option D} (hr : RwS ys w) (hx : Val x c) (h : thOf w ys.length x = none) : iLst (mMeth [("Cloth", gCloth__crossed)] "crossed" (mVar 0) (aCons (mVar 1) (aNil))) [some (clo ys), some x, o] c = .exc (thE x) c := by
  have : (mMeth [("Cloth", gCloth__crossed)] "crossed" (mVar 0) (aCons (mVar 1) (aNil))) [some (clo ys), some x, o] c = .exc (thE x) c := ex_eq (ex_clmeth (by decide +kernel) (ok_var rfl ⟨⟨ys, clo_is ys _⟩, ok_acons (ok_var rfl (ok_anil (ExR.of (crossed_x hr hx h) ⟨rfl, rfl⟩)))⟩))
  unfold iLst
  rw [this]
  rfl
theorem below_x {c : Cs} {ys : List Str} {w : Nat} {x : D} (hr : RwS ys w) (hx : Val x c) (h : thOf w ys.length x = none) : gCloth__below [clo ys, x] c = .exc (thE x) c := by
  have e := crs_x (o := none) hr hx h
  unfold gCloth__below mFun cCloth__below
  generalize iLst (mMeth [("Cloth", gCloth__crossed)] "crossed" (mVar 0) (aCons (mVar 1) (aNil))) = F at e ⊢
  simp [sRet, mLcM, e]
theorem above_x {c : Cs} {ys : List Str} {w : Nat} {x : D} (hr : RwS ys w) (hx : Val x c) (h : thOf w ys.length x = none) : gCloth__above [clo ys, x] c = .exc (thE x) c := by
  have e := crs_x (o := none) hr hx h
  unfold gCloth__above mFun cCloth__above
  generalize iLst (mMeth [("Cloth", gCloth__crossed)] "crossed" (mVar 0) (aCons (mVar 1) (aNil))) = F at e ⊢
  simp [sRet, mLcM, e]
theorem score_x {c : Cs} {ys : List Str} {w : Nat} {x : D} (hr : RwS ys w) (hx : Val x c) (h : thOf w ys.length x = none) : gCloth__score [clo ys, x] c = .exc (thE x) c := by
  have e : mMeth [("Cloth", gCloth__below)] "below" (mVar 0) (aCons (mVar 1) (aNil)) [some (clo ys), some x] c = .exc (thE x) c := ex_eq (ex_clmeth (by decide +kernel) (ok_var rfl ⟨⟨ys, clo_is ys _⟩, ok_acons (ok_var rfl (ok_anil (ExR.of (below_x hr hx h) ⟨rfl, rfl⟩)))⟩))
  unfold gCloth__score mFun cCloth__score
  generalize mMeth [("Cloth", gCloth__below)] "below" (mVar 0) (aCons (mVar 1) (aNil)) = F at e ⊢
  simp [sRet, mCB, aCons, e]
theorem getitem_x {c : Cs} {ys : List Str} {w : Nat} {x : D} (hr : RwS ys w) (hx : ItQ x c) (h : crOf w ys.length x = none) : gCloth____getitem__ [clo ys, x] c = .exc (crE x) c := by
  refine ex_eq (ex_fun rfl ?_)
  unfold cCloth____getitem__
  refine exs_here (exs_if (ok_tnot (ok_t (ok_cb (ok_acons (ok_var rfl (ok_acons (ok_clprop (ok_var rfl ⟨⟨ys, clo_is ys _⟩, Ok.of (warp_eq (clo_is ys _) hr) (ok_acons (ok_clprop (ok_var rfl ⟨⟨ys, clo_is ys _⟩, Ok.of (weft_eq (clo_is ys _)) (ok_anil (Ok.of (is_crossing_eq hx) ⟨_, rfl, fun _ => exs_raise (ok_var rfl ⟨rfl, rfl⟩), fun z => ?_⟩))⟩)))⟩)))))))))
  rw [h] at z
  cases z

local macro_rules | `(tactic| walk_at "rws") => `(tactic| first | assumption | exact RwS.ng (by assumption) | exact RwS.turn (by assumption) _ | exact tp_rws (by assumption) | exact tp_rws (RwS.ng (by assumption)) | exact RwS.ng (tp_rws (by assumption)))
local macro_rules | `(tactic| walk_at "pf") => `(tactic| (repeat (first | assumption | exact Pfx.refl _ | exact Pfx.one _ _ | refine Pfx.trans ?_ (by assumption) | refine Pfx.trans ?_ (Pfx.one _ _))))
local macro_rules | `(tactic| walk_at "bx") => `(tactic| first | exact bx_mono (by assumption) (by omega) | refine bx_mono (bx_pfx (by assumption) (by walk_at "pf")) (by omega))
local macro_rules | `(tactic| walk_at "gs0") => `(tactic| first
  | with_reducible refine os_seq ?_ | with_reducible refine os_set ?_ | with_reducible refine os_ret ?_ | with_reducible refine os_asg ?_ | with_reducible refine os_par ?_
  | with_reducible refine os_expr ?_ | with_reducible refine os_nil ?_ | with_reducible refine os_retn ?_ | with_reducible refine os_brk ?_ | with_reducible refine os_cnt ?_
  | with_reducible refine ok_op ?_ | (with_reducible refine ok_var ?_ ?_; (focus rfl)) | with_reducible refine ok_c ?_ | with_reducible refine ok_un ?_ | with_reducible refine ok_cb ?_ | with_reducible refine ok_anil ?_ | with_reducible refine ok_acons ?_
  | with_reducible refine ok_lst ?_ | with_reducible refine ok_tup ?_ | with_reducible refine ok_lstM ?_ | with_reducible refine ok_dict1 ?_
  | with_reducible refine ok_and ?_ | with_reducible refine ok_or ?_ | with_reducible refine ok_not ?_ | with_reducible refine ok_chain ?_ | with_reducible refine ok_t ?_ | with_reducible refine ok_tnot ?_ | with_reducible refine ok_tand ?_
  | with_reducible refine ok_tor ?_ | with_reducible refine ok_if ?_ | with_reducible refine ok_onone ?_ | with_reducible refine ok_osome ?_ | with_reducible refine ok_slice ?_ | with_reducible refine ok_m1 ?_
  | with_reducible refine ok_bm ?_ | with_reducible refine ok_gs ?_ | with_reducible refine ok_cbd ?_ | with_reducible refine ok_cbk ?_ | with_reducible refine os_ifNm ?_ | with_reducible refine ok_frz ?_ | with_reducible refine ok_itup ?_ | with_reducible refine ok_istr ?_ | with_reducible refine ok_r1 ?_ | with_reducible refine ok_r2 ?_ | with_reducible refine ok_il ?_ | with_reducible refine ok_gn ?_)
local macro_rules | `(tactic| walk_at "gs") => `(tactic| first | with_reducible refine os_if ?_ | walk_at "gs0")
local macro_rules | `(tactic| walk_at "gt") => `(tactic| first
  | refine And.intro (Nat.le_of_ble_eq_true rfl) ?_ | refine Exists.intro _ (And.intro rfl ?_) | refine And.intro (fun _ => ?_) (fun hk => Bool.noConfusion hk) | refine And.intro (fun hk => Bool.noConfusion hk) (fun _ => ?_)
  | (walk_at "nolp"; (fail_if_success (with_reducible refine Ok.fun ?_ ?_)); refine ok_ret ?_))
local macro_rules | `(tactic| walk_at "go") => `(tactic| repeat (first | walk_at "gs" | walk_at "use" | walk_at "gt"))
local macro_rules | `(tactic| walk_at "gon") => `(tactic| repeat (first | walk_at "gs0" | walk_at "use" | walk_at "gt"))

theorem in_strsY {neg : Bool} {s : Str} {zs : List Str} {c : Cs} : inY neg (.str s) (.lst (zs.map D.str)) c = .ok (.bl (sgn neg (decide (s ∈ zs)))) c := by
  have e1 : (zs.map D.str).all flatD = true := List.all_eq_true.mpr fun x hx => by
    obtain ⟨y, _, rfl⟩ := List.mem_map.mp hx
    rfl
  have e2 : inX neg (.str s) (.lst (zs.map D.str)) c = .ok (.bl (sgn neg (decide (s ∈ zs)))) c := by
    show inL neg (.str s) (zs.map D.str) c = _
    unfold inL
    rw [if_pos ⟨rfl, e1⟩, List.any_map]
    have e3 : (zs.any ((fun y => eqF y (.str s)) ∘ D.str)) = decide (s ∈ zs) := by
      by_cases h : s ∈ zs
      · rw [decide_eq_true h, List.any_eq_true]
        exact ⟨s, h, show (s == s) = true from beq_self_eq_true s⟩
      · rw [decide_eq_false h, List.any_eq_false]
        intro y hy q
        have q : (y == s) = true := q
        exact h (eq_of_beq q ▸ hy)
    rw [e3]
  unfold inY
  rw [e2]
theorem repr_shown {d : D} {c : Cs} {p : PyData} (e : toPyC 30 c d = some p) (h1 : bP p = true) (h2 : wP p ≤ 16777216) (h3 : p.depth ≤ 60) : reprX [d] c = .ok (.str p.shown) c := by
  show reprQ d c = _
  unfold reprQ
  rw [e]
  exact if_pos (okR_w h1 h2 h3)
def nro1 (x : D) : Bool := match x with
  | .ro _ => false
  | _ => true
def nro (x : D) : Bool := match x with
  | .ro _ => false
  | .lst xs => xs.all nro1
  | .tup xs => xs.all nro1
  | _ => true
def FRN (x : D) : Bool := FRB x && nro1 x
def QV (v : D) (c : Cs) : Prop := (FRB v = true ∧ nro v = true ∧ top0 v = true) ∨ (∃ k xs, v = .ref k ∧ c[k]? = some (.lst xs) ∧ xs.length ≤ 90 ∧ ∀ x ∈ xs, FRN x = true) ∨
  ∃ k kvs, v = .ref k ∧ c[k]? = some (.dct kvs) ∧ (kvs = [] ∨ kvs = [(.inr "a", .int 1)])
theorem frn_of {x : D} (h : FRN x = true) : FRB x = true ∧ nro1 x = true := by
  unfold FRN at h
  rwa [Bool.and_eq_true] at h
theorem QV.pv {v : D} {c : Cs} (h : QV v c) : PV v c := by
  rcases h with ⟨h1, _, h3⟩ | ⟨k, xs, e, hk, hl, hx⟩ | h
  · exact .inl ⟨h1, .inl h3⟩
  · exact .inr (.inl ⟨k, xs, e, hk, by omega, fun x hm => (frn_of (hx x hm)).1⟩)
  · exact .inr (.inr h)
/-- what can be shown -/
def Rpr (v : D) (c : Cs) : Prop := ∃ p, toPyC 24 c v = some p ∧ bP p = true ∧ wP p ≤ 4000000 ∧ p.depth ≤ 20
theorem PV.rpr {v : D} {c : Cs} (h : PV v c) : Rpr v c := by
  obtain ⟨p, e, h1, h2, h3⟩ := pv_py h (n := 24) (by omega)
  exact ⟨p, e, h1, by omega, by omega⟩
theorem QV.rpr {v : D} {c : Cs} (h : QV v c) : Rpr v c := h.pv.rpr
theorem repr_two {w : Str} {v : D} {c : Cs} (hw : SB 20 w) (hv : Rpr v c) : ∃ s, reprX [.lst [.str w, v]] c = .ok (.str s) c := by
  obtain ⟨p, e, h1, h2, h3⟩ := hv
  refine ⟨(PyData.list [.str w, p]).shown, repr_shown ?_ ?_ ?_ ?_⟩
  · show (mapO (toPyC 29 c) [.str w, v]).map PyData.list = _
    have u : toPyC 29 c v = some p := toPyC_up (by omega) e
    simp only [mapO, u]
    rfl
  · obtain ⟨hl, hb⟩ := hw
    show bPs [.str w, p] = true
    simp only [bPs, h1, Bool.and_true]
    show (w.cps.toList.all fun k => decide (k < 1114112)) = true
    exact List.all_eq_true.mpr fun k hk => decide_eq_true (hb k hk)
  · obtain ⟨hl, hb⟩ := hw
    show wPs [.str w, p] + 2 ≤ _
    simp only [wPs, wP]
    omega
  · simp only [PyData.depth, PyData.depthAll]; omega

theorem QV.at {v : D} {c c' : Cs} (h : QV v c) (e : ∀ k, v = .ref k → c'[k]? = c[k]?) : QV v c' := by
  rcases h with h | ⟨k, xs, rfl, hk, h1, h2⟩ | ⟨k, kvs, rfl, hk, h1⟩
  · exact .inl h
  · exact .inr (.inl ⟨k, xs, rfl, by rw [e k rfl]; exact hk, h1, h2⟩)
  · exact .inr (.inr ⟨k, kvs, rfl, by rw [e k rfl]; exact hk, h1⟩)
/-- a value of type list is a cell -/
theorem QV.lst {v : D} {c : Cs} (h : QV v c) : (∃ t, tyD v c = some t ∧ t ≠ "list" ∧ t ∈ tyNames) ∨ ∃ j xs, v = .ref j ∧ c[j]? = some (.lst xs) := by
  rcases h with ⟨h1, _, h3⟩ | ⟨k, ys, rfl, hk, hl, hy⟩ | ⟨k, kvs, rfl, hk, _⟩
  · obtain ⟨p, hp, _⟩ := frb_of h1
    cases v with
    | non => exact .inl ⟨_, rfl, by decide, by decide⟩
    | bl _ => exact .inl ⟨_, rfl, by decide, by decide⟩
    | int _ => exact .inl ⟨_, rfl, by decide, by decide⟩
    | str _ => exact .inl ⟨_, rfl, by decide, by decide⟩
    | tup _ => exact .inl ⟨_, rfl, by decide, by decide⟩
    | dct _ => exact .inl ⟨_, rfl, by decide, by decide⟩
    | _ => first | (cases h3; done) | (cases hp; done)
  · exact .inr ⟨k, ys, rfl, hk⟩
  · exact .inl ⟨"dict", by simp [tyD, hk], by decide, by decide⟩
theorem neS_self (s : Str) (c : Cs) : neX (.str s) (.str s) c = .ok (.bl false) c := by
  show Mi.R.ok (D.bl (!(s == s))) c = _
  rw [beq_self_eq_true]; rfl
theorem eqS_self (s : Str) (c : Cs) : eqX (.str s) (.str s) c = .ok (.bl true) c := by
  show Mi.R.ok (D.bl (s == s)) c = _
  rw [beq_self_eq_true]
theorem sb_ret : SB 20 "returned" := ⟨by decide +kernel, by decide +kernel⟩
theorem QV.ins {v : D} {c : Cs} (h : QV v c) : insOf v c = none ∧ (tyD v c).isSome = true := by
  rcases h with ⟨h1, _, h3⟩ | ⟨k, ys, rfl, hk, hl, hy⟩ | ⟨k, kvs, rfl, hk, _⟩
  · obtain ⟨p, hp, _⟩ := frb_of h1
    cases v with
    | non => exact ⟨rfl, rfl⟩
    | bl _ => exact ⟨rfl, rfl⟩
    | int _ => exact ⟨rfl, rfl⟩
    | str _ => exact ⟨rfl, rfl⟩
    | tup _ => exact ⟨rfl, rfl⟩
    | dct _ => exact ⟨rfl, rfl⟩
    | _ => first | (cases h3; done) | (cases hp; done)
  · exact ⟨by simp [insOf, hk], by simp [tyD, hk]⟩
  · exact ⟨by simp [insOf, hk], by simp [tyD, hk]⟩
theorem QV.morePV {v : D} {c : Cs} {j : Nat} {xs : List D} (h : QV v c) (e : v = .ref j) (hk : c[j]? = some (.lst xs)) : PV v (c.set j (.lst (xs ++ [.str "more"]))) ∧ xs.length ≤ 90 := by
  have hj := (List.getElem?_eq_some_iff.mp hk).1
  subst e
  rcases h with ⟨h1, _, _⟩ | ⟨k, ys, e2, hk2, hl, hy⟩ | ⟨k, kvs, e2, hk2, _⟩
  · obtain ⟨p, hp, _⟩ := frb_of h1
    cases hp
  · cases e2
    rw [hk] at hk2
    cases hk2
    refine ⟨.inr (.inl ⟨j, _, rfl, List.getElem?_set_self hj, by rw [List.length_append, List.length_singleton]; omega, fun x hx => ?_⟩), hl⟩
    rcases List.mem_append.mp hx with q | q
    · exact (frn_of (hy x q)).1
    · rw [List.mem_singleton.mp q]; decide +kernel
  · cases e2
    rw [hk] at hk2
    cases hk2
theorem isi_of {x : D} {c : Cs} {t n : String} (h : tyD x c = some t) (hn : n ∈ tyNames) : isiD [x, .ty n] c = .ok (.bl (isT t n)) c := by simp [isiD, h, hn]

/-! ### what the law looks at -/
theorem addl {xs ys : List D} {c : Cs} (h : xs.length + ys.length ≤ 100) : addD (.lst xs) (.lst ys) c = .ok (.lst (xs ++ ys)) c := by
  have hz : sizeLine = 16777216 := sizeLine_eq
  show fits (xs.length + ys.length) _ = _
  unfold fits
  exact if_pos (by omega)
theorem lthr_eq {c : Cs} {ys : List Str} {w : Nat} (hr : RwS ys w) : g_law_threads [.lst (ys.map D.str)] c = .ok (.lst ((thL w ys.length).map thD)) c := by
  have hz : sizeLine = 16777216 := sizeLine_eq
  have n8 := hr.n8
  have w8 := hr.w8
  obtain ⟨y0, yr, hy, hyl⟩ := hr.head
  have i0 : ∀ c, itemD (.lst (ys.map D.str)) (.int 0) c = .ok (.str y0) c := fun c => by rw [hy]; simp [itemD, itL, atI, ixN]
  have l0 : lenD [.str y0] c = .ok (.int (w : Nat)) c := by
    have : Ok (lenD [.str y0] c) fun d c' => d = .int (w : Nat) ∧ c' = c := ok_len_str (by omega) ⟨by rw [hyl], rfl⟩
    exact this.eq
  have lr : lenD [.lst (ys.map D.str)] c = .ok (.int ys.length) c := by rw [len_seq rfl, List.length_map]
  refine ok_eq (Ok.fun rfl ?_)
  unfold c_law_threads
  have bd : ∀ (b : Bool) (i : Nat) (l : Ls), 2 ≤ l.length → Ok (gN 1 (.int (i : Nat)) (wipeL l [1]) c) fun l1 c1 => c1 = c ∧ Ok (mTup (aCons (mC (.str (kdS b))) (aCons (mVar 1) (aNil))) l1 c) fun d c3 => d = thD (b, i) ∧ c3 = c := fun b i l hl => by
    refine ok_gn ⟨rfl, ok_tup (ok_acons (ok_c (ok_acons (ok_var ?_ (ok_anil ⟨Nat.le_of_ble_eq_true rfl, rfl, rfl⟩)))))⟩
    rw [List.getElem?_set_self (by simp [wipeL]; omega)]
  refine os_ret (ok_op (ok_lcR w (fun i => thD (false, i)) (by omega) ?_ (fun i hi => bd false i _ (by simp)) ?_))
  · refine ok_acons (ok_cb (ok_acons (ok_op (ok_var rfl (ok_c (Ok.of (i0 _) ?_))))))
    exact ok_anil (Ok.of l0 (ok_anil ⟨rfl, rfl⟩))
  refine ok_lcR ys.length (fun i => thD (true, i)) (by omega) ?_ (fun i hi => bd true i _ (by simp)) ?_
  · refine ok_acons (ok_cb (ok_acons (ok_var rfl (ok_anil (Ok.of lr ?_)))))
    exact ok_anil ⟨rfl, rfl⟩
  refine Ok.of (addl (by simp; omega)) ?_
  have e : (List.range w).map (fun i => thD (false, i)) ++ (List.range ys.length).map (fun i => thD (true, i)) = (thL w ys.length).map thD := by
    unfold thL
    rw [List.map_append, List.map_map, List.map_map]
    rfl
  rw [e]
  exact ⟨rfl, rfl⟩
theorem ch_one (k : Nat) (c : Cs) : eqX (.str ⟨#[k]⟩) (.str "1") c = .ok (.bl (decide (k = 49))) c := by
  have : (⟨#[k]⟩ : Str) = "1" ↔ k = 49 := ⟨fun e => by
    have := congrArg (fun s : Str => s.cps.toList) e
    have e1 : ("1" : Str).cps.toList = [49] := by decide +kernel
    simp only [e1] at this
    simpa using this, fun e => by subst e; rfl⟩
  show Mi.R.ok (D.bl (decide ((⟨#[k]⟩ : Str) = "1"))) c = _
  simp only [this]
theorem ch_zero {k : Nat} (h : bitB k = true) (c : Cs) : eqX (.str ⟨#[k]⟩) (.str "0") c = .ok (.bl (!decide (k = 49))) c := by
  have : (⟨#[k]⟩ : Str) = "0" ↔ k = 48 := ⟨fun e => by
    have := congrArg (fun s : Str => s.cps.toList) e
    have e1 : ("0" : Str).cps.toList = [48] := by decide +kernel
    simp only [e1] at this
    simpa using this, fun e => by subst e; rfl⟩
  show Mi.R.ok (D.bl (decide ((⟨#[k]⟩ : Str) = "0"))) c = _
  simp only [this]
  simp only [bitB, Bool.or_eq_true, beq_iff_eq] at h
  rcases h with rfl | rfl <;> rfl
theorem row_at {ys : List Str} {j : Nat} (hj : j < ys.length) (c : Cs) : itemD (.lst (ys.map D.str)) (.int (j : Nat)) c = .ok (.str (ys.getD j "")) c :=
  item_seq (x := .str (ys.getD j "")) (show seqOf (.lst (ys.map D.str)) c = some (ys.map D.str) from rfl) (by simp [hj])
theorem sign_at {ys : List Str} {w i j : Nat} (hr : RwS ys w) (hi : i < w) (hj : j < ys.length) (c : Cs) : itemD (.str (ys.getD j "")) (.int (i : Nat)) c = .ok (.str ⟨#[(ys.getD j "").cps.toList.getD i 0]⟩) c ∧ bitB ((ys.getD j "").cps.toList.getD i 0) = true := by
  have w8 := hr.w8
  have hm := List.getElem_mem hj
  have hl := hr.len _ hm
  have hy : ys.getD j "" = ys[j] := by simp [hj]
  rw [hy]
  have hil : i < ys[j].cps.toList.length := by rw [len_cps, hl]; exact hi
  refine ⟨item_str_at (by omega) hil, ?_⟩
  have hb := hr.bit _ hm
  unfold bitS at hb
  have e : ys[j].cps.toList.getD i 0 = ys[j].cps.toList[i] := by rw [List.getD_eq_getElem?_getD, List.getElem?_eq_getElem hil]; rfl
  rw [e]
  exact List.all_eq_true.mp hb _ (List.getElem_mem hil)
theorem lies_eq {c : Cs} {ys : List Str} {w : Nat} {a b : Th} (hr : RwS ys w) (ha : inB2 w ys.length a) (hb : inB2 w ys.length b) (hne : a.1 ≠ b.1) : g_law_lies_over [.lst (ys.map D.str), thD a, thD b] c = .ok (.bl (ovr ys a b)) c := by
  refine ok_eq (Ok.fun rfl ?_)
  unfold c_law_lies_over
  refine os_seq (os_if (ok_t (ok_op (ok_op (ok_var rfl (ok_c (Ok.of (th0 a c) (ok_c (Ok.of (eq_kd a.1 false c) ⟨_, rfl, fun h => ?_, fun h => os_nil ?_⟩)))))))))
  · obtain ⟨x, i⟩ := a
    obtain ⟨y, j⟩ := b
    cases x
    · cases y
      · exact absurd rfl hne
      · have hi : i < w := ha
        have hj : j < ys.length := hb
        obtain ⟨s1, s2⟩ := sign_at hr hi hj c
        exact os_ret (ok_op (ok_op (ok_op (ok_var rfl (ok_op (ok_var rfl (ok_c (Ok.of (th1 (true, j) c) (Ok.of (row_at hj c) (ok_op (ok_var rfl (ok_c (Ok.of (th1 (false, i) c) (Ok.of s1 (ok_c (Ok.of (ch_one _ c) ⟨rfl, rfl⟩))))))))))))))))
    · cases h
  · obtain ⟨x, i⟩ := a
    obtain ⟨y, j⟩ := b
    cases x
    · cases h
    · cases y
      · have hi : i < ys.length := ha
        have hj : j < w := hb
        obtain ⟨s1, s2⟩ := sign_at hr hj hi c
        exact os_ret (ok_op (ok_op (ok_op (ok_var rfl (ok_op (ok_var rfl (ok_c (Ok.of (th1 (true, i) c) (Ok.of (row_at hi c) (ok_op (ok_var rfl (ok_c (Ok.of (th1 (false, j) c) (Ok.of s1 (ok_c (Ok.of (ch_zero s2 c) ⟨rfl, rfl⟩))))))))))))))))
      · exact absurd rfl hne
/-! ### the values that are asked -/
def sameB (v : D) (p : PyData) : Bool :=
  ((List.range 8).all fun i => [false, true].all fun b => !decide (p.shown = (thP (b, i)).shown) || decide (thOf 8 8 v = some (b, i))) &&
  (List.range 8).all fun i => (List.range 8).all fun j => !decide (p.shown = (crP (i, j)).shown) || decide (crOf 8 8 v = some (i, j))
def okT (v : D) : Bool := match toPyC 17 [] v with
  | some p => !isTup v || sameB v p
  | none => true
def V8 (v : D) (c : Cs) : Prop := QV v c ∧ okT v = true
theorem V8.at {v : D} {c c' : Cs} (h : V8 v c) (e : ∀ k, v = .ref k → c'[k]? = c[k]?) : V8 v c' := ⟨h.1.at e, h.2⟩
theorem tup_py {v : D} {c : Cs} (h : V8 v c) (ht : isTup v = true) : ∃ p, (∀ c', toPyC 30 c' v = some p) ∧ bP p = true ∧ wP p ≤ 20000 ∧ p.depth ≤ 10 ∧ sameB v p = true := by
  obtain ⟨hq, ho⟩ := h
  rcases hq with ⟨h1, _⟩ | ⟨k, xs, rfl, _⟩ | ⟨k, kvs, rfl, _⟩
  · obtain ⟨p, hp, hb, hw, hd⟩ := frb_of h1
    refine ⟨p, fun c' => toPyC_free (by decide) hp, hb, hw, hd, ?_⟩
    unfold okT at ho
    rw [hp] at ho
    simpa [ht] using ho
  · cases ht
  · cases ht
theorem same_th {v : D} {p : PyData} (h : sameB v p = true) {t : Th} (ht : t.2 < 8) (e : p.shown = (thP t).shown) : thOf 8 8 v = some t := by
  obtain ⟨b, i⟩ := t
  unfold sameB at h
  rw [Bool.and_eq_true] at h
  have h1 := List.all_eq_true.mp (List.all_eq_true.mp h.1 i (List.mem_range.mpr ht)) b (by cases b <;> simp)
  rw [decide_eq_true e] at h1
  exact of_decide_eq_true (by simpa using h1)
theorem same_cr {v : D} {p : PyData} (h : sameB v p = true) {i j : Nat} (hi : i < 8) (hj : j < 8) (e : p.shown = (crP (i, j)).shown) : crOf 8 8 v = some (i, j) := by
  unfold sameB at h
  rw [Bool.and_eq_true] at h
  have h1 := List.all_eq_true.mp (List.all_eq_true.mp h.2 i (List.mem_range.mpr hi)) j (List.mem_range.mpr hj)
  rw [decide_eq_true e] at h1
  exact of_decide_eq_true (by simpa using h1)
theorem th_non {v : D} (h : isTup v = false) (w g : Nat) : thOf w g v = none := by
  cases v <;> first | rfl | cases h
theorem cr_non {v : D} (h : isTup v = false) (w g : Nat) : crOf w g v = none := by
  cases v <;> first | rfl | cases h
theorem kd_bits (b : Bool) : bP (.str (kdS b)) = true ∧ (kdS b).length = 4 := by cases b <;> exact ⟨by decide +kernel, by decide +kernel⟩
theorem repr_th {t : Th} (ht : t.2 ≤ 100) (c : Cs) : reprX [thD t] c = .ok (.str (thP t).shown) c := by
  obtain ⟨b, n⟩ := t
  have ht : n ≤ 100 := ht
  have e : toPyC 30 c (thD (b, n)) = some (thP (b, n)) := rfl
  obtain ⟨k1, k2⟩ := kd_bits b
  have b1 : bP (thP (b, n)) = true := by
    show (bP (.str (kdS b)) && (decide ((n : Int).natAbs < 10 ^ 40) && true)) = true
    rw [k1, decide_eq_true (show (n : Int).natAbs < 10 ^ 40 from Nat.lt_of_le_of_lt (show (n : Int).natAbs ≤ 100 by omega) (by decide +kernel))]
    rfl
  show reprQ (thD (b, n)) c = _
  unfold reprQ
  rw [e]
  refine if_pos (okR_w b1 (show ((10 * (kdS b).length + 2) + 2 + (45 + 2 + 0)) + 3 ≤ 16777216 by omega) (by simp [thP, PyData.depth, PyData.depthAll]))
theorem repr_cr {p : Nat × Nat} (h1 : p.1 ≤ 100) (h2 : p.2 ≤ 100) (c : Cs) : reprX [crD p] c = .ok (.str (crP p).shown) c := by
  refine repr_shown (py_cr 28 c p) ?_ (show (45 + 2 + (45 + 2 + 0)) + 3 ≤ 16777216 by omega) (by simp [crP, PyData.depth, PyData.depthAll])
  show (decide ((p.1 : Int).natAbs < 10 ^ 40) && (decide ((p.2 : Int).natAbs < 10 ^ 40) && true)) = true
  rw [decide_eq_true (show (p.1 : Int).natAbs < 10 ^ 40 from Nat.lt_of_le_of_lt (show (p.1 : Int).natAbs ≤ 100 by omega) (by decide +kernel)), decide_eq_true (show (p.2 : Int).natAbs < 10 ^ 40 from Nat.lt_of_le_of_lt (show (p.2 : Int).natAbs ≤ 100 by omega) (by decide +kernel))]
  rfl
theorem isi_t {v : D} {c : Cs} (h : V8 v c) : isiD [v, .ty "tuple"] c = .ok (.bl (isTup v)) c := by
  obtain ⟨t, ht⟩ := Option.isSome_iff_exists.mp h.1.ins.2
  rw [isi_tup ht, isT_tup ht]
theorem is_thread_law {v : D} {c : Cs} {ys : List Str} {w : Nat} (hr : RwS ys w) (hv : V8 v c) : g_law_is_thread [v, .lst (ys.map D.str)] c = .ok (.bl (thOf w ys.length v).isSome) c := by
  have n8 := hr.n8
  have w8 := hr.w8
  refine ok_eq (Ok.fun rfl ?_)
  unfold c_law_is_thread
  refine os_ret (ok_and (ok_cb (ok_acons (ok_var rfl (ok_acons (ok_c (ok_anil (Ok.of (isi_t hv) ⟨_, rfl, fun ht => ?_, fun ht => ?_⟩))))))))
  · obtain ⟨p, e, h1, h2, h3, h4⟩ := tup_py hv ht
    refine ok_op (ok_cb (ok_acons (ok_var rfl (ok_anil (Ok.of (repr_shown (e c) h1 (by omega) (by omega)) ?_)))))
    have hit : iLst (mCB g_law_threads (aCons (mVar 1) (aNil))) [some v, some (.lst (ys.map D.str)), none] c = .ok ((thL w ys.length).map thD) c := by
      have : mCB g_law_threads (aCons (mVar 1) (aNil)) [some v, some (.lst (ys.map D.str)), none] c = .ok (.lst ((thL w ys.length).map thD)) c := Ok.eq (ok_cb (ok_acons (ok_var rfl (ok_anil (Ok.of (lthr_eq hr) ⟨rfl, rfl⟩)))))
      unfold iLst
      rw [this]
      rfl
    refine ok_mlc hit (by rw [List.length_map, thL_len]; omega) (ok_lcY (thL w ys.length) thD (fun t => D.str (thP t).shown) (by rw [thL_len]; omega) (ok_kfix hit ⟨rfl, fun _ _ => rfl⟩) (fun t ht => ?_) ?_)
    · have hb := thL_mem.mp ht
      have : t.2 ≤ 100 := by unfold inB2 at hb; split at hb <;> omega
      exact ok_gn ⟨rfl, ok_cb (ok_acons (ok_var rfl (ok_anil (Ok.of (repr_th this c) ⟨rfl, rfl⟩))))⟩
    · have em : (thL w ys.length).map (fun t => D.str (thP t).shown) = ((thL w ys.length).map fun t => (thP t).shown).map D.str := by rw [List.map_map]; rfl
      rw [em]
      refine Ok.of in_strsY ⟨?_, rfl⟩
      congr 1
      show decide (p.shown ∈ (thL w ys.length).map fun t => (thP t).shown) = (thOf w ys.length v).isSome
      cases q : thOf w ys.length v with
      | some t =>
        obtain ⟨rfl, hb⟩ := thOf_at q
        refine decide_eq_true (List.mem_map.mpr ⟨t, thL_mem.mpr hb, ?_⟩)
        have := e c
        rw [show toPyC 30 c (thD t) = some (thP t) from rfl] at this
        rw [Option.some.inj this]
      | none =>
        refine decide_eq_false fun hm => ?_
        obtain ⟨t, ht, es⟩ := List.mem_map.mp hm
        have hb := thL_mem.mp ht
        have h8 : t.2 < 8 := by unfold inB2 at hb; split at hb <;> omega
        obtain ⟨rfl, _⟩ := thOf_at (same_th h4 h8 es.symm)
        rw [thOf_th hb] at q
        cases q
  · rw [th_non ht]
    exact ⟨rfl, rfl⟩

/-! ### what is caught -/
theorem caught_ok {act : ME} {c c' : Cs} {d : D} (h : ∀ l, act l c = .ok d c') : mFun 2 1 (c_law_caught act) [.non] c = .ok (.lst [.str "returned", d]) c' := by
  have z : (2 : Nat) ≤ sizeLine := by decide
  unfold mFun c_law_caught
  simp [sTry, sRet, mLst, aCons, aNil, mC, h, fits, z]
theorem caught_th {act : ME} {c : Cs} {v : D} (h : ∀ l, act l c = .exc (thE v) c) : mFun 2 1 (c_law_caught act) [.non] c = .ok (.lst [.str "thread", v]) c := by
  have z : (2 : Nat) ≤ sizeLine := by decide
  have y1 : exM "InvalidThread" "InvalidThread" = true := by decide +kernel
  unfold mFun c_law_caught
  simp [sTry, sRet, mLst, aCons, aNil, mC, h, hdR, y1, Mi.wipe, mXf, fits, z, thE]
theorem caught_cr {act : ME} {c : Cs} {v : D} (h : ∀ l, act l c = .exc (crE v) c) : mFun 2 1 (c_law_caught act) [.non] c = .ok (.lst [.str "crossing", v]) c := by
  have z : (2 : Nat) ≤ sizeLine := by decide
  have n1 : exM "InvalidCrossing" "InvalidThread" = false := by decide +kernel
  have y1 : exM "InvalidCrossing" "InvalidCrossing" = true := by decide +kernel
  unfold mFun c_law_caught
  simp [sTry, sRet, mLst, aCons, aNil, mC, h, hdR, n1, y1, Mi.wipe, mXf, fits, z, crE]
theorem ok_lamcall {fe : ME} {l : Ls} {c c' : Cs} {d : D} {Q : D → Cs → Prop} (h : mFun 2 1 (c_law_caught fun _ c' => fe l c') [.non] c = .ok d c') (q : Q d c') : Ok (mLamCall 2 c_law_caught fe l c) Q := ⟨d, c', by unfold mLamCall; rw [h]; rfl, q⟩
theorem qv_bl (b : Bool) (c : Cs) : QV (.bl b) c := by
  refine .inl ⟨?_, rfl, rfl⟩
  cases b <;> decide +kernel
theorem sb_thr : SB 20 "thread" := ⟨by decide +kernel, by decide +kernel⟩
theorem sb_crs : SB 20 "crossing" := ⟨by decide +kernel, by decide +kernel⟩
theorem mul_len (a b : Nat) (ha : a ≤ 8) (hb : b ≤ 8) (c : Cs) : mulI (.int a) (.int b) c = .ok (.int ((a : Int) * b)) c := by
  have h : CMul (a : Int) (b : Int) := Or.inl ⟨by omega, by omega⟩
  simp [mulI, intC, h]
theorem val_of {v : D} {c : Cs} (h : V8 v c) : Val v c := pv_val h.1.pv
theorem itq_of {v : D} {c : Cs} (h : V8 v c) : ItQ v c := by
  refine ⟨h.1.ins.2, fun ys e y hy => ?_⟩
  have := val_of h
  subst e
  exact this y hy
def pairsL (w g : Nat) : List (Nat × Nat) := (List.range (w * g)).map fun a => (a % w, a / w)
theorem pairs_mem {w g : Nat} (hw : 0 < w) {p : Nat × Nat} : p ∈ pairsL w g ↔ p.1 < w ∧ p.2 < g := by
  unfold pairsL
  rw [List.mem_map]
  constructor
  · rintro ⟨a, ha, rfl⟩
    have ha := List.mem_range.mp ha
    exact ⟨Nat.mod_lt a hw, Nat.div_lt_of_lt_mul ha⟩
  · rintro ⟨h1, h2⟩
    obtain ⟨i, j⟩ := p
    have h1 : i < w := h1
    have h2 : j < g := h2
    refine ⟨w * j + i, List.mem_range.mpr ?_, ?_⟩
    · have : w * j + w ≤ w * g := by
        have := Nat.mul_le_mul_left w (show j + 1 ≤ g by omega)
        rwa [Nat.mul_add, Nat.mul_one] at this
      omega
    · rw [Nat.mul_add_mod, Nat.mod_eq_of_lt h1, Nat.mul_add_div hw, Nat.div_eq_of_lt h1, Nat.add_zero]
theorem repr_pair {wd : Str} {v : D} {c : Cs} (hw : SB 20 wd) (hv : QV v c) : ∃ s, reprX [.lst [.str wd, v]] c = .ok (.str s) c := repr_two hw hv.rpr
/-- the end of a law's answer: two texts that are the same -/
theorem same_end {a b : ME} {l : Ls} {c c1 : Cs} {d : D} {s : Str} {Q : D → Cs → Prop} (ha : Ok (a l c) fun x c' => x = d ∧ c' = c1) (hb : Ok (b l c1) fun x c' => x = d ∧ c' = c1) (hs : reprX [d] c1 = .ok (.str s) c1) (q : Q (.bl true) c1) : Ok (mOp eqX (mCB reprX (aCons a (aNil))) (mCB reprX (aCons b (aNil))) l c) Q := by
  have e1 := ha.eq
  have e2 := hb.eq
  refine ok_op (ok_cb (ok_acons (Ok.of e1 (ok_anil (Ok.of hs (ok_cb (ok_acons (Ok.of e2 (ok_anil (Ok.of hs (Ok.of (eqS_self s c1) q)))))))))))
theorem same_if {a b : ME} {l : Ls} {c c1 : Cs} {d : D} {s : Str} {QS : Fl → Cs → Prop} (ha : Ok (a l c) fun x c' => x = d ∧ c' = c1) (hb : Ok (b l c1) fun x c' => x = d ∧ c' = c1) (hs : reprX [d] c1 = .ok (.str s) c1) (q : QS (.nx l) c1) : OkS (sIf (mT (mOp neX (mCB reprX (aCons a (aNil))) (mCB reprX (aCons b (aNil))))) (sRet (mC (.bl false))) (sNil) l c) QS := by
  have e1 := ha.eq
  have e2 := hb.eq
  exact os_if (ok_t (ok_op (ok_cb (ok_acons (Ok.of e1 (ok_anil (Ok.of hs (ok_cb (ok_acons (Ok.of e2 (ok_anil (Ok.of hs (Ok.of (neS_self s c1) ⟨_, rfl, fun h => Bool.noConfusion h, fun _ => os_nil q⟩)))))))))))))
section
variable {c : Cs} {ys : List Str} {w : Nat} {x y : D}
theorem pair_rest {o4 : Option D} {Q : D → Cs → Prop} (hr : RwS ys w) (hx : V8 x c) (q : Q (.bl true) c) :
    OkS ((sSeq (sSet 4 (mLst (aCons (mC (.str "crossing")) (aCons (mVar 2) (aNil))))) (sSeq (sSet 5 (mLc (iR1 (aCons (mOp mulI (mCB lenD (aCons (mOp itemD (mVar 1) (mC (.int 0))) (aNil))) (mCB lenD (aCons (mVar 1) (aNil)))) (aNil))) [6] (gN 6) (tYesM) (mTup (aCons (mOp modI (mVar 6) (mCB lenD (aCons (mOp itemD (mVar 1) (mC (.int 0))) (aNil)))) (aCons (mOp divI (mVar 6) (mCB lenD (aCons (mOp itemD (mVar 1) (mC (.int 0))) (aNil)))) (aNil)))))) (sSeq (sIf (tAndM (mT (mCB isiD (aCons (mVar 2) (aCons (mC (.ty "tuple")) (aNil))))) (mT (mOp (inY false) (mCB reprX (aCons (mVar 2) (aNil))) (mLcW (kAny (mVar 5)) [7] (gN 7) (tYesM) (mCB reprX (aCons (mVar 7) (aNil))))))) (sSet 4 (mLst (aCons (mC (.str "returned")) (aCons (mOp eqX (mOp itemD (mOp itemD (mVar 1) (mOp itemD (mVar 2) (mC (.int 1)))) (mOp itemD (mVar 2) (mC (.int 0)))) (mC (.str "1"))) (aNil))))) (sNil)) (sRet (mOp eqX (mCB reprX (aCons (mLamCall 2 c_law_caught (mOp (ixI [("Cloth", gCloth____getitem__)] itemD) (mVar 0) (mVar 2))) (aNil))) (mCB reprX (aCons (mVar 4) (aNil)))))))) [some (clo ys), some (.lst (ys.map D.str)), some x, some y, o4, none, none, none] c)
      fun f c => match f with
      | .rt d => Q d c
      | .nx _ => Q .non c
      | _ => False := by
  have hz : sizeLine = 16777216 := sizeLine_eq
  have n1 := hr.n1
  have n8 := hr.n8
  have w1 := hr.w1
  have w8 := hr.w8
  obtain ⟨y0, yr, hy, hyl⟩ := hr.head
  have i0 : ∀ c, itemD (.lst (ys.map D.str)) (.int 0) c = .ok (.str y0) c := fun c => by rw [hy]; simp [itemD, itL, atI, ixN]
  have l0 : ∀ c, lenD [.str y0] c = .ok (.int (w : Nat)) c := fun c => by
    have : Ok (lenD [.str y0] c) fun d c' => d = .int (w : Nat) ∧ c' = c := ok_len_str (by omega) ⟨by rw [hyl], rfl⟩
    exact this.eq
  have lr : ∀ c, lenD [.lst (ys.map D.str)] c = .ok (.int ys.length) c := fun c => by rw [len_seq rfl, List.length_map]
  have hm : ((w : Int) * (ys.length : Int)) = ((w * ys.length : Nat) : Int) := by simp
  have m64 : w * ys.length ≤ 64 := Nat.mul_le_mul w8 n8
  have hw0 : (w : Int) ≠ 0 := by omega
  refine os_seq (os_set (ok_lst (ok_acons (ok_c (ok_acons (ok_var rfl (ok_anil ⟨Nat.le_of_ble_eq_true rfl, ?_⟩)))))))
  refine os_seq (os_set (ok_lcR (w * ys.length) (fun a => crD (a % w, a / w)) (by omega) ?_ (fun a ha => ok_gn ⟨rfl, ?_⟩) ?_))
  · refine ok_acons (ok_op (ok_cb (ok_acons (ok_op (ok_var rfl (ok_c (Ok.of (i0 c) (ok_anil (Ok.of (l0 c) (ok_cb (ok_acons (ok_var rfl (ok_anil (Ok.of (lr c) (Ok.of (mul_len _ _ w8 n8 c) (ok_anil ⟨rfl, ?_⟩))))))))))))))))
    rw [hm]
  · refine ok_tup (ok_acons (ok_op (ok_var rfl (ok_cb (ok_acons (ok_op (ok_var rfl (ok_c (Ok.of (i0 _) (ok_anil (Ok.of (l0 _) ?_)))))))))))
    refine ok_intC hw0 ?_
    refine ok_acons (ok_op (ok_var rfl (ok_cb (ok_acons (ok_op (ok_var rfl (ok_c (Ok.of (i0 _) (ok_anil (Ok.of (l0 _) ?_))))))))))
    refine ok_intC ⟨hw0, by omega⟩ (ok_anil ⟨Nat.le_of_ble_eq_true rfl, ?_, rfl⟩)
    simp only [crD, fmod_nat, fdiv_nat]
  have eP : (List.range (w * ys.length)).map (fun a => crD (a % w, a / w)) = (pairsL w ys.length).map crD := by
    unfold pairsL
    rw [List.map_map]
    rfl
  rw [eP]
  -- the last row, for what is due
  have last : ∀ (d : D) (s : Str) (o5 o6 o7 : Option D), mFun 2 1 (c_law_caught fun _ c' => (mOp (ixI [("Cloth", gCloth____getitem__)] itemD) (mVar 0) (mVar 2)) [some (clo ys), some (.lst (ys.map D.str)), some x, some y, some d, o5, o6, o7] c') [.non] c = .ok d c → reprX [d] c = .ok (.str s) c →
      OkS ((sRet (mOp eqX (mCB reprX (aCons (mLamCall 2 c_law_caught (mOp (ixI [("Cloth", gCloth____getitem__)] itemD) (mVar 0) (mVar 2))) (aNil))) (mCB reprX (aCons (mVar 4) (aNil))))) [some (clo ys), some (.lst (ys.map D.str)), some x, some y, some d, o5, o6, o7] c) fun f c => match f with
      | .rt d => Q d c
      | .nx _ => Q .non c
      | _ => False := fun d s o5 o6 o7 h1 h2 => os_ret (same_end (ok_lamcall h1 ⟨rfl, rfl⟩) (ok_var rfl ⟨rfl, rfl⟩) h2 q)
  have ix : ∀ (l : Ls) (r : Mi.R D), l[0]? = some (some (clo ys)) → l[2]? = some (some x) → gCloth____getitem__ [clo ys, x] c = r → (mOp (ixI [("Cloth", gCloth____getitem__)] itemD) (mVar 0) (mVar 2)) l c = r := fun l r h0 h2 e => by
    have a0 : mVar 0 l c = .ok (clo ys) c := by unfold mVar; rw [h0]
    have a2 : mVar 2 l c = .ok x c := by unfold mVar; rw [h2]
    unfold mOp
    rw [a0]
    simp only [R.bind_ok, a2]
    unfold ixI
    rw [clo_is ys c]
    simp only []
    rw [viaT_eq (clo_is ys c)]
    exact e
  have notc : crOf w ys.length x = none → OkS ((sRet (mOp eqX (mCB reprX (aCons (mLamCall 2 c_law_caught (mOp (ixI [("Cloth", gCloth____getitem__)] itemD) (mVar 0) (mVar 2))) (aNil))) (mCB reprX (aCons (mVar 4) (aNil))))) [some (clo ys), some (.lst (ys.map D.str)), some x, some y, some (.lst [.str "crossing", x]), some (.lst ((pairsL w ys.length).map crD)), none, none] c) fun f c => match f with
      | .rt d => Q d c
      | .nx _ => Q .non c
      | _ => False := fun h => by
    obtain ⟨s, es⟩ := repr_pair sb_crs hx.1
    exact last _ s _ _ _ (caught_cr fun l => ix _ _ rfl rfl (getitem_x hr (itq_of hx) h)) es
  refine os_seq (os_if (ok_tand (ok_t (ok_cb (ok_acons (ok_var rfl (ok_acons (ok_c (ok_anil (Ok.of (isi_t hx) ⟨_, rfl, fun ht => ?_, fun ht => ⟨fun h => Bool.noConfusion h, fun _ => os_nil (notc (cr_non ht _ _))⟩⟩))))))))))
  obtain ⟨p, e, h1, h2, h3, h4⟩ := tup_py hx ht
  refine ok_t (ok_op (ok_cb (ok_acons (ok_var rfl (ok_anil (Ok.of (repr_shown (e c) h1 (by omega) (by omega)) ?_))))))
  refine ok_WY (pairsL w ys.length) crD (fun p => D.str (crP p).shown) (by unfold pairsL; rw [List.length_map, List.length_range]; omega) (ok_var rfl ⟨rfl, rfl⟩) (fun p hp => ?_) ?_
  · obtain ⟨g1, g2⟩ := (pairs_mem (by omega)).mp hp
    exact ok_gn ⟨rfl, ok_cb (ok_acons (ok_var rfl (ok_anil (Ok.of (repr_cr (by omega) (by omega) c) ⟨rfl, rfl⟩))))⟩
  have em : (pairsL w ys.length).map (fun p => D.str (crP p).shown) = ((pairsL w ys.length).map fun p => (crP p).shown).map D.str := by rw [List.map_map]; rfl
  rw [em]
  refine Ok.of in_strsY ⟨_, rfl, fun hk => ?_, fun hk => os_nil (notc ?_)⟩
  · obtain ⟨pr, hp, es⟩ := List.mem_map.mp (of_decide_eq_true (show decide (p.shown ∈ (pairsL w ys.length).map fun p => (crP p).shown) = true from hk))
    obtain ⟨g1, g2⟩ := (pairs_mem (by omega)).mp hp
    obtain ⟨i, j⟩ := pr
    have g1 : i < w := g1
    have g2 : j < ys.length := g2
    obtain ⟨rfl, _⟩ := crOf_at (same_cr h4 (by omega) (by omega) es.symm)
    obtain ⟨s1, s2⟩ := sign_at hr g1 g2 c
    refine os_set (ok_lst (ok_acons (ok_c (ok_acons (ok_op (ok_op (ok_op (ok_var rfl (ok_op (ok_var rfl (ok_c (Ok.of (show itemD (crD (i, j)) (.int 1) c = .ok (.int (j : Nat)) c from rfl) (Ok.of (row_at g2 c) ?_)))))))))))))
    refine ok_op (ok_var rfl (ok_c (Ok.of (show itemD (crD (i, j)) (.int 0) c = .ok (.int (i : Nat)) c from rfl) (Ok.of s1 (ok_c (Ok.of (ch_one _ c) (ok_anil ⟨Nat.le_of_ble_eq_true rfl, ?_⟩)))))))
    obtain ⟨s, es⟩ := repr_pair sb_ret (qv_bl (sgn1 ys i j) c)
    exact last (.lst [.str "returned", .bl (sgn1 ys i j)]) s _ _ _ (caught_ok fun l => ix _ _ rfl rfl (getitem_eq hr g1 g2)) es
  · have hk : p.shown ∉ (pairsL w ys.length).map fun p => (crP p).shown := of_decide_eq_false (show decide (p.shown ∈ (pairsL w ys.length).map fun p => (crP p).shown) = false from hk)
    cases qc : crOf w ys.length x with
    | none => rfl
    | some pr =>
      obtain ⟨rfl, g1, g2⟩ := crOf_at qc
      refine absurd (List.mem_map.mpr ⟨pr, (pairs_mem (by omega)).mpr ⟨g1, g2⟩, ?_⟩) hk
      have := e c
      rw [py_cr 28 c pr] at this
      rw [Option.some.inj this]
end

theorem clmeth_eq {g : List D → Cs → Mi.R D} {mm : Str} {o : ME} {t : MA} {l : Ls} {c : Cs} {x : D} {xs : List D} {ys : List Str} (hm : (mm == ("kept_rows" : Str)) = false) (e1 : o l c = .ok x c) (hx : IsCl x c ys) (e2 : t l c = .ok xs c) : mMeth [("Cloth", g)] mm o t l c = g (x :: xs) c := by
  unfold mMeth
  rw [e1]
  simp only [R.bind_ok]
  rw [viaT_eq hx, lk_ne hm]
  simp only [e2, R.bind_ok]
section
variable {c : Cs} {ys : List Str} {w : Nat} {x y : D}
theorem pair_right_eq (hr : RwS ys w) (hx : V8 x c) (hy : V8 y c) : g_law_pair_right [clo ys, .lst (ys.map D.str), x, y] c = .ok (.bl true) c := by
  refine ok_eq (Ok.fun rfl ?_)
  unfold c_law_pair_right
  have mo : ∀ (l : Ls), l[0]? = some (some (clo ys)) → l[2]? = some (some x) → l[3]? = some (some y) → mMeth [("Cloth", gCloth__over)] "over" (mVar 0) (aCons (mVar 2) (aCons (mVar 3) (aNil))) l c = gCloth__over [clo ys, x, y] c := fun l h0 h2 h3 =>
    clmeth_eq (by decide +kernel) (by unfold mVar; rw [h0]) (clo_is ys c) (Ok.eq (ok_acons (ok_var h2 (ok_acons (ok_var h3 (ok_anil ⟨rfl, rfl⟩))))))
  have rest : ∀ (d : D) (s : Str), mFun 2 1 (c_law_caught fun _ c' => (mMeth [("Cloth", gCloth__over)] "over" (mVar 0) (aCons (mVar 2) (aCons (mVar 3) (aNil)))) [some (clo ys), some (.lst (ys.map D.str)), some x, some y, some d, none, none, none] c') [.non] c = .ok d c → reprX [d] c = .ok (.str s) c →
      OkS ((sSeq (sIf (mT (mOp neX (mCB reprX (aCons (mLamCall 2 c_law_caught (mMeth [("Cloth", gCloth__over)] "over" (mVar 0) (aCons (mVar 2) (aCons (mVar 3) (aNil))))) (aNil))) (mCB reprX (aCons (mVar 4) (aNil))))) (sRet (mC (.bl false))) (sNil)) (sSeq (sSet 4 (mLst (aCons (mC (.str "crossing")) (aCons (mVar 2) (aNil))))) (sSeq (sSet 5 (mLc (iR1 (aCons (mOp mulI (mCB lenD (aCons (mOp itemD (mVar 1) (mC (.int 0))) (aNil))) (mCB lenD (aCons (mVar 1) (aNil)))) (aNil))) [6] (gN 6) (tYesM) (mTup (aCons (mOp modI (mVar 6) (mCB lenD (aCons (mOp itemD (mVar 1) (mC (.int 0))) (aNil)))) (aCons (mOp divI (mVar 6) (mCB lenD (aCons (mOp itemD (mVar 1) (mC (.int 0))) (aNil)))) (aNil)))))) (sSeq (sIf (tAndM (mT (mCB isiD (aCons (mVar 2) (aCons (mC (.ty "tuple")) (aNil))))) (mT (mOp (inY false) (mCB reprX (aCons (mVar 2) (aNil))) (mLcW (kAny (mVar 5)) [7] (gN 7) (tYesM) (mCB reprX (aCons (mVar 7) (aNil))))))) (sSet 4 (mLst (aCons (mC (.str "returned")) (aCons (mOp eqX (mOp itemD (mOp itemD (mVar 1) (mOp itemD (mVar 2) (mC (.int 1)))) (mOp itemD (mVar 2) (mC (.int 0)))) (mC (.str "1"))) (aNil))))) (sNil)) (sRet (mOp eqX (mCB reprX (aCons (mLamCall 2 c_law_caught (mOp (ixI [("Cloth", gCloth____getitem__)] itemD) (mVar 0) (mVar 2))) (aNil))) (mCB reprX (aCons (mVar 4) (aNil))))))))) [some (clo ys), some (.lst (ys.map D.str)), some x, some y, some d, none, none, none] c) fun f c1 => match f with
      | .rt d => d = .bl true ∧ c1 = c
      | .nx _ => D.non = .bl true ∧ c1 = c
      | _ => False := fun d s h1 h2 => os_seq (same_if (ok_lamcall h1 ⟨rfl, rfl⟩) (ok_var rfl ⟨rfl, rfl⟩) h2 (pair_rest (Q := fun d c1 => d = .bl true ∧ c1 = c) hr hx ⟨rfl, rfl⟩))
  refine os_seq (os_set (ok_lst (ok_acons (ok_c (ok_acons (ok_var rfl (ok_anil ⟨Nat.le_of_ble_eq_true rfl, ?_⟩)))))))
  refine os_seq (os_if (ok_t (ok_cb (ok_acons (ok_var rfl (ok_acons (ok_var rfl (ok_anil (Ok.of (is_thread_law hr hx) ⟨_, rfl, fun h => ?_, fun h => os_nil ?_⟩)))))))))
  · obtain ⟨a, ea⟩ := Option.isSome_iff_exists.mp h
    obtain ⟨rfl, ha⟩ := thOf_at ea
    refine os_seq (os_set (ok_lst (ok_acons (ok_c (ok_acons (ok_var rfl (ok_anil ⟨Nat.le_of_ble_eq_true rfl, ?_⟩)))))))
    obtain ⟨s, es⟩ := repr_pair sb_thr hy.1
    have bad : (∀ b, thOf w ys.length y = some b → b.1 = a.1) → OkS ((sSeq (sIf (mT (mOp neX (mCB reprX (aCons (mLamCall 2 c_law_caught (mMeth [("Cloth", gCloth__over)] "over" (mVar 0) (aCons (mVar 2) (aCons (mVar 3) (aNil))))) (aNil))) (mCB reprX (aCons (mVar 4) (aNil))))) (sRet (mC (.bl false))) (sNil)) (sSeq (sSet 4 (mLst (aCons (mC (.str "crossing")) (aCons (mVar 2) (aNil))))) (sSeq (sSet 5 (mLc (iR1 (aCons (mOp mulI (mCB lenD (aCons (mOp itemD (mVar 1) (mC (.int 0))) (aNil))) (mCB lenD (aCons (mVar 1) (aNil)))) (aNil))) [6] (gN 6) (tYesM) (mTup (aCons (mOp modI (mVar 6) (mCB lenD (aCons (mOp itemD (mVar 1) (mC (.int 0))) (aNil)))) (aCons (mOp divI (mVar 6) (mCB lenD (aCons (mOp itemD (mVar 1) (mC (.int 0))) (aNil)))) (aNil)))))) (sSeq (sIf (tAndM (mT (mCB isiD (aCons (mVar 2) (aCons (mC (.ty "tuple")) (aNil))))) (mT (mOp (inY false) (mCB reprX (aCons (mVar 2) (aNil))) (mLcW (kAny (mVar 5)) [7] (gN 7) (tYesM) (mCB reprX (aCons (mVar 7) (aNil))))))) (sSet 4 (mLst (aCons (mC (.str "returned")) (aCons (mOp eqX (mOp itemD (mOp itemD (mVar 1) (mOp itemD (mVar 2) (mC (.int 1)))) (mOp itemD (mVar 2) (mC (.int 0)))) (mC (.str "1"))) (aNil))))) (sNil)) (sRet (mOp eqX (mCB reprX (aCons (mLamCall 2 c_law_caught (mOp (ixI [("Cloth", gCloth____getitem__)] itemD) (mVar 0) (mVar 2))) (aNil))) (mCB reprX (aCons (mVar 4) (aNil))))))))) [some (clo ys), some (.lst (ys.map D.str)), some (thD a), some y, some (.lst [.str "thread", y]), none, none, none] c) fun f c1 => match f with
      | .rt d => d = .bl true ∧ c1 = c
      | .nx _ => D.non = .bl true ∧ c1 = c
      | _ => False := fun hb => rest _ s (caught_th fun l => by rw [mo _ rfl rfl rfl]; exact over_x2 hr ha (val_of hy) hb) es
    refine os_if (ok_tand (ok_t (ok_cb (ok_acons (ok_var rfl (ok_acons (ok_var rfl (ok_anil (Ok.of (is_thread_law hr hy) ⟨_, rfl, fun h2 => ?_, fun h2 => ⟨fun h => Bool.noConfusion h, fun _ => os_nil (bad fun b eb => ?_)⟩⟩)))))))))
    · obtain ⟨b, eb⟩ := Option.isSome_iff_exists.mp h2
      obtain ⟨rfl, hb⟩ := thOf_at eb
      refine ok_t (ok_op (ok_op (ok_var rfl (ok_c (Ok.of (th0 a c) (ok_op (ok_var rfl (ok_c (Ok.of (th0 b c) (Ok.of (ne_kd a.1 b.1 c) ⟨_, rfl, fun hk => ?_, fun hk => os_nil (bad fun b' eb' => ?_)⟩))))))))))
      · have hne : a.1 ≠ b.1 := fun e => by rw [e] at hk; simp at hk
        refine os_set (ok_lst (ok_acons (ok_c (ok_acons (ok_cb (ok_acons (ok_var rfl (ok_acons (ok_var rfl (ok_acons (ok_var rfl (ok_anil (Ok.of (lies_eq hr ha hb hne) (ok_anil ⟨Nat.le_of_ble_eq_true rfl, ?_⟩))))))))))))))
        obtain ⟨s2, es2⟩ := repr_pair sb_ret (qv_bl (ovr ys a b) c)
        exact rest (.lst [.str "returned", .bl (ovr ys a b)]) s2 (caught_ok fun l => by rw [mo _ rfl rfl rfl]; exact over_eq hr ha hb hne) es2
      · rw [eb] at eb'
        cases eb'
        have : (a.1 == b.1) = true := by simpa using hk
        exact (eq_of_beq this).symm
    · rw [eb] at h2; cases h2
  · have hn : thOf w ys.length x = none := by
      cases e : thOf w ys.length x with
      | none => rfl
      | some a => rw [e] at h; cases h
    obtain ⟨s, es⟩ := repr_pair sb_thr hx.1
    exact rest _ s (caught_th fun l => by rw [mo _ rfl rfl rfl]; exact over_x1 hr (val_of hx) hn) es
/-! ### the functions of one thread -/
def thr3 (v : D) : D := .lst [.lst [.str "thread", v], .lst [.str "thread", v], .lst [.str "thread", v]]
theorem repr_thr3 {v : D} {c : Cs} (hv : PV v c) : ∃ s, reprX [thr3 v] c = .ok (.str s) c := by
  obtain ⟨p, e, h1, h2, h3⟩ := pv_py hv (n := 24) (by omega)
  refine ⟨_, repr_shown (p := PyData.list [.list [.str "thread", p], .list [.str "thread", p], .list [.str "thread", p]]) ?_ ?_ ?_ ?_⟩
  · show (mapO (toPyC 29 c) [.lst [.str "thread", v], .lst [.str "thread", v], .lst [.str "thread", v]]).map PyData.list = _
    have u : toPyC 28 c v = some p := toPyC_up (by omega) e
    have u2 : ∀ s : Str, toPyC 29 c (.lst [.str s, v]) = some (.list [.str s, p]) := fun s => by
      show (mapO (toPyC 28 c) [.str s, v]).map PyData.list = _
      simp only [mapO, u]
      rfl
    simp only [mapO, u2]
    rfl
  · have b1 : bP (.str "thread") = true := by decide +kernel
    show bPs _ = true
    simp only [bPs, bP, h1, Bool.and_true, Bool.true_and]
    have b1 : bP (.str "thread") = true := b1
    unfold bP at b1
    simp only [b1, Bool.and_self]
  · have w1 : wP (.str "thread") ≤ 80 := by decide +kernel
    have w3 : wP (.list [.str "thread", p]) ≤ 3000100 := by
      show wPs [.str "thread", p] + 2 ≤ _
      simp only [wPs]; omega
    show wPs [.list [.str "thread", p], .list [.str "thread", p], .list [.str "thread", p]] + 2 ≤ _
    generalize PyData.list [.str "thread", p] = y1 at w3 ⊢
    simp only [wPs]
    omega
  · simp only [PyData.depth, PyData.depthAll]; omega
theorem gh_eq {G : Nat → GhT} {l : Ls} {i : Nat} (hi : i < 3) (h0 : l[0]? = some (some (clo ys))) (h2 : l[2]? = some (some x)) (hr : RwS ys w) (hx : V8 x c) (hn : thOf w ys.length x = none) :
    ghRun 2 c_law_caught G [(mMeth [("Cloth", gCloth__below)] "below" (mVar 0) (aCons (mVar 2) (aNil))), (mMeth [("Cloth", gCloth__above)] "above" (mVar 0) (aCons (mVar 2) (aNil))), (mMeth [("Cloth", gCloth__score)] "score" (mVar 0) (aCons (mVar 2) (aNil)))] l [.gh i (G i)] c = .ok (.lst [.str "thread", x]) c := by
  have a0 : mVar 0 l c = .ok (clo ys) c := by unfold mVar; rw [h0]
  have a2 : aCons (mVar 2) (aNil) l c = .ok [x] c := Ok.eq (ok_acons (ok_var h2 (ok_anil ⟨rfl, rfl⟩)))
  have hv := val_of hx
  match i, hi with
  | 0, _ => rw [ghRun_at (i := 0) rfl, caught_th fun l' => (clmeth_eq (by decide +kernel) a0 (clo_is ys c) a2).trans (below_x hr hv hn)]; rfl
  | 1, _ => rw [ghRun_at (i := 1) rfl, caught_th fun l' => (clmeth_eq (by decide +kernel) a0 (clo_is ys c) a2).trans (above_x hr hv hn)]; rfl
  | 2, _ => rw [ghRun_at (i := 2) rfl, caught_th fun l' => (clmeth_eq (by decide +kernel) a0 (clo_is ys c) a2).trans (score_x hr hv hn)]; rfl
theorem one_right_ok (hr : RwS ys w) (hx : V8 x c) : ∃ c', g_law_one_right [clo ys, .lst (ys.map D.str), x] c = .ok (.bl true) c' ∧ (c' = c ∨ ∃ j z, x = .ref j ∧ c' = c.set j z) := by
  have hz : sizeLine = 16777216 := sizeLine_eq
  cases hn : thOf w ys.length x with
  | some a =>
    refine ⟨c, parR_at fun G => ok_eq (Ok.fun rfl ?_), .inl rfl⟩
    unfold c_law_one_right
    refine os_seq (os_set (ok_lst (ok_acons (Ok.of (a := D.gh 0 (G 0)) (c := c) rfl (ok_acons (Ok.of (a := D.gh 1 (G 1)) (c := c) rfl (ok_acons (Ok.of (a := D.gh 2 (G 2)) (c := c) rfl (ok_anil ⟨Nat.le_of_ble_eq_true rfl, ?_⟩)))))))))
    refine os_seq (os_if (ok_t (ok_cb (ok_acons (ok_var rfl (ok_acons (ok_var rfl (ok_anil (Ok.of (is_thread_law hr hx) ⟨_, rfl, fun h => os_ret (ok_c ⟨rfl, rfl⟩), fun h => ?_⟩)))))))))
    rw [hn] at h; cases h
  | none =>
    have main : ∀ (c' : Cs), (∀ G : Nat → GhT, OkS ((sSeq (sIf (mT (mCB isiD (aCons (mVar 2) (aCons (mC (.ty "list")) (aNil))))) (sExpr (mBM appendD (mVar 2) (aCons (mC (.str "more")) (aNil)))) (sNil)) (sRet (mOp eqX (mCB reprX (aCons (mVar 4) (aNil))) (mCB reprX (aCons (mVar 5) (aNil)))))) [some (clo ys), some (.lst (ys.map D.str)), some x, some (.lst [.gh 0 (G 0), .gh 1 (G 1), .gh 2 (G 2)]), some (thr3 x), some (thr3 x), none] c) fun f c1 => match f with
        | .rt d => d = .bl true ∧ c1 = c'
        | .nx _ => D.non = .bl true ∧ c1 = c'
        | _ => False) → g_law_one_right [clo ys, .lst (ys.map D.str), x] c = .ok (.bl true) c' := fun c' ht => parR_at fun G => ok_eq (Ok.fun rfl (by
      unfold c_law_one_right
      refine os_seq (os_set (ok_lst (ok_acons (Ok.of (a := D.gh 0 (G 0)) (c := c) rfl (ok_acons (Ok.of (a := D.gh 1 (G 1)) (c := c) rfl (ok_acons (Ok.of (a := D.gh 2 (G 2)) (c := c) rfl (ok_anil ⟨Nat.le_of_ble_eq_true rfl, ?_⟩)))))))))
      refine os_seq (os_if (ok_t (ok_cb (ok_acons (ok_var rfl (ok_acons (ok_var rfl (ok_anil (Ok.of (is_thread_law hr hx) ⟨_, rfl, fun h => ?_, fun h => os_nil ?_⟩)))))))))
      · rw [hn] at h; cases h
      have all : mGhAll 2 c_law_caught G [(mMeth [("Cloth", gCloth__below)] "below" (mVar 0) (aCons (mVar 2) (aNil))), (mMeth [("Cloth", gCloth__above)] "above" (mVar 0) (aCons (mVar 2) (aNil))), (mMeth [("Cloth", gCloth__score)] "score" (mVar 0) (aCons (mVar 2) (aNil)))] 3 6 [some (clo ys), some (.lst (ys.map D.str)), some x, some (.lst [.gh 0 (G 0), .gh 1 (G 1), .gh 2 (G 2)]), none, none, none] c = .ok (thr3 x) c := by
        refine Eq.trans (if_pos rfl) (parR_at fun G' => ok_eq ?_)
        refine ok_WY (List.range 3) (fun i => D.gh i (G' i)) (fun _ => .lst [.str "thread", x]) (by decide) (ok_var rfl ⟨rfl, rfl⟩) (fun i hi => ok_gn ⟨rfl, ?_⟩) ⟨rfl, rfl⟩
        refine Ok.bind (ok_acons (ok_var (d := D.gh i (G' i)) rfl (ok_anil ?_)))
        exact Ok.of (gh_eq (List.mem_range.mp hi) rfl rfl hr hx hn) ⟨rfl, rfl⟩
      obtain ⟨s, es⟩ := repr_thr3 hx.1.pv
      refine os_seq (os_par (ok_acons (Ok.of all (ok_acons (ok_op (ok_lst (ok_acons (ok_lst (ok_acons (ok_c (ok_acons (ok_var rfl (ok_anil ⟨Nat.le_of_ble_eq_true rfl, ok_anil ⟨Nat.le_of_ble_eq_true rfl, ok_c (Ok.of (a := thr3 x) (c := c) rfl (ok_anil ⟨_, _, rfl, ?_⟩))⟩⟩)))))))))))))
      exact os_seq (same_if (ok_var rfl ⟨rfl, rfl⟩) (ok_var rfl ⟨rfl, rfl⟩) es (ht G))))
    rcases hx.1.lst with ⟨t, ht, hnl, htn⟩ | ⟨j, xs, e, hk⟩
    · obtain ⟨s, es⟩ := repr_thr3 hx.1.pv
      refine ⟨c, main c fun G => os_seq (os_if (ok_t (ok_cb (ok_acons (ok_var rfl (ok_acons (ok_c (ok_anil (Ok.of (isi_of (n := "list") ht (by decide)) ?_))))))))), .inl rfl⟩
      have e : isT t "list" = false := by
        unfold isT
        have : (t == "list") = false := beq_eq_false_iff_ne.mpr hnl
        rw [this]
        simp
      rw [e]
      exact ⟨_, rfl, fun h => Bool.noConfusion h, fun _ => os_nil (os_ret (same_end (ok_var rfl ⟨rfl, rfl⟩) (ok_var rfl ⟨rfl, rfl⟩) es ⟨rfl, rfl⟩))⟩
    · obtain ⟨hp, hl⟩ := hx.1.morePV e hk
      obtain ⟨s, es⟩ := repr_thr3 hp
      subst e
      refine ⟨_, main (c.set j (.lst (xs ++ [.str "more"]))) fun G => os_seq (os_if (ok_t (ok_cb (ok_acons (ok_var rfl (ok_acons (ok_c (ok_anil (Ok.of (isi_of (t := "list") (n := "list") (by simp [tyD, hk]) (by decide)) ⟨_, rfl, fun _ => ?_, fun h => by cases h⟩))))))))), .inr ⟨j, _, rfl, rfl⟩⟩
      refine os_expr (ok_bm (ok_var rfl ⟨isL_ref hk, ok_acons (ok_c (ok_anil (ok_append hk (by omega) ?_)))⟩))
      exact os_ret (same_end (ok_var rfl ⟨rfl, rfl⟩) (ok_var rfl ⟨rfl, rfl⟩) es ⟨rfl, rfl⟩)
end

/-! ### what a cloth hands out -/
theorem py_th (n : Nat) (c : Cs) (t : Th) : toPyC (n + 2) c (thD t) = some (thP t) := rfl
theorem mut_clr {c : Cs} {k : Nat} {xs : List D} (h : c[k]? = some (.lst xs)) : mutM clrF (.ref k) [] c = .ok .non (c.set k (.lst [])) := by
  unfold mutM cellX
  simp only [h]
  rfl
theorem ths_w : ∀ {ts : List Th}, (∀ t ∈ ts, t.2 < 8) → bPs (ts.map thP) = true ∧ wPs (ts.map thP) ≤ 100 * ts.length ∧ PyData.depthAll (ts.map thP) ≤ 3
  | [], _ => ⟨rfl, by simp [wPs], by simp [PyData.depthAll]⟩
  | t :: ts, h => by
    obtain ⟨q1, q2, q3⟩ := ths_w fun x hx => h x (List.mem_cons_of_mem _ hx)
    obtain ⟨b, n⟩ := t
    have hn : n < 8 := h (b, n) List.mem_cons_self
    obtain ⟨k1, k2⟩ := kd_bits b
    have b1 : bP (thP (b, n)) = true := by
      show (bP (.str (kdS b)) && (decide ((n : Int).natAbs < 10 ^ 40) && true)) = true
      rw [k1, decide_eq_true (show (n : Int).natAbs < 10 ^ 40 from Nat.lt_of_le_of_lt (show (n : Int).natAbs ≤ 100 by omega) (by decide +kernel))]
      rfl
    have w1 : wP (thP (b, n)) ≤ 94 := by
      show ((10 * (kdS b).length + 2) + 2 + (45 + 2 + 0)) + 3 ≤ _
      omega
    have d1 : (thP (b, n)).depth ≤ 3 := by simp [thP, PyData.depth, PyData.depthAll]
    refine ⟨?_, ?_, ?_⟩
    · rw [List.map_cons]
      simp only [bPs, b1, q1, Bool.and_self]
    · rw [List.map_cons]
      simp only [wPs, List.length_cons]
      omega
    · rw [List.map_cons]
      simp only [PyData.depthAll]
      omega
theorem ints_w : ∀ {is : List Int}, (∀ i ∈ is, i.natAbs ≤ 100) → bPs (is.map PyData.int) = true ∧ wPs (is.map PyData.int) ≤ 50 * is.length ∧ PyData.depthAll (is.map PyData.int) ≤ 1
  | [], _ => ⟨rfl, by simp [wPs], by simp [PyData.depthAll]⟩
  | i :: is, hi => by
    obtain ⟨q1, q2, q3⟩ := ints_w fun x hx => hi x (List.mem_cons_of_mem _ hx)
    have := hi i List.mem_cons_self
    refine ⟨?_, ?_, ?_⟩
    · show (decide (i.natAbs < 10 ^ 40) && bPs (is.map PyData.int)) = true
      rw [q1, decide_eq_true (Nat.lt_of_le_of_lt this (by decide +kernel))]; rfl
    · simp only [List.map_cons, wPs, wP, List.length_cons]; omega
    · simp only [List.map_cons, PyData.depthAll, PyData.depth]; omega
def fndP (xs zs : List Th) (n : Int) : PyData := .list [.list (xs.map thP), .list (zs.map thP), .int n]
theorem fnd_ok {xs zs : List Th} {n : Int} (hx : ∀ t ∈ xs, t.2 < 8) (hz : ∀ t ∈ zs, t.2 < 8) (lx : xs.length ≤ 100) (lz : zs.length ≤ 100) (hn : n.natAbs ≤ 100) : bP (fndP xs zs n) = true ∧ wP (fndP xs zs n) ≤ 16777216 ∧ (fndP xs zs n).depth ≤ 60 := by
  obtain ⟨a1, a2, a3⟩ := ths_w hx
  obtain ⟨b1, b2, b3⟩ := ths_w hz
  have e1 : bP (.list (xs.map thP)) = true := a1
  have e2 : bP (.list (zs.map thP)) = true := b1
  have e3 : bP (.int n) = true := decide_eq_true (Nat.lt_of_le_of_lt hn (by decide +kernel))
  have v1 : wP (.list (xs.map thP)) ≤ 10010 := by show wPs (xs.map thP) + 2 ≤ _; omega
  have v2 : wP (.list (zs.map thP)) ≤ 10010 := by show wPs (zs.map thP) + 2 ≤ _; omega
  have v3 : wP (.int n) ≤ 45 := Nat.le_refl _
  refine ⟨?_, ?_, ?_⟩
  · show bPs [_, _, _] = true
    simp only [bPs, e1, e2, e3, Bool.and_self]
  · show wPs [.list (xs.map thP), .list (zs.map thP), .int n] + 2 ≤ _
    simp only [wPs]
    omega
  · simp only [fndP, PyData.depth, PyData.depthAll]
    omega
theorem fnd_c {c : Cs} {a b : Nat} {xs zs : List Th} {n : Int} (ha : c[a]? = some (.lst (xs.map thD))) (hb : c[b]? = some (.lst (zs.map thD))) : toPyC 30 c (.lst [.ref a, .ref b, .int n]) = some (fndP xs zs n) := by
  show (mapO (toPyC 29 c) [.ref a, .ref b, .int n]).map PyData.list = _
  have e1 : toPyC 29 c (.ref a) = some (.list (xs.map thP)) := by rw [toPyC_lst (n := 28) ha, mapO_map (fun t => py_th 26 c t)]; rfl
  have e2 : toPyC 29 c (.ref b) = some (.list (zs.map thP)) := by rw [toPyC_lst (n := 28) hb, mapO_map (fun t => py_th 26 c t)]; rfl
  simp only [mapO, e1, e2]
  rfl
theorem fnd_t {c : Cs} {xs zs : List Th} {n : Int} : toPyC 30 c (.lst [.lst (xs.map thD), .lst (zs.map thD), .int n]) = some (fndP xs zs n) := by
  show (mapO (toPyC 29 c) [.lst (xs.map thD), .lst (zs.map thD), .int n]).map PyData.list = _
  have e1 : ∀ us : List Th, toPyC 29 c (.lst (us.map thD)) = some (.list (us.map thP)) := fun us => by
    show (mapO (toPyC 28 c) (us.map thD)).map PyData.list = _
    rw [mapO_map (fun t => py_th 26 c t)]; rfl
  simp only [mapO, e1]
  rfl
theorem same_two {a b : ME} {l : Ls} {c : Cs} {d1 d2 : D} {p : PyData} {QS : Fl → Cs → Prop} (ha : a l c = .ok d1 c) (hb : b l c = .ok d2 c) (e1 : toPyC 30 c d1 = some p) (e2 : toPyC 30 c d2 = some p) (h1 : bP p = true) (h2 : wP p ≤ 16777216) (h3 : p.depth ≤ 60) (q : QS (.nx l) c) : OkS (sIf (mT (mOp neX (mCB reprX (aCons a (aNil))) (mCB reprX (aCons b (aNil))))) (sRet (mC (.bl false))) (sNil) l c) QS :=
  os_if (ok_t (ok_op (ok_cb (ok_acons (Ok.of ha (ok_anil (Ok.of (repr_shown e1 h1 h2 h3) (ok_cb (ok_acons (Ok.of hb (ok_anil (Ok.of (repr_shown e2 h1 h2 h3) (Ok.of (neS_self p.shown c) ⟨_, rfl, fun h => Bool.noConfusion h, fun _ => os_nil q⟩)))))))))))))
theorem inB_8 {ys : List Str} {w : Nat} {t : Th} (hr : RwS ys w) (h : inB2 w ys.length t) : t.2 < 8 := by
  have n8 := hr.n8
  have w8 := hr.w8
  unfold inB2 at h
  split at h <;> omega
theorem blw_8 {ys : List Str} {w : Nat} {a : Th} (hr : RwS ys w) : ∀ t ∈ blwL ys w a, t.2 < 8 := fun t ht => inB_8 hr (crs_mem.mp (List.mem_filter.mp ht).1).1
theorem abv_8 {ys : List Str} {w : Nat} {a : Th} (hr : RwS ys w) : ∀ t ∈ abvL ys w a, t.2 < 8 := fun t ht => inB_8 hr (crs_mem.mp (List.mem_filter.mp ht).1).1
section
variable {ys : List Str} {w : Nat}
theorem lap_one {t : Th} {c : Cs} {o2 o4 o5 o6 o8 : Option D} {QS : Fl → Cs → Prop} (hr : RwS ys w) (ht : inB2 w ys.length t)
    (q : ∀ o8 c', Pfx c c' → QS (.nx [some (clo ys), some (.lst (ys.map D.str)), o2, some (thD t), o4, o5, o6, some (.lst [.lst ((blwL ys w t).map thD), .lst ((abvL ys w t).map thD), .int ((blwL ys w t).length : Nat)]), o8, none]) c') :
    OkS ((sSeq (sSet 8 (mLst (aCons (mMeth [("Cloth", gCloth__below)] "below" (mVar 0) (aCons (mVar 3) (aNil))) (aCons (mMeth [("Cloth", gCloth__above)] "above" (mVar 0) (aCons (mVar 3) (aNil))) (aCons (mMeth [("Cloth", gCloth__score)] "score" (mVar 0) (aCons (mVar 3) (aNil))) (aNil)))))) (sSeq (sIf (mT (mOp neX (mCB reprX (aCons (mVar 8) (aNil))) (mCB reprX (aCons (mVar 7) (aNil))))) (sRet (mC (.bl false))) (sNil)) (sSeq (sExpr (mBM appendD (mOp itemD (mVar 8) (mC (.int 0))) (aCons (mC (.str "more")) (aNil)))) (sExpr (mBM (mutM clrF) (mOp itemD (mVar 8) (mC (.int 1))) aNil))))) [some (clo ys), some (.lst (ys.map D.str)), o2, some (thD t), o4, o5, o6, some (.lst [.lst ((blwL ys w t).map thD), .lst ((abvL ys w t).map thD), .int ((blwL ys w t).length : Nat)]), o8, none] c) QS := by
  have hz : sizeLine = 16777216 := sizeLine_eq
  have n8 := hr.n8
  have w8 := hr.w8
  have lb := blw_len ys w t
  have la := abv_len ys w t
  refine os_seq (os_set (ok_lst (ok_acons (ok_clmeth (by decide +kernel) (ok_var rfl ⟨⟨ys, clo_is ys _⟩, ok_acons (ok_var rfl (ok_anil (below_ok hr ht ?_)))⟩)))))
  refine ok_acons (ok_clmeth (by decide +kernel) (ok_var rfl ⟨⟨ys, clo_is ys _⟩, ok_acons (ok_var rfl (ok_anil (above_ok hr ht ?_)))⟩))
  refine ok_acons (ok_clmeth (by decide +kernel) (ok_var rfl ⟨⟨ys, clo_is ys _⟩, ok_acons (ok_var rfl (ok_anil (score_ok hr ht fun c3 p3 => ok_anil ⟨Nat.le_of_ble_eq_true rfl, ?_⟩)))⟩))
  have hl2 : (c ++ [Cell.lst ((blwL ys w t).map thD)]).length = c.length + 1 := by simp
  have ha : c3[c.length]? = some (.lst ((blwL ys w t).map thD)) := p3.get ((Pfx.one _ _).get (cell_last _))
  have hb : c3[c.length + 1]? = some (.lst ((abvL ys w t).map thD)) := by rw [← hl2]; exact p3.get (cell_last _)
  have pc : Pfx c c3 := ((Pfx.one _ _).trans (Pfx.one _ _)).trans p3
  rw [hl2]
  obtain ⟨g1, g2, g3⟩ := fnd_ok (n := ((blwL ys w t).length : Nat)) (blw_8 hr (a := t)) (abv_8 hr (a := t)) (by omega) (by omega) (by omega)
  refine os_seq (same_two (Ok.eq (ok_var rfl ⟨rfl, rfl⟩)) (Ok.eq (ok_var rfl ⟨rfl, rfl⟩)) (fnd_c ha hb) fnd_t g1 g2 g3 ?_)
  refine os_seq (os_expr (ok_bm (ok_op (ok_var rfl (ok_c (Ok.of (item_seq (v := .lst [.ref c.length, .ref (c.length + 1), .int ((blwL ys w t).length : Nat)]) (i := 0) rfl rfl) ⟨isL_ref ha, ok_acons (ok_c (ok_anil (ok_append ha (by rw [List.length_map]; omega) ?_)))⟩))))))
  have hb2 : (c3.set c.length (.lst ((blwL ys w t).map thD ++ [.str "more"])))[c.length + 1]? = some (.lst ((abvL ys w t).map thD)) := by rw [List.getElem?_set_ne (by omega)]; exact hb
  refine os_expr (ok_bm (ok_op (ok_var rfl (ok_c (Ok.of (item_seq (v := .lst [.ref c.length, .ref (c.length + 1), .int ((blwL ys w t).length : Nat)]) (i := 1) rfl rfl) ⟨isL_ref hb2, ok_anil (Ok.of (mut_clr hb2) ?_)⟩)))))
  exact q _ _ ((pc.set (Nat.le_refl _) _).set (by omega) _)
def sc8 (ys : List Str) (w : Nat) (pre : List Th) (b : Bool) : List Int := (pre.filter fun t => t.1 == b).map fun t => ((blwL ys w t).length : Int)
theorem sc8_len (pre : List Th) (b : Bool) : (sc8 ys w pre b).length ≤ pre.length := by
  unfold sc8
  rw [List.length_map]
  exact List.length_filter_le _ _
theorem sc8_snoc (pre : List Th) (t : Th) (b : Bool) : sc8 ys w (pre ++ [t]) b = if t.1 = b then sc8 ys w pre b ++ [((blwL ys w t).length : Int)] else sc8 ys w pre b := by
  unfold sc8
  rw [List.filter_append, List.map_append]
  by_cases h : t.1 = b
  · rw [if_pos h, List.filter_cons_of_pos (by rw [h]; exact beq_self_eq_true b)]
    rfl
  · rw [if_neg h, List.filter_cons_of_neg (by simpa using h)]
    simp
structure St8 (ys : List Str) (w J j1 j2 : Nat) (pre : List Th) (c : Cs) : Prop where
  dj : c[J]? = some (.dct [(.inr "warp", .ref j1), (.inr "weft", .ref j2)])
  d1 : c[j1]? = some (.lst ((sc8 ys w pre false).map D.int))
  d2 : c[j2]? = some (.lst ((sc8 ys w pre true).map D.int))
  n1 : j1 ≠ j2
  n2 : J ≠ j1
  n3 : J ≠ j2
theorem St8.pfx {J j1 j2 : Nat} {pre : List Th} {c c' : Cs} (h : St8 ys w J j1 j2 pre c) (p : Pfx c c') : St8 ys w J j1 j2 pre c' := ⟨p.get h.dj, p.get h.d1, p.get h.d2, h.n1, h.n2, h.n3⟩
theorem St8.put {J j1 j2 : Nat} {pre : List Th} {c : Cs} {t : Th} (h : St8 ys w J j1 j2 pre c) :
    (t.1 = false → St8 ys w J j1 j2 (pre ++ [t]) (c.set j1 (.lst ((sc8 ys w pre false).map D.int ++ [.int ((blwL ys w t).length : Nat)])))) ∧ (t.1 = true → St8 ys w J j1 j2 (pre ++ [t]) (c.set j2 (.lst ((sc8 ys w pre true).map D.int ++ [.int ((blwL ys w t).length : Nat)])))) := by
  have l1 := (List.getElem?_eq_some_iff.mp h.d1).1
  have l2 := (List.getElem?_eq_some_iff.mp h.d2).1
  refine ⟨fun e => ⟨by rw [List.getElem?_set_ne (Ne.symm h.n2)]; exact h.dj, ?_, ?_, h.n1, h.n2, h.n3⟩, fun e => ⟨by rw [List.getElem?_set_ne (Ne.symm h.n3)]; exact h.dj, ?_, ?_, h.n1, h.n2, h.n3⟩⟩
  · rw [List.getElem?_set_self l1, sc8_snoc, if_pos e, List.map_append]; rfl
  · rw [List.getElem?_set_ne h.n1, sc8_snoc, if_neg (by rw [e]; decide)]; exact h.d2
  · rw [List.getElem?_set_ne (Ne.symm h.n1), sc8_snoc, if_neg (by rw [e]; decide)]; exact h.d1
  · rw [List.getElem?_set_self l2, sc8_snoc, if_pos e, List.map_append]; rfl
theorem body_one {t : Th} {c c0 : Cs} {J j1 j2 : Nat} {pre : List Th} {o4 o5 o6 o7 o8 : Option D} {QS : Fl → Cs → Prop} (hr : RwS ys w) (ht : inB2 w ys.length t) (st : St8 ys w J j1 j2 pre c) (p0 : Pfx c0 c) (h1 : c0.length ≤ j1) (h2 : c0.length ≤ j2) (hp : pre.length ≤ 16)
    (q : ∀ o4 o5 o6 o7 o8 c', Pfx c0 c' → St8 ys w J j1 j2 (pre ++ [t]) c' → QS (.nx [some (clo ys), some (.lst (ys.map D.str)), some (.ref J), some (thD t), o4, o5, o6, o7, o8, none]) c') :
    OkS ((sSeq (sSet 5 (mLc (iLst (mCB g_law_threads (aCons (mVar 1) (aNil)))) [9] (gN 9) (mT (mOp neX (mOp itemD (mVar 9) (mC (.int 0))) (mOp itemD (mVar 3) (mC (.int 0))))) (mVar 9))) (sSeq (sSet 6 (mLcW (kAny (mVar 5)) [9] (gN 9) (mT (mCB g_law_lies_over (aCons (mVar 1) (aCons (mVar 3) (aCons (mVar 9) (aNil)))))) (mVar 9))) (sSeq (sExpr (mBM appendD (mOp dgetI (mVar 2) (mOp itemD (mVar 3) (mC (.int 0)))) (aCons (mCB lenD (aCons (mVar 6) (aNil))) (aNil)))) (sSeq (sSet 7 (mLst (aCons (mVar 6) (aCons (mLcW (kAny (mVar 5)) [9] (gN 9) (mT (mOp (inY true) (mVar 9) (mVar 6))) (mVar 9)) (aCons (mCB lenD (aCons (mVar 6) (aNil))) (aNil)))))) (sFor (iR1 (aCons (mC (.int 2)) (aNil))) (gN 4) (sSeq (sSet 8 (mLst (aCons (mMeth [("Cloth", gCloth__below)] "below" (mVar 0) (aCons (mVar 3) (aNil))) (aCons (mMeth [("Cloth", gCloth__above)] "above" (mVar 0) (aCons (mVar 3) (aNil))) (aCons (mMeth [("Cloth", gCloth__score)] "score" (mVar 0) (aCons (mVar 3) (aNil))) (aNil)))))) (sSeq (sIf (mT (mOp neX (mCB reprX (aCons (mVar 8) (aNil))) (mCB reprX (aCons (mVar 7) (aNil))))) (sRet (mC (.bl false))) (sNil)) (sSeq (sExpr (mBM appendD (mOp itemD (mVar 8) (mC (.int 0))) (aCons (mC (.str "more")) (aNil)))) (sExpr (mBM (mutM clrF) (mOp itemD (mVar 8) (mC (.int 1))) aNil)))))))))) [some (clo ys), some (.lst (ys.map D.str)), some (.ref J), some (thD t), o4, o5, o6, o7, o8, none] c) QS := by
  have hz : sizeLine = 16777216 := sizeLine_eq
  have n8 := hr.n8
  have w8 := hr.w8
  have lc := crs_len w ys.length t
  refine os_seq (os_set (ok_LT (thL w ys.length) thD thD (fun u => !(u.1 == t.1)) (by rw [thL_len]; omega) (ok_cb (ok_acons (ok_var rfl (ok_anil (Ok.of (lthr_eq hr) ⟨rfl, rfl⟩))))) (fun u hu => ok_gn ⟨rfl, ?_⟩) ?_))
  · exact ok_t (ok_op (ok_op (ok_var rfl (ok_c (Ok.of (th0 u c) (ok_op (ok_var rfl (ok_c (Ok.of (th0 t c) (Ok.of (ne_kd _ _ _) ⟨_, rfl, rfl, rfl, fun _ => ok_var rfl ⟨rfl, rfl⟩⟩))))))))))
  have ec : (thL w ys.length).filter (fun u => !(u.1 == t.1)) = crsL w ys.length t := rfl
  rw [ec]
  refine os_seq (os_set (ok_WT (crsL w ys.length t) thD thD (fun u => ovr ys t u) (by omega) (ok_var rfl ⟨rfl, rfl⟩) (fun u hu => ok_gn ⟨rfl, ?_⟩) ?_))
  · obtain ⟨g1, g2⟩ := crs_mem.mp hu
    exact ok_t (ok_cb (ok_acons (ok_var rfl (ok_acons (ok_var rfl (ok_acons (ok_var rfl (ok_anil (Ok.of (lies_eq hr ht g1 (fun e => g2 e.symm)) ⟨_, rfl, rfl, rfl, fun _ => ok_var rfl ⟨rfl, rfl⟩⟩)))))))))
  have eb : (crsL w ys.length t).filter (fun u => ovr ys t u) = blwL ys w t := rfl
  rw [eb]
  have lb := blw_len ys w t
  have lenb : ∀ c, lenD [.lst ((blwL ys w t).map thD)] c = .ok (.int ((blwL ys w t).length : Nat)) c := fun c => by rw [len_seq rfl, List.length_map]
  have go : ∀ c1, Pfx c0 c1 → St8 ys w J j1 j2 (pre ++ [t]) c1 → OkS ((sSeq (sSet 7 (mLst (aCons (mVar 6) (aCons (mLcW (kAny (mVar 5)) [9] (gN 9) (mT (mOp (inY true) (mVar 9) (mVar 6))) (mVar 9)) (aCons (mCB lenD (aCons (mVar 6) (aNil))) (aNil)))))) (sFor (iR1 (aCons (mC (.int 2)) (aNil))) (gN 4) (sSeq (sSet 8 (mLst (aCons (mMeth [("Cloth", gCloth__below)] "below" (mVar 0) (aCons (mVar 3) (aNil))) (aCons (mMeth [("Cloth", gCloth__above)] "above" (mVar 0) (aCons (mVar 3) (aNil))) (aCons (mMeth [("Cloth", gCloth__score)] "score" (mVar 0) (aCons (mVar 3) (aNil))) (aNil)))))) (sSeq (sIf (mT (mOp neX (mCB reprX (aCons (mVar 8) (aNil))) (mCB reprX (aCons (mVar 7) (aNil))))) (sRet (mC (.bl false))) (sNil)) (sSeq (sExpr (mBM appendD (mOp itemD (mVar 8) (mC (.int 0))) (aCons (mC (.str "more")) (aNil)))) (sExpr (mBM (mutM clrF) (mOp itemD (mVar 8) (mC (.int 1))) aNil))))))) [some (clo ys), some (.lst (ys.map D.str)), some (.ref J), some (thD t), o4, some (.lst ((crsL w ys.length t).map thD)), some (.lst ((blwL ys w t).map thD)), o7, o8, none] c1) QS := fun c1 p1 st1 => by
    refine os_seq (os_set (ok_lst (ok_acons (ok_var rfl (ok_acons (ok_WT (crsL w ys.length t) thD thD (fun u => !decide (u ∈ blwL ys w t)) (by omega) (ok_var rfl ⟨rfl, rfl⟩) (fun u hu => ok_gn ⟨rfl, ?_⟩) ?_))))))
    · exact ok_t (ok_op (ok_var rfl (ok_var rfl (Ok.of (in_th (ps := blwL ys w t) rfl nofun) ⟨_, rfl, rfl, rfl, fun _ => ok_var rfl ⟨rfl, rfl⟩⟩))))
    have ea : (crsL w ys.length t).filter (fun u => !decide (u ∈ blwL ys w t)) = abvL ys w t := by
      unfold abvL
      refine List.filter_congr fun u hu => ?_
      congr 1
      unfold blwL
      cases e : ovr ys t u with
      | true => exact decide_eq_true (List.mem_filter.mpr ⟨hu, e⟩)
      | false => exact decide_eq_false fun hm => by rw [(List.mem_filter.mp hm).2] at e; cases e
    rw [ea]
    refine ok_acons (ok_cb (ok_acons (ok_var rfl (ok_anil (Ok.of (lenb c1) (ok_anil ⟨Nat.le_of_ble_eq_true rfl, ?_⟩))))))
    refine os_forR 2 (fun lr l c' => Pfx c1 c' ∧ ∃ o4 o8, l = [some (clo ys), some (.lst (ys.map D.str)), some (.ref J), some (thD t), o4, some (.lst ((crsL w ys.length t).map thD)), some (.lst ((blwL ys w t).map thD)), some (.lst [.lst ((blwL ys w t).map thD), .lst ((abvL ys w t).map thD), .int ((blwL ys w t).length : Nat)]), o8, none]) (by decide) (ok_acons (ok_c (ok_anil ⟨rfl, rfl⟩))) ⟨Pfx.refl _, _, _, rfl⟩ ?_ ?_
    · rintro l c' ⟨p', o4', o8', rfl⟩
      exact q _ _ _ _ _ c' (p1.trans p') (st1.pfx p')
    · rintro x lr l c' ⟨p', o4', o8', rfl⟩
      exact ok_gn (lap_one hr ht fun o8 c6 p6 => ⟨p'.trans p6, _, _, rfl⟩)
  obtain ⟨b, i⟩ := t
  refine os_seq (os_expr (ok_bm (ok_op (ok_var rfl (ok_op (ok_var rfl (ok_c (Ok.of (th0 (b, i) c) (Ok.of (dget_kd b st.dj) ?_)))))))))
  cases b
  · refine ⟨isL_ref st.d1, ok_acons (ok_cb (ok_acons (ok_var rfl (ok_anil (Ok.of (lenb c) (ok_anil (ok_append st.d1 (by have := sc8_len (ys := ys) (w := w) pre false; rw [List.length_map]; omega) ?_)))))))⟩
    exact go _ (p0.set h1 _) (st.put.1 rfl)
  · refine ⟨isL_ref st.d2, ok_acons (ok_cb (ok_acons (ok_var rfl (ok_anil (Ok.of (lenb c) (ok_anil (ok_append st.d2 (by have := sc8_len (ys := ys) (w := w) pre true; rw [List.length_map]; omega) ?_)))))))⟩
    exact go _ (p0.set h2 _) (st.put.2 rfl)
/-! the lists of scores -/
def twoP (xs zs : List Int) : PyData := .tuple [.list (xs.map PyData.int), .list (zs.map PyData.int)]
theorem two_c {c : Cs} {a b : Nat} {xs zs : List Int} (ha : c[a]? = some (.lst (xs.map D.int))) (hb : c[b]? = some (.lst (zs.map D.int))) : toPyC 30 c (.tup [.ref a, .ref b]) = some (twoP xs zs) := by
  show (mapO (toPyC 29 c) [.ref a, .ref b]).map PyData.tuple = _
  have e1 : toPyC 29 c (.ref a) = some (.list (xs.map PyData.int)) := by rw [toPyC_lst (n := 28) ha, mapO_ints]; rfl
  have e2 : toPyC 29 c (.ref b) = some (.list (zs.map PyData.int)) := by rw [toPyC_lst (n := 28) hb, mapO_ints]; rfl
  simp only [mapO, e1, e2]
  rfl
theorem two_ok {xs zs : List Int} (hx : ∀ i ∈ xs, i.natAbs ≤ 100) (hz : ∀ i ∈ zs, i.natAbs ≤ 100) (lx : xs.length ≤ 100) (lz : zs.length ≤ 100) : bP (twoP xs zs) = true ∧ wP (twoP xs zs) ≤ 16777216 ∧ (twoP xs zs).depth ≤ 60 := by
  obtain ⟨a1, a2, a3⟩ := ints_w hx
  obtain ⟨b1, b2, b3⟩ := ints_w hz
  have e1 : bP (.list (xs.map PyData.int)) = true := a1
  have e2 : bP (.list (zs.map PyData.int)) = true := b1
  have v1 : wP (.list (xs.map PyData.int)) ≤ 10010 := by show wPs (xs.map PyData.int) + 2 ≤ _; omega
  have v2 : wP (.list (zs.map PyData.int)) ≤ 10010 := by show wPs (zs.map PyData.int) + 2 ≤ _; omega
  refine ⟨?_, ?_, ?_⟩
  · show bPs [_, _] = true
    simp only [bPs, e1, e2, Bool.and_self]
  · show wPs [.list (xs.map PyData.int), .list (zs.map PyData.int)] + 3 ≤ _
    simp only [wPs]
    omega
  · simp only [twoP, PyData.depth, PyData.depthAll]
    omega
theorem sco_sm (hr : RwS ys w) (b : Bool) : (scoL ys w b).length ≤ 100 ∧ ∀ i ∈ scoL ys w b, i.natAbs ≤ 100 := by
  have n8 := hr.n8
  have w8 := hr.w8
  refine ⟨?_, fun i hi => ?_⟩
  · have := sc8_len (ys := ys) (w := w) (thL w ys.length) b
    rw [thL_len] at this
    show (sc8 ys w (thL w ys.length) b).length ≤ 100
    omega
  · obtain ⟨t, _, rfl⟩ := List.mem_map.mp hi
    have := blw_len ys w t
    omega
theorem lap_two {c : Cs} {J j1 j2 : Nat} {o3 o4 o5 o6 o7 o8 : Option D} {QS : Fl → Cs → Prop} (hr : RwS ys w) (st : St8 ys w J j1 j2 (thL w ys.length) c)
    (q : ∀ o8 c', Pfx c c' → QS (.nx [some (clo ys), some (.lst (ys.map D.str)), some (.ref J), o3, o4, o5, o6, o7, o8, none]) c') :
    OkS ((sSeq (sSet 8 (mMeth [("Cloth", gCloth__score_lists)] "score_lists" (mVar 0) aNil)) (sSeq (sIf (mT (mOp neX (mCB reprX (aCons (mVar 8) (aNil))) (mCB reprX (aCons (mTup (aCons (mOp dgetI (mVar 2) (mC (.str "warp"))) (aCons (mOp dgetI (mVar 2) (mC (.str "weft"))) (aNil)))) (aNil))))) (sRet (mC (.bl false))) (sNil)) (sSeq (sExpr (mBM appendD (mOp itemD (mVar 8) (mC (.int 0))) (aCons (mC (.int 9)) (aNil)))) (sExpr (mBM (mutM clrF) (mOp itemD (mVar 8) (mC (.int 1))) aNil))))) [some (clo ys), some (.lst (ys.map D.str)), some (.ref J), o3, o4, o5, o6, o7, o8, none] c) QS := by
  have hz : sizeLine = 16777216 := sizeLine_eq
  obtain ⟨f1, f2⟩ := sco_sm hr false
  obtain ⟨t1, t2⟩ := sco_sm hr true
  refine os_seq (os_set (ok_clmeth (by decide +kernel) (ok_var rfl ⟨⟨ys, clo_is ys _⟩, ok_anil (score_lists_c hr fun c2 a b p2 la lab ha hb => ?_)⟩)))
  have st2 := st.pfx p2
  obtain ⟨g1, g2, g3⟩ := two_ok f2 t2 f1 t1
  have eJ : toPyC 30 c2 (.tup [.ref j1, .ref j2]) = some (twoP (scoL ys w false) (scoL ys w true)) := two_c st2.d1 st2.d2
  refine os_seq (same_two (d1 := .tup [.ref a, .ref b]) (d2 := .tup [.ref j1, .ref j2]) (Ok.eq (ok_var rfl ⟨rfl, rfl⟩)) (Ok.eq (ok_tup (ok_acons (ok_op (ok_var rfl (ok_c (Ok.of (dget_warp st2.dj) (ok_acons (ok_op (ok_var rfl (ok_c (Ok.of (dget_weft st2.dj) (ok_anil ⟨Nat.le_of_ble_eq_true rfl, rfl, rfl⟩))))))))))))) (two_c ha hb) eJ g1 g2 g3 ?_)
  refine os_seq (os_expr (ok_bm (ok_op (ok_var rfl (ok_c (Ok.of (item_seq (v := .tup [.ref a, .ref b]) (i := 0) rfl rfl) ⟨isL_ref ha, ok_acons (ok_c (ok_anil (ok_append ha (by rw [List.length_map]; omega) ?_)))⟩))))))
  have hb2 : (c2.set a (.lst ((scoL ys w false).map D.int ++ [.int 9])))[b]? = some (.lst ((scoL ys w true).map D.int)) := by rw [List.getElem?_set_ne (by omega)]; exact hb
  refine os_expr (ok_bm (ok_op (ok_var rfl (ok_c (Ok.of (item_seq (v := .tup [.ref a, .ref b]) (i := 1) rfl rfl) ⟨isL_ref hb2, ok_anil (Ok.of (mut_clr hb2) ?_)⟩)))))
  exact q _ _ ((p2.set la _).set (by omega) _)
theorem dict_new (l : Ls) (c : Cs) : mDict (dCons (mC (.str "warp")) (mLstM (aNil)) (dCons (mC (.str "weft")) (mLstM (aNil)) (dNil))) l c = .ok (.ref (c.length + 2)) (c ++ [.lst []] ++ [.lst []] ++ [.dct [(.inr "warp", .ref c.length), (.inr "weft", .ref (c.length + 1))]]) := by
  have hf : (dCons (mC (.str "warp")) (mLstM (aNil)) (dCons (mC (.str "weft")) (mLstM (aNil)) (dNil))) l c = .ok [(.str "warp", .ref c.length), (.str "weft", .ref (c.length + 1))] (c ++ [.lst []] ++ [.lst []]) := by
    have z : (0 : Nat) ≤ sizeLine := Nat.zero_le _
    simp [dCons, dNil, mC, mLstM, aNil, fits, z]
  unfold mDict
  rw [hf]
  have e : mergeKD [] [((.inr "warp" : Key), D.ref c.length), (.inr "weft", .ref (c.length + 1))] = [(.inr "warp", .ref c.length), (.inr "weft", .ref (c.length + 1))] := by
    unfold mergeKD
    simp [putKD]
    exact keys_ne
  simp only [Mi.R.bind_ok, keyed, e]
  simp
theorem lists_right_ok {c : Cs} {Q : D → Cs → Prop} (hr : RwS ys w) (q : ∀ c', Pfx c c' → Q (.bl true) c') : Ok (g_law_lists_right [clo ys, .lst (ys.map D.str)] c) Q := by
  have n8 := hr.n8
  have w8 := hr.w8
  refine Ok.fun rfl ?_
  unfold c_law_lists_right
  refine os_seq (os_set (Ok.of (dict_new _ c) ?_))
  have l1 : (c ++ [Cell.lst []]).length = c.length + 1 := by simp
  have l2 : (c ++ [Cell.lst []] ++ [Cell.lst []]).length = c.length + 2 := by simp
  have st0 : St8 ys w (c.length + 2) c.length (c.length + 1) [] (c ++ [.lst []] ++ [.lst []] ++ [.dct [(.inr "warp", .ref c.length), (.inr "weft", .ref (c.length + 1))]]) :=
    ⟨by rw [← l2]; exact cell_last _, (Pfx.one _ _).get ((Pfx.one _ _).get (cell_last _)), (Pfx.one _ _).get (by rw [← l1]; exact cell_last _), by omega, by omega, by omega⟩
  have p0 : Pfx c (c ++ [Cell.lst []] ++ [Cell.lst []] ++ [Cell.dct [(.inr "warp", .ref c.length), (.inr "weft", .ref (c.length + 1))]]) := ((Pfx.one _ _).trans (Pfx.one _ _)).trans (Pfx.one _ _)
  generalize c ++ [Cell.lst []] ++ [Cell.lst []] ++ [Cell.dct [(.inr "warp", .ref c.length), (.inr "weft", .ref (c.length + 1))]] = c1 at st0 p0 ⊢
  have hit : iLst (mCB g_law_threads (aCons (mVar 1) (aNil))) (([some (clo ys), some (.lst (ys.map D.str))] ++ List.replicate 8 none).set 2 (some (.ref (c.length + 2)))) c1 = .ok ((thL w ys.length).map thD) c1 := by
    have : mCB g_law_threads (aCons (mVar 1) (aNil)) (([some (clo ys), some (.lst (ys.map D.str))] ++ List.replicate 8 none).set 2 (some (.ref (c.length + 2)))) c1 = .ok (.lst ((thL w ys.length).map thD)) c1 := Ok.eq (ok_cb (ok_acons (ok_var rfl (ok_anil (Ok.of (lthr_eq hr) ⟨rfl, rfl⟩)))))
    unfold iLst
    rw [this]
    rfl
  refine os_seq (os_for (Ok.of hit ?_))
  refine forD_T (xs := thL w ys.length) (enc := thD) (fun rest l c' => ∃ pre o3 o4 o5 o6 o7 o8, pre ++ rest = thL w ys.length ∧ l = [some (clo ys), some (.lst (ys.map D.str)), some (.ref (c.length + 2)), o3, o4, o5, o6, o7, o8, none] ∧ Pfx c c' ∧ St8 ys w (c.length + 2) c.length (c.length + 1) pre c') ?_ ?_ _ _ _ ⟨[], none, none, none, none, none, none, rfl, rfl, p0, st0⟩
  · rintro l c2 ⟨pre, o3, o4, o5, o6, o7, o8, e, rfl, p2, st2⟩
    rw [List.append_nil] at e
    subst e
    refine os_seq (os_forR 2 (fun lr l c' => Pfx c2 c' ∧ ∃ o4 o8, l = [some (clo ys), some (.lst (ys.map D.str)), some (.ref (c.length + 2)), o3, o4, o5, o6, o7, o8, none]) (by decide) (ok_acons (ok_c (ok_anil ⟨rfl, rfl⟩))) ⟨Pfx.refl _, _, _, rfl⟩ ?_ ?_)
    · rintro l c' ⟨p', o4', o8', rfl⟩
      exact os_ret (ok_c (q c' (p2.trans p')))
    · rintro x lr l c' ⟨p', o4', o8', rfl⟩
      exact ok_gn (lap_two hr (st2.pfx p') fun o8 c6 p6 => ⟨p'.trans p6, _, _, rfl⟩)
  · rintro t rest l c2 ⟨pre, o3, o4, o5, o6, o7, o8, e, rfl, p2, st2⟩
    have hm : t ∈ thL w ys.length := by rw [← e]; simp
    have hlen : pre.length ≤ 16 := by
      have := congrArg List.length e
      rw [List.length_append, thL_len] at this
      omega
    refine ok_gn (body_one hr (thL_mem.mp hm) st2 p2 (Nat.le_refl _) (by omega) hlen fun o4 o5 o6 o7 o8 c3 p3 st3 => ?_)
    exact ⟨pre ++ [t], _, _, _, _, _, _, by rw [List.append_assoc]; exact e, rfl, p3, st3⟩
end

/-! ### the values -/
theorem bx_pfx {c c' : Cs} {k : Nat} {n : Int} (h : Bx c k n) (p : Pfx c c') : Bx c' k n := by
  obtain ⟨y, rfl⟩ := p
  exact bx_app h y
def N8 (kb : Nat) (v : D) (c : Cs) : Prop := V8 v c ∧ v ≠ .ref kb
theorem odd_8 {c : Cs} {k : Nat} {n : Int} {Q : D → Cs → Prop} (h : Bx c k n) (hn : n ≤ 900000)
    (q : ∀ (d : D) (c' : Cs), N8 k d c' → Bx c' k (n + 1) → Q d c') : Ok (g_law_odd [.ref k] c) Q := by
  have hlt := bx_lt h
  refine Ok.fun rfl ?_
  unfold c_law_odd
  walk_at "ok"
  simp only [List.append_assoc, List.cons_append, List.nil_append, List.length_append, List.length_cons, List.length_nil, Nat.zero_add, Nat.reduceAdd]
  refine take_ok (bx_app h _) (by omega) (by decide) (by decide) fun i c' h0 h1 hb hl hf => ?_
  have hl : c'.length = c.length + 9 := by rw [hl]; simp
  have hf2 : ∀ j, c'[c.length + j]? = _ := fun j => by rw [hf _ (by omega), List.getElem?_append_right (by omega), Nat.add_sub_cancel_left]
  refine ok_item_mem h0 h1 fun d hd => ?_
  have fin := fun (h1 : QV d c') (h2 : okT d = true) (h3 : d ≠ .ref k) => q d c' ⟨⟨h1, h2⟩, h3⟩ hb
  have all : ∀ xs : List D, xs.all FRN = true → ∀ x ∈ xs, FRN x = true := fun xs h => List.all_eq_true.mp h
  simp only [List.mem_append, List.mem_cons, List.not_mem_nil, or_false] at hd
  rcases hd with rfl | rfl | rfl | rfl | rfl | rfl | rfl | rfl | rfl | rfl | rfl | rfl | rfl | rfl | rfl | rfl | rfl | rfl | rfl | rfl | rfl | rfl | rfl | rfl | rfl | rfl | rfl | rfl | rfl | rfl | rfl | rfl | rfl | rfl | rfl | rfl | rfl | rfl | rfl | rfl | rfl | rfl | rfl | rfl | rfl | rfl | rfl | rfl <;> first
    | exact fin (.inl ⟨by decide +kernel, by decide +kernel, rfl⟩) (by decide +kernel) nofun
    | exact fin (.inr (.inl ⟨_, _, rfl, hf2 _, Nat.le_of_ble_eq_true rfl, all _ (by decide +kernel)⟩)) rfl (fun e => by cases e; omega)
    | exact fin (.inr (.inr ⟨_, _, rfl, hf2 _, .inl rfl⟩)) rfl (fun e => by cases e; omega)
    | exact fin (.inr (.inr ⟨_, _, rfl, hf2 _, .inr rfl⟩)) rfl (fun e => by cases e; omega)
    | exact fin (.inr (.inl ⟨_, _, rfl, hf2 0, Nat.le_of_ble_eq_true rfl, all _ (by decide +kernel)⟩)) rfl (fun e => by cases e; omega)
theorem th_ok : ((List.range 9).all fun i => [false, true].all fun b => FRB (thD (b, i)) && nro (thD (b, i)) && okT (thD (b, i))) = true := by decide +kernel
theorem cr_ok : ((List.range 9).all fun i => (List.range 9).all fun j => FRB (crD (i, j)) && nro (crD (i, j)) && okT (crD (i, j))) = true := by decide +kernel
theorem th_n8 {kb : Nat} {t : Th} (h : t.2 ≤ 8) (c : Cs) : N8 kb (thD t) c := by
  obtain ⟨b, i⟩ := t
  have h := List.all_eq_true.mp (List.all_eq_true.mp th_ok i (List.mem_range.mpr (show i < 9 by have : i ≤ 8 := h; omega))) b (by cases b <;> simp)
  simp only [Bool.and_eq_true] at h
  exact ⟨⟨.inl ⟨h.1.1, h.1.2, rfl⟩, h.2⟩, nofun⟩
theorem cr_n8 {kb i j : Nat} (hi : i ≤ 8) (hj : j ≤ 8) (c : Cs) : N8 kb (crD (i, j)) c := by
  have h := List.all_eq_true.mp (List.all_eq_true.mp cr_ok i (List.mem_range.mpr (show i < 9 by omega))) j (List.mem_range.mpr (show j < 9 by omega))
  simp only [Bool.and_eq_true] at h
  exact ⟨⟨.inl ⟨h.1.1, h.1.2, rfl⟩, h.2⟩, nofun⟩
section
variable {ys : List Str} {w : Nat}
theorem lap_8 {c : Cs} {kb : Nat} {n : Int} {o0 o1 o4 o5 o8 o9 oa ob : Option D} {QS : Fl → Cs → Prop} (hr : RwS ys w) (hb : Bx c kb n) (hn : n ≤ 800000)
    (q : ∀ o8 o9 oa ob c', Bx c' kb (n + 10) → QS (.nx [o0, o1, some (.ref kb), some (.lst (ys.map D.str)), o4, o5, some (clo ys), some (.lst ((thL w ys.length).map thD)), o8, o9, oa, ob, none, none]) c') :
    OkS ((sSeq (sSet 8 (mOp addD (mVar 7) (mLst (aCons (mTup (aCons (mC (.str "warp")) (aCons (mCB lenD (aCons (mOp itemD (mVar 3) (mC (.int 0))) (aNil))) (aNil)))) (aCons (mTup (aCons (mC (.str "weft")) (aCons (mCB lenD (aCons (mVar 3) (aNil))) (aNil)))) (aCons (mTup (aCons (mCB g_law_take (aCons (mVar 2) (aCons (mC (.int 9)) (aNil)))) (aCons (mCB g_law_take (aCons (mVar 2) (aCons (mC (.int 9)) (aNil)))) (aNil)))) (aNil))))))) (sSeq (sSet 9 (mLst (aCons (mOp itemD (mVar 8) (mCB g_law_take (aCons (mVar 2) (aCons (mCB lenD (aCons (mVar 8) (aNil))) (aNil))))) (aCons (mOp itemD (mVar 8) (mCB g_law_take (aCons (mVar 2) (aCons (mCB lenD (aCons (mVar 8) (aNil))) (aNil))))) (aCons (mCB g_law_odd (aCons (mVar 2) (aNil))) (aNil)))))) (sSeq (sPar [10, 11] (aCons (mOp itemD (mVar 9) (mCB g_law_take (aCons (mVar 2) (aCons (mC (.int 3)) (aNil))))) (aCons (mOp itemD (mVar 9) (mCB g_law_take (aCons (mVar 2) (aCons (mC (.int 3)) (aNil))))) (aNil)))) (sIf (tOrM (tNotM (mT (mCB g_law_pair_right (aCons (mVar 6) (aCons (mVar 3) (aCons (mVar 10) (aCons (mVar 11) (aNil)))))))) (tNotM (mT (mCB g_law_one_right (aCons (mVar 6) (aCons (mVar 3) (aCons (mVar 10) (aNil)))))))) (sRet (mC (.bl false))) (sNil))))) [o0, o1, some (.ref kb), some (.lst (ys.map D.str)), o4, o5, some (clo ys), some (.lst ((thL w ys.length).map thD)), o8, o9, oa, ob, none, none] c) QS := by
  have hz : sizeLine = 16777216 := sizeLine_eq
  have n1 := hr.n1
  have n8 := hr.n8
  have w1 := hr.w1
  have w8 := hr.w8
  obtain ⟨y0, yr, hy, hyl⟩ := hr.head
  have i0 : ∀ c, itemD (.lst (ys.map D.str)) (.int 0) c = .ok (.str y0) c := fun c => by rw [hy]; simp [itemD, itL, atI, ixN]
  have l0 : ∀ c, lenD [.str y0] c = .ok (.int (w : Nat)) c := fun c => by
    have : Ok (lenD [.str y0] c) fun d c' => d = .int (w : Nat) ∧ c' = c := ok_len_str (by omega) ⟨by rw [hyl], rfl⟩
    exact this.eq
  have lr : ∀ c, lenD [.lst (ys.map D.str)] c = .ok (.int ys.length) c := fun c => by rw [len_seq rfl, List.length_map]
  refine os_seq (os_set (ok_op (ok_var rfl (ok_lst (ok_acons (ok_tup (ok_acons (ok_c (ok_acons (ok_cb (ok_acons (ok_op (ok_var rfl (ok_c (Ok.of (i0 c) (ok_anil (Ok.of (l0 c) (ok_anil ⟨Nat.le_of_ble_eq_true rfl, ?_⟩))))))))))))))))))
  refine ok_acons (ok_tup (ok_acons (ok_c (ok_acons (ok_cb (ok_acons (ok_var rfl (ok_anil (Ok.of (lr c) (ok_anil ⟨Nat.le_of_ble_eq_true rfl, ?_⟩))))))))))
  refine ok_acons (ok_tup (ok_acons (ok_cb (ok_acons (ok_var rfl (ok_acons (ok_c (ok_anil (take_gr hb (by omega) (by decide) (by decide) fun a c1 a0 a1 b1 g1 l1 => ?_)))))))))
  refine ok_acons (ok_cb (ok_acons (ok_var rfl (ok_acons (ok_c (ok_anil (take_gr b1 (by omega) (by decide) (by decide) fun b c2 e0 e1 b2 g2 l2 => ok_anil ⟨Nat.le_of_ble_eq_true rfl, ok_anil ⟨Nat.le_of_ble_eq_true rfl, ?_⟩⟩)))))))
  obtain ⟨a, rfl⟩ : ∃ a' : Nat, a = a' := ⟨a.toNat, by omega⟩
  obtain ⟨b, rfl⟩ : ∃ b' : Nat, b = b' := ⟨b.toNat, by omega⟩
  refine Ok.of (addl (by rw [List.length_map, thL_len]; simp; omega)) ?_
  have hnear : ∀ (c : Cs), ∀ v ∈ (thL w ys.length).map thD ++ [D.tup [.str "warp", .int (w : Nat)], .tup [.str "weft", .int (ys.length : Nat)], .tup [.int (a : Nat), .int (b : Nat)]], N8 kb v c := fun c v hv => by
    rcases List.mem_append.mp hv with h | h
    · obtain ⟨t, ht, rfl⟩ := List.mem_map.mp h
      have := inB_8 hr (thL_mem.mp ht)
      exact th_n8 (by omega) c
    · simp only [List.mem_cons, List.not_mem_nil, or_false] at h
      rcases h with rfl | rfl | rfl
      · exact th_n8 (t := (false, w)) w8 c
      · exact th_n8 (t := (true, ys.length)) n8 c
      · exact cr_n8 (i := a) (j := b) (by omega) (by omega) c
  have hlen : ((thL w ys.length).map thD ++ [D.tup [.str "warp", .int (w : Nat)], .tup [.str "weft", .int (ys.length : Nat)], .tup [.int (a : Nat), .int (b : Nat)]]).length = w + ys.length + 3 := by rw [List.length_append, List.length_map, thL_len]; rfl
  generalize (thL w ys.length).map thD ++ [D.tup [.str "warp", .int (w : Nat)], .tup [.str "weft", .int (ys.length : Nat)], .tup [.int (a : Nat), .int (b : Nat)]] = near at hnear hlen ⊢
  have ln : ∀ c, lenD [.lst near] c = .ok (.int ((w + ys.length + 3 : Nat) : Int)) c := fun c => by rw [len_seq rfl, hlen]
  refine os_seq (os_set (ok_lst (ok_acons (ok_op (ok_var rfl (ok_cb (ok_acons (ok_var rfl (ok_acons (ok_cb (ok_acons (ok_var rfl (ok_anil (Ok.of (ln c2) (ok_anil (take_gr b2 (by omega) (by omega) (by omega) fun k1 c3 x0 x1 b3 g3 l3 => ok_item_mem x0 (by rw [hlen]; omega) fun v1 m1 => ?_))))))))))))))))
  refine ok_acons (ok_op (ok_var rfl (ok_cb (ok_acons (ok_var rfl (ok_acons (ok_cb (ok_acons (ok_var rfl (ok_anil (Ok.of (ln c3) (ok_anil (take_gr b3 (by omega) (by omega) (by omega) fun k2 c4 x0 x1 b4 g4 l4 => ok_item_mem x0 (by rw [hlen]; omega) fun v2 m2 => ?_)))))))))))))
  refine ok_acons (ok_cb (ok_acons (ok_var rfl (ok_anil (odd_8 b4 (by omega) fun v3 c5 m3 b5 => ok_anil ⟨Nat.le_of_ble_eq_true rfl, ?_⟩)))))
  have up : ∀ {v : D} {c c' : Cs}, N8 kb v c → Gr kb c c' → N8 kb v c' := fun {v c c'} h g => ⟨h.1.at fun k e => g.2 k (fun ek => h.2 (by rw [e, ek])) (h.1.1.pv.lt k e), h.2⟩
  have any : ∀ v ∈ [v1, v2, v3], N8 kb v c5 := fun v hv => by
    simp only [List.mem_cons, List.not_mem_nil, or_false] at hv
    rcases hv with rfl | rfl | rfl
    · exact hnear c5 _ m1
    · exact hnear c5 _ m2
    · exact m3
  refine os_seq (os_par (ok_acons (ok_op (ok_var rfl (ok_cb (ok_acons (ok_var rfl (ok_acons (ok_c (ok_anil (take_gr b5 (by omega) (by decide) (by decide) fun k3 c6 x0 x1 b6 g6 l6 => ok_item_mem x0 (by simp; omega) fun p hp => ?_)))))))))))
  refine ok_acons (ok_op (ok_var rfl (ok_cb (ok_acons (ok_var rfl (ok_acons (ok_c (ok_anil (take_gr b6 (by omega) (by decide) (by decide) fun k4 c7 x0 x1 b7 g7 l7 => ok_item_mem x0 (by simp; omega) fun r hr2 => ok_anil ⟨_, _, rfl, ?_⟩)))))))))
  have hp7 := up (up (any p hp) g6) g7
  have hr7 := up (up (any r hr2) g6) g7
  obtain ⟨c8, e8, f8⟩ := one_right_ok (ys := ys) hr hp7.1
  refine os_if (ok_tor (ok_tnot (ok_t (ok_cb (ok_acons (ok_var rfl (ok_acons (ok_var rfl (ok_acons (ok_var rfl (ok_acons (ok_var rfl (ok_anil (Ok.of (pair_right_eq hr hp7.1 hr7.1) ⟨_, rfl, fun h => Bool.noConfusion h, fun _ => ?_⟩))))))))))))))
  refine ok_tnot (ok_t (ok_cb (ok_acons (ok_var rfl (ok_acons (ok_var rfl (ok_acons (ok_var rfl (ok_anil (Ok.of e8 ⟨_, rfl, fun h => Bool.noConfusion h, fun _ => os_nil ?_⟩))))))))))
  refine q _ _ _ _ c8 ?_
  have b7 := bx_mono b7 (show n + 1 + 1 + 1 + 1 + 1 + 1 + 1 ≤ n + 10 by omega)
  rcases f8 with rfl | ⟨j, z, e, rfl⟩
  · exact b7
  · exact bx_set b7 (fun ej => hp7.2 (by rw [e, ej])) _
/-! the crossings, one by one -/
theorem bools_ok : ∀ bs : List Bool, (PyData.list (bs.map PyData.bool)).canLay0 = true ∧ (PyData.list (bs.map PyData.bool)).depth ≤ 64 ∧ PyData.eqv (.list (bs.map PyData.bool)) (.list (bs.map PyData.bool)) = true := fun bs => by
  refine ⟨?_, ?_, ?_⟩
  · simp only [PyData.canLay0]
    induction bs with
    | nil => rfl
    | cons b bs ih =>
      show ((PyData.bool b).canLay0 && PyData.canLayAll0 (bs.map PyData.bool)) = true
      rw [ih]
      rfl
  · have : PyData.depthAll (bs.map PyData.bool) ≤ 1 := by
      induction bs with
      | nil => decide
      | cons b bs ih => simp only [List.map_cons, PyData.depthAll, PyData.depth]; omega
    simp only [PyData.depth]
    omega
  · simp only [PyData.eqv]
    induction bs with
    | nil => rfl
    | cons b bs ih => simp [List.map_cons, PyData.eqvAll, PyData.eqv, ih]
theorem ne_bools (bs : List Bool) (c : Cs) : neX (.lst (bs.map D.bl)) (.lst (bs.map D.bl)) c = .ok (.bl false) c := by
  obtain ⟨h1, h2, h3⟩ := bools_ok bs
  have hs : SeqAt.shaped (.list (bs.map PyData.bool)) = true := by
    unfold SeqAt.shaped
    rw [h1, decide_eq_true h2]
    rfl
  have e : toPyC 30 c (.lst (bs.map D.bl)) = some (.list (bs.map PyData.bool)) := by
    show (mapO (toPyC 29 c) (bs.map D.bl)).map PyData.list = _
    rw [mapO_map (fun b => rfl)]; rfl
  show eqQ true (.lst (bs.map D.bl)) (.lst (bs.map D.bl)) c = _
  unfold eqQ
  rw [e]
  simp only []
  rw [if_pos ⟨hs, hs⟩, h3]
  rfl
theorem col_8 {c : Cs} {i : Nat} {o0 o1 o2 o4 o7 o8 o9 oa ob : Option D} {QS : Fl → Cs → Prop} (hr : RwS ys w) (hi : i < w)
    (q : QS (.nx [o0, o1, o2, some (.lst (ys.map D.str)), o4, some (.int (i : Nat)), some (clo ys), o7, o8, o9, oa, ob, none, none]) c) :
    OkS ((sIf (mT (mOp neX (mLc (iR1 (aCons (mCB lenD (aCons (mVar 3) (aNil))) (aNil))) [12] (gN 12) (tYesM) (mOp (ixI [("Cloth", gCloth____getitem__)] itemD) (mVar 6) (mTup (aCons (mVar 5) (aCons (mVar 12) (aNil)))))) (mLcW (kAny (mVar 3)) [13] (gN 13) (tYesM) (mOp eqX (mOp itemD (mVar 13) (mVar 5)) (mC (.str "1")))))) (sRet (mC (.bl false))) (sNil)) [o0, o1, o2, some (.lst (ys.map D.str)), o4, some (.int (i : Nat)), some (clo ys), o7, o8, o9, oa, ob, none, none] c) QS := by
  have hz : sizeLine = 16777216 := sizeLine_eq
  have n8 := hr.n8
  have w8 := hr.w8
  have lr : ∀ c, lenD [.lst (ys.map D.str)] c = .ok (.int ys.length) c := fun c => by rw [len_seq rfl, List.length_map]
  refine os_if (ok_t (ok_op (ok_lcR ys.length (fun j => D.bl (sgn1 ys i j)) (by omega) (ok_acons (ok_cb (ok_acons (ok_var rfl (ok_anil (Ok.of (lr c) (ok_anil ⟨rfl, rfl⟩))))))) (fun j hj => ok_gn ⟨rfl, ?_⟩) ?_)))
  · refine ok_op (ok_var rfl (ok_tup (ok_acons (ok_var rfl (ok_acons (ok_var rfl (ok_anil ⟨Nat.le_of_ble_eq_true rfl, ?_⟩)))))))
    exact ok_ixI (clo_is ys _) (Ok.of (getitem_eq (i := i) (j := j) hr hi hj) ⟨rfl, rfl⟩)
  refine ok_WY (List.range ys.length) (fun j => D.str (ys.getD j "")) (fun j => D.bl (sgn1 ys i j)) (by simp; omega) (ok_var rfl ⟨rfl, ?_⟩) (fun j hj => ok_gn ⟨rfl, ?_⟩) ?_
  · show some (ys.map D.str) = some ((List.range ys.length).map fun j => D.str (ys.getD j ""))
    congr 1
    refine List.ext_getElem (by simp) fun n h1 h2 => ?_
    simp at h1
    simp [h1]
  · have hj := List.mem_range.mp hj
    obtain ⟨s1, s2⟩ := sign_at hr hi hj c
    exact ok_op (ok_op (ok_var rfl (ok_var rfl (Ok.of s1 (ok_c (Ok.of (ch_one _ c) ⟨rfl, rfl⟩))))))
  have e : (List.range ys.length).map (fun j => D.bl (sgn1 ys i j)) = ((List.range ys.length).map fun j => sgn1 ys i j).map D.bl := by rw [List.map_map]; rfl
  rw [e]
  exact Ok.of (ne_bools _ c) ⟨_, rfl, fun h => Bool.noConfusion h, fun _ => os_nil q⟩
end
theorem rows_gr {c : Cs} {k : Nat} {n : Int} {Q : D → Cs → Prop} (hb : Bx c k n) (hn : n ≤ 800000)
    (q : ∀ (ys : List Str) (w : Nat) (c' : Cs), RwS ys w → Bx c' k (n + 100) → Gr k c c' → Q (.lst (ys.map D.str)) c') : Ok (g_law_rows [.ref k] c) Q :=
  rows_ok hb hn fun rs c' h b l f => by
    obtain ⟨ys, w, rfl, hr⟩ := h.rws
    exact q ys w c' hr b ⟨l, f⟩
theorem law_true (ns : List Int) (hl : ns.length ≤ 63) : ∃ c, glaw [.ro (ns.map D.int)] [] = .ok (.bl true) c := by
  have hz : sizeLine = 16777216 := sizeLine_eq
  have r : Ok (glaw [.ro (ns.map D.int)] []) fun d _ => d = .bl true := by
    refine Ok.fun rfl ?_
    unfold claw
    walk_at "ok"
    refine ⟨⟨by simp only [List.length_map]; split <;> split <;> omega, by simp only [List.length_map]; split <;> split <;> omega⟩, ?_⟩
    refine OkS.for (fun ds l c => (∃ o1 o2 o3 o4 o5 o6 o7 o8 o9 oa ob, l = [some (.ro (ns.map D.int)), o1, o2, o3, o4, o5, o6, o7, o8, o9, oa, ob, none, none]) ∧ ∀ d ∈ ds, ∃ i : Nat, i ≤ 1000 ∧ d = .int i) ?_ ?_ _ _ _ ?_
    · rintro l c ⟨⟨o1, o2, o3, o4, o5, o6, o7, o8, o9, oa, ob, rfl⟩, _⟩
      exact os_ret (ok_c rfl)
    · rintro d ds l c ⟨⟨o1, o2, o3, o4, o5, o6, o7, o8, o9, oa, ob, rfl⟩, hd⟩
      obtain ⟨i, hi, rfl⟩ := hd d List.mem_cons_self
      refine ok_gn ?_
      refine os_seq (os_set (ok_cb (ok_acons (ok_cb (ok_acons (ok_var rfl (ok_acons (ok_var rfl (ok_anil (cell_ok hl hi fun v => ok_anil (box_ok fun c1 b1 l1 f1 => ?_)))))))))))
      generalize c.length = kb at b1 l1 f1 ⊢
      clear l1 f1
      refine os_seq (os_set (ok_cb (ok_acons (ok_var rfl (ok_anil (rows_gr b1 (by omega) fun ys w c2 hr b2 g2 => ?_))))))
      have n8 := hr.n8
      have w8 := hr.w8
      refine os_seq (os_asg (ok_tup (ok_acons (ok_clmake (ok_acons (ok_var rfl (ok_anil ⟨_, ys, w, rfl, hr.seqL c2, hr, ?_⟩)))))))
      have b3 : Bx (c2 ++ [Cell.frz (clo ys)]) kb 200 := bx_app (bx_mono b2 (by omega)) _
      generalize c2 ++ [Cell.frz (clo ys)] = c3 at b3 ⊢
      refine ok_acons (ok_cb (ok_acons (ok_var rfl (ok_anil (Ok.of (lthr_eq hr) (ok_anil ⟨Nat.le_of_ble_eq_true rfl, ⟨_, _, rfl, ?_⟩⟩)))))) 
      refine os_seq (os_if (ok_tnot (ok_t (ok_cb (ok_acons (ok_var rfl (ok_acons (ok_var rfl (ok_anil (lists_right_ok hr fun c4 p4 => ⟨_, rfl, fun h => Bool.noConfusion h, fun _ => os_nil ?_⟩))))))))))
      have b4 := bx_pfx b3 p4
      refine os_seq (os_forR 16 (fun rest l c' => Bx c' kb (200 + 10 * (16 - rest.length : Int)) ∧ ∃ o4 o8 o9 oa ob, l = [some (.ro (ns.map D.int)), some (.int (i : Nat)), some (.ref kb), some (.lst (ys.map D.str)), o4, o5, some (clo ys), some (.lst ((thL w ys.length).map thD)), o8, o9, oa, ob, none, none]) (by decide) (ok_acons (ok_c (ok_anil ⟨rfl, rfl⟩))) ⟨bx_mono b4 (by simp), _, _, _, _, _, rfl⟩ ?_ ?_)
      · rintro l c5 ⟨b5, p4', p8, p9, pa, pb, rfl⟩
        obtain ⟨y0, yr, hy, hyl⟩ := hr.head
        have i0 : ∀ c, itemD (.lst (ys.map D.str)) (.int 0) c = .ok (.str y0) c := fun c => by rw [hy]; simp [itemD, itL, atI, ixN]
        have l0 : ∀ c, lenD [.str y0] c = .ok (.int (w : Nat)) c := fun c => by
          have : Ok (lenD [.str y0] c) fun d c' => d = .int (w : Nat) ∧ c' = c := ok_len_str (by omega) ⟨by rw [hyl], rfl⟩
          exact this.eq
        refine os_forR w (fun rest l c' => (∀ x ∈ rest, x < w) ∧ ∃ o5, l = [some (.ro (ns.map D.int)), some (.int (i : Nat)), some (.ref kb), some (.lst (ys.map D.str)), p4', o5, some (clo ys), some (.lst ((thL w ys.length).map thD)), p8, p9, pa, pb, none, none]) (by omega) (ok_acons (ok_cb (ok_acons (ok_op (ok_var rfl (ok_c (Ok.of (i0 c5) (ok_anil (Ok.of (l0 c5) (ok_anil ⟨rfl, rfl⟩)))))))))) ⟨fun x hx => List.mem_range.mp hx, _, rfl⟩ ?_ ?_
        · rintro l c6 ⟨_, o5', rfl⟩
          exact ⟨⟨_, _, _, _, _, _, _, _, _, _, _, rfl⟩, fun d h => hd d (List.mem_cons_of_mem _ h)⟩
        · rintro x rest l c6 ⟨hx, o5', rfl⟩
          exact ok_gn (col_8 hr (hx x List.mem_cons_self) ⟨fun z hz2 => hx z (List.mem_cons_of_mem _ hz2), _, rfl⟩)
      · rintro x rest l c5 ⟨b5, p4', p8, p9, pa, pb, rfl⟩
        simp only [List.length_cons] at b5
        refine ok_gn (lap_8 hr b5 (by omega) fun q8 q9 qa qb c6 b6 => ?_)
        exact ⟨bx_mono b6 (by omega), _, _, _, _, _, rfl⟩
    · refine ⟨⟨_, _, _, _, _, _, _, _, _, _, _, rfl⟩, fun d h => ?_⟩
      obtain ⟨i, h1, rfl⟩ := rangeL_mem h
      refine ⟨i, ?_, by rw [Int.zero_add]⟩
      simp only [List.length_map] at h1
      revert h1
      split <;> split <;> omega
  obtain ⟨d, c, e, rfl⟩ := r
  exact ⟨c, e⟩

end L2.Lw
open PySem PySem.W PyProof.Rows
local macro_rules | `(tactic| o_head ($f:ident $k $a $e)) => `(tactic| o_head (PySem.W.kmHook $k $a $e L2.Mi.tabsA))
local macro_rules | `(tactic| o_head ($f:ident $k $a $e $t)) => `(tactic| o_head ((PySem.W.kmHook $k $a $e L2.Mi.tabsA : _)))
set_option maxRecDepth 100000 in
set_option maxHeartbeats 0 in
theorem PySem.Challenge.cw_weavegraph_k08_who_lies_over_whom_holds : PySem.Challenge.rw_weavegraph_k08_who_lies_over_whom.Holds := by
  w_on; o_law; k_head; (case hw => w_witness2)
  k_fill
  refine L2.Mi.law_g (l := PySem.Challenge.rw_weavegraph_k08_who_lies_over_whom) (n := 63) (k := 13) (x := "_law_script") (g := fun _ => L2.Lw.glaw) rfl (by decide) rfl ⟨rfl, by decide, by decide⟩ (fun w h Y => PySem.W.km_in_of Y) (fun w h Y => ⟨fun p hp => PySem.W.km_tabs_of Y p.2 (List.mem_map.mpr ⟨p, hp, rfl⟩), List.forall_mem_cons.mpr ⟨by kernel_rfl, List.forall_mem_cons.mpr ⟨by kernel_rfl, List.forall_mem_nil _⟩⟩, List.forall_mem_cons.mpr ⟨PySem.W.codeHd_of_K (PySem.W.km_in_of Y) (by kernel_rfl), List.forall_mem_cons.mpr ⟨PySem.W.codeHd_of_K (PySem.W.km_in_of Y) (by kernel_rfl), List.forall_mem_nil _⟩⟩⟩) ?F (fun _ ns hl => L2.Lw.law_true ns hl)
  case F =>
    intro w mg fa h KX G hmg
    refine' L2.Lw.law_fin KX G hmg ?z_all ?z_bool ?z_int ?z_isinstance ?z_len ?z_list ?z_max ?z_min ?z_range ?z_repr ?z_str ?z_tuple ?a_KINDS ?l_KINDS ?a_SIGNS ?z_super ?z_third ?z_top ?xaInvalidCrossing ?xcInvalidCrossing ?xtInvalidCrossing ?xsInvalidCrossing ?xbInvalidCrossing ?xiInvalidCrossing ?xyInvalidCrossing ?xlInvalidCrossing ?xoInvalidCrossing ?xdInvalidCrossing ?xvInvalidCrossing ?xfInvalidCrossing ?xeInvalidCrossing ?xmInvalidCrossing ?xpInvalidCrossing ?xnInvalidCrossing ?xqInvalidCrossing ?xrInvalidCrossing ?xkInvalidCrossing ?xgInvalidCrossing ?xhInvalidCrossing ?xjInvalidCrossing ?xaInvalidRows ?xcInvalidRows ?xtInvalidRows ?xsInvalidRows ?xbInvalidRows ?xiInvalidRows ?xyInvalidRows ?xlInvalidRows ?xoInvalidRows ?xdInvalidRows ?xvInvalidRows ?xfInvalidRows ?xeInvalidRows ?xmInvalidRows ?xpInvalidRows ?xnInvalidRows ?xqInvalidRows ?xrInvalidRows ?xkInvalidRows ?xgInvalidRows ?xhInvalidRows ?xjInvalidRows ?xaInvalidThread ?xcInvalidThread ?xtInvalidThread ?xsInvalidThread ?xbInvalidThread ?xiInvalidThread ?xyInvalidThread ?xlInvalidThread ?xoInvalidThread ?xdInvalidThread ?xvInvalidThread ?xfInvalidThread ?xeInvalidThread ?xmInvalidThread ?xpInvalidThread ?xnInvalidThread ?xqInvalidThread ?xrInvalidThread ?xkInvalidThread ?xgInvalidThread ?xhInvalidThread ?xjInvalidThread ?hbInvalidCrossing ?hcInvalidCrossing ?htInvalidCrossing ?em_InvalidRows_InvalidCrossing ?em_InvalidThread_InvalidCrossing ?em_InvalidCrossing_InvalidCrossing ?hbInvalidThread ?hcInvalidThread ?htInvalidThread ?em_InvalidRows_InvalidThread ?em_InvalidThread_InvalidThread ?em_InvalidCrossing_InvalidThread ?caCloth ?cpCloth ?cdCloth ?coCloth ?csCloth ?fn_Cloth_kept_rows ?rdCloth ?rgCloth ?cv_Cloth_MOST ?sfCloth____contains__ ?snCloth____contains__ ?sgCloth____contains__ ?ssCloth____contains__ ?lCloth____contains__ ?cCloth____contains__ ?kCloth____contains__ ?sfCloth____getitem__ ?snCloth____getitem__ ?sgCloth____getitem__ ?ssCloth____getitem__ ?lCloth____getitem__ ?cCloth____getitem__ ?kCloth____getitem__ ?kiCloth ?kfCloth ?knCloth ?kkCloth ?lCloth____init__ ?cCloth____init__ ?kCloth____init__ ?mfCloth__above ?mnCloth__above ?lCloth__above ?cCloth__above ?kCloth__above ?mfCloth__below ?mnCloth__below ?lCloth__below ?cCloth__below ?kCloth__below ?mfCloth__crossed ?mnCloth__crossed ?lCloth__crossed ?cCloth__crossed ?kCloth__crossed ?mfCloth__over ?mnCloth__over ?lCloth__over ?cCloth__over ?kCloth__over ?mfCloth__score ?mnCloth__score ?lCloth__score ?cCloth__score ?kCloth__score ?mfCloth__score_lists ?mnCloth__score_lists ?lCloth__score_lists ?cCloth__score_lists ?kCloth__score_lists ?mfCloth__threads ?mnCloth__threads ?lCloth__threads ?cCloth__threads ?kCloth__threads ?pfCloth__warp_count ?pgCloth__warp_count ?ptCloth__warp_count ?prCloth__warp_count ?lCloth__warp_count ?cCloth__warp_count ?kCloth__warp_count ?pfCloth__weft_count ?pgCloth__weft_count ?ptCloth__weft_count ?prCloth__weft_count ?lCloth__weft_count ?cCloth__weft_count ?kCloth__weft_count ?a_law_box ?l_law_box ?c_law_box ?k_law_box ?a_law_cell ?l_law_cell ?c_law_cell ?k_law_cell ?a_law_take ?l_law_take ?c_law_take ?k_law_take ?a_law_rows ?l_law_rows ?c_law_rows ?k_law_rows ?a_law_threads ?l_law_threads ?c_law_threads ?k_law_threads ?ais_sequence ?lis_sequence ?cis_sequence ?kis_sequence ?ais_pattern ?lis_pattern ?cis_pattern ?kis_pattern ?aare_rows ?lare_rows ?care_rows ?kare_rows ?a_law_lies_over ?l_law_lies_over ?c_law_lies_over ?k_law_lies_over ?ais_integer ?lis_integer ?cis_integer ?kis_integer ?ais_thread ?lis_thread ?cis_thread ?kis_thread ?acrossing_of ?lcrossing_of ?ccrossing_of ?kcrossing_of ?ais_crossing ?lis_crossing ?cis_crossing ?kis_crossing ?a_law_lists_right ?l_law_lists_right ?c_law_lists_right ?k_law_lists_right ?a_law_odd ?l_law_odd ?c_law_odd ?k_law_odd ?a_law_is_thread ?l_law_is_thread ?c_law_is_thread ?k_law_is_thread ?a_law_caught ?l_law_caught ?c_law_caught ?k_law_caught ?a_law_pair_right ?l_law_pair_right ?c_law_pair_right ?k_law_pair_right ?e_law_pair_right ?a_law_one_right ?l_law_one_right ?c_law_one_right ?k_law_one_right ?e_law_one_right ?alaw ?llaw ?claw ?klaw
    (case z_all => k_is)
    (case z_bool => k_is)
    (case z_int => k_is)
    (case z_isinstance => k_is)
    (case z_len => k_is)
    (case z_list => k_is)
    (case z_max => k_is)
    (case z_min => k_is)
    (case z_range => k_is)
    (case z_repr => k_is)
    (case z_str => k_is)
    (case z_tuple => k_is)
    (case a_KINDS => k_is)
    (case l_KINDS => k_is)
    (case a_SIGNS => k_is)
    (case z_super => k_is)
    (case z_third => k_is)
    (case z_top => first | rfl | decide +kernel)
    (case xaInvalidCrossing => k_is)
    (case xcInvalidCrossing => first | k_is | rfl)
    (case xtInvalidCrossing => first | rfl | decide +kernel | k_is)
    (case xsInvalidCrossing => first | k_is | rfl | decide +kernel)
    (case xbInvalidCrossing => k_is)
    (case xiInvalidCrossing => k_is)
    (case xyInvalidCrossing => k_is)
    (case xlInvalidCrossing => k_is)
    (case xoInvalidCrossing => k_is)
    (case xdInvalidCrossing => k_is)
    (case xvInvalidCrossing => rfl)
    (case xfInvalidCrossing => first | rfl | decide +kernel)
    (case xeInvalidCrossing => k_is)
    (case xmInvalidCrossing => k_is)
    (case xpInvalidCrossing => k_is)
    (case xnInvalidCrossing => k_is)
    (case xqInvalidCrossing => k_is)
    (case xrInvalidCrossing => k_is)
    (case xkInvalidCrossing => k_is)
    (case xgInvalidCrossing => k_is)
    (case xhInvalidCrossing => k_is)
    (case xjInvalidCrossing => k_is)
    (case xaInvalidRows => k_is)
    (case xcInvalidRows => first | k_is | rfl)
    (case xtInvalidRows => first | rfl | decide +kernel | k_is)
    (case xsInvalidRows => first | k_is | rfl | decide +kernel)
    (case xbInvalidRows => k_is)
    (case xiInvalidRows => k_is)
    (case xyInvalidRows => k_is)
    (case xlInvalidRows => k_is)
    (case xoInvalidRows => k_is)
    (case xdInvalidRows => k_is)
    (case xvInvalidRows => rfl)
    (case xfInvalidRows => first | rfl | decide +kernel)
    (case xeInvalidRows => k_is)
    (case xmInvalidRows => k_is)
    (case xpInvalidRows => k_is)
    (case xnInvalidRows => k_is)
    (case xqInvalidRows => k_is)
    (case xrInvalidRows => k_is)
    (case xkInvalidRows => k_is)
    (case xgInvalidRows => k_is)
    (case xhInvalidRows => k_is)
    (case xjInvalidRows => k_is)
    (case xaInvalidThread => k_is)
    (case xcInvalidThread => first | k_is | rfl)
    (case xtInvalidThread => first | rfl | decide +kernel | k_is)
    (case xsInvalidThread => first | k_is | rfl | decide +kernel)
    (case xbInvalidThread => k_is)
    (case xiInvalidThread => k_is)
    (case xyInvalidThread => k_is)
    (case xlInvalidThread => k_is)
    (case xoInvalidThread => k_is)
    (case xdInvalidThread => k_is)
    (case xvInvalidThread => rfl)
    (case xfInvalidThread => first | rfl | decide +kernel)
    (case xeInvalidThread => k_is)
    (case xmInvalidThread => k_is)
    (case xpInvalidThread => k_is)
    (case xnInvalidThread => k_is)
    (case xqInvalidThread => k_is)
    (case xrInvalidThread => k_is)
    (case xkInvalidThread => k_is)
    (case xgInvalidThread => k_is)
    (case xhInvalidThread => k_is)
    (case xjInvalidThread => k_is)
    (case hbInvalidCrossing => k_is)
    (case hcInvalidCrossing => k_is)
    (case htInvalidCrossing => k_is)
    (case em_InvalidRows_InvalidCrossing => k_is)
    (case em_InvalidThread_InvalidCrossing => k_is)
    (case em_InvalidCrossing_InvalidCrossing => k_is)
    (case hbInvalidThread => k_is)
    (case hcInvalidThread => k_is)
    (case htInvalidThread => k_is)
    (case em_InvalidRows_InvalidThread => k_is)
    (case em_InvalidThread_InvalidThread => k_is)
    (case em_InvalidCrossing_InvalidThread => k_is)
    (case caCloth => k_is)
    (case cpCloth => k_is)
    (case cdCloth => k_is)
    (case coCloth => k_is)
    (case csCloth => k_is)
    (case fn_Cloth_kept_rows => k_is)
    (case rdCloth => k_is)
    (case rgCloth => k_is)
    (case cv_Cloth_MOST => k_is)
    (case sfCloth____contains__ => k_is)
    (case snCloth____contains__ => k_is)
    (case sgCloth____contains__ => k_is)
    (case ssCloth____contains__ => first | k_is | rfl | decide +kernel)
    (case lCloth____contains__ => k_is)
    (case cCloth____contains__ => k_is)
    (case kCloth____contains__ => k_is)
    (case sfCloth____getitem__ => k_is)
    (case snCloth____getitem__ => k_is)
    (case sgCloth____getitem__ => k_is)
    (case ssCloth____getitem__ => first | k_is | rfl | decide +kernel)
    (case lCloth____getitem__ => k_is)
    (case cCloth____getitem__ => k_is)
    (case kCloth____getitem__ => k_is)
    (case kiCloth => k_is)
    (case kfCloth => k_is)
    (case knCloth => k_is)
    (case kkCloth => k_is)
    (case lCloth____init__ => k_is)
    (case cCloth____init__ => k_is)
    (case kCloth____init__ => k_is)
    (case mfCloth__above => k_is)
    (case mnCloth__above => k_is)
    (case lCloth__above => k_is)
    (case cCloth__above => k_is)
    (case kCloth__above => k_is)
    (case mfCloth__below => k_is)
    (case mnCloth__below => k_is)
    (case lCloth__below => k_is)
    (case cCloth__below => k_is)
    (case kCloth__below => k_is)
    (case mfCloth__crossed => k_is)
    (case mnCloth__crossed => k_is)
    (case lCloth__crossed => k_is)
    (case cCloth__crossed => k_is)
    (case kCloth__crossed => k_is)
    (case mfCloth__over => k_is)
    (case mnCloth__over => k_is)
    (case lCloth__over => k_is)
    (case cCloth__over => k_is)
    (case kCloth__over => k_is)
    (case mfCloth__score => k_is)
    (case mnCloth__score => k_is)
    (case lCloth__score => k_is)
    (case cCloth__score => k_is)
    (case kCloth__score => k_is)
    (case mfCloth__score_lists => k_is)
    (case mnCloth__score_lists => k_is)
    (case lCloth__score_lists => k_is)
    (case cCloth__score_lists => k_is)
    (case kCloth__score_lists => k_is)
    (case mfCloth__threads => k_is)
    (case mnCloth__threads => k_is)
    (case lCloth__threads => k_is)
    (case cCloth__threads => k_is)
    (case kCloth__threads => k_is)
    (case pfCloth__warp_count => k_is)
    (case pgCloth__warp_count => k_is)
    (case ptCloth__warp_count => k_is)
    (case prCloth__warp_count => k_is)
    (case lCloth__warp_count => k_is)
    (case cCloth__warp_count => k_is)
    (case kCloth__warp_count => k_is)
    (case pfCloth__weft_count => k_is)
    (case pgCloth__weft_count => k_is)
    (case ptCloth__weft_count => k_is)
    (case prCloth__weft_count => k_is)
    (case lCloth__weft_count => k_is)
    (case cCloth__weft_count => k_is)
    (case kCloth__weft_count => k_is)
    (case a_law_box => k_is)
    (case l_law_box => k_is)
    (case c_law_box => k_is)
    (case k_law_box => k_is)
    (case a_law_cell => k_is)
    (case l_law_cell => k_is)
    (case c_law_cell => k_is)
    (case k_law_cell => k_is)
    (case a_law_take => k_is)
    (case l_law_take => k_is)
    (case c_law_take => k_is)
    (case k_law_take => k_is)
    (case a_law_rows => k_is)
    (case l_law_rows => k_is)
    (case c_law_rows => k_is)
    (case k_law_rows => k_is)
    (case a_law_threads => k_is)
    (case l_law_threads => k_is)
    (case c_law_threads => k_is)
    (case k_law_threads => k_is)
    (case ais_sequence => k_is)
    (case lis_sequence => k_is)
    (case cis_sequence => k_is)
    (case kis_sequence => k_is)
    (case ais_pattern => k_is)
    (case lis_pattern => k_is)
    (case cis_pattern => k_is)
    (case kis_pattern => k_is)
    (case aare_rows => k_is)
    (case lare_rows => k_is)
    (case care_rows => k_is)
    (case kare_rows => k_is)
    (case a_law_lies_over => k_is)
    (case l_law_lies_over => k_is)
    (case c_law_lies_over => k_is)
    (case k_law_lies_over => k_is)
    (case ais_integer => k_is)
    (case lis_integer => k_is)
    (case cis_integer => k_is)
    (case kis_integer => k_is)
    (case ais_thread => k_is)
    (case lis_thread => k_is)
    (case cis_thread => k_is)
    (case kis_thread => k_is)
    (case acrossing_of => k_is)
    (case lcrossing_of => k_is)
    (case ccrossing_of => k_is)
    (case kcrossing_of => k_is)
    (case ais_crossing => k_is)
    (case lis_crossing => k_is)
    (case cis_crossing => k_is)
    (case kis_crossing => k_is)
    (case a_law_lists_right => k_is)
    (case l_law_lists_right => k_is)
    (case c_law_lists_right => k_is)
    (case k_law_lists_right => k_is)
    (case a_law_odd => k_is)
    (case l_law_odd => k_is)
    (case c_law_odd => k_is)
    (case k_law_odd => k_is)
    (case a_law_is_thread => k_is)
    (case l_law_is_thread => k_is)
    (case c_law_is_thread => k_is)
    (case k_law_is_thread => k_is)
    (case a_law_caught => k_is)
    (case l_law_caught => k_is)
    (case c_law_caught => k_is)
    (case k_law_caught => k_is)
    (case a_law_pair_right => k_is)
    (case l_law_pair_right => k_is)
    (case c_law_pair_right => k_is)
    (case k_law_pair_right => k_is)
    (case e_law_pair_right => rfl)
    (case a_law_one_right => k_is)
    (case l_law_one_right => k_is)
    (case c_law_one_right => k_is)
    (case k_law_one_right => k_is)
    (case e_law_one_right => rfl)
    (case alaw => k_is)
    (case llaw => k_is)
    (case claw => k_is)
    (case klaw => k_is)

