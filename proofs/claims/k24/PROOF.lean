import PyProof.Rows.All
import Wide.All
import OpenK.AllK
import Wide.FinOn
import HandS.Lambda
import HandS.ForMost
import HandS.IsInst
import HandS.Exc
import HandS.JoinGen
import HandS.Style
import HandS.Deep
import HandS.RaiseMore
import HandS.ExcInit
import KE.KUnpack
import HandS.Text
import HandS.DictEq
import HandS.Flow
import HandS.Defaults
import HandS.StrMore
import KE.KExcSuper
import HandS.TryMany
import HandS.ExcField
import HandS.Property
import HandS.ClsMeth
import KE.KOpsOwn
import KE.KCallOwn
import HandS.FStr
import HandS.Strs
import HandS.Small
import HandS.SlotsOwn
import HandS.Star
import HandS.TupMul
import HandS.Translate
import HandS.More
import HandS.Iter
import KE.GoesEnum
import KE.GoesMore
import KE.KFmtOwn
import HandS.NoneIn
import PyProof.ListStr
import PyProof.P3In
import HandS.SortInts
import HandS.Dict
import KE.KRevSl
import HandS.DictComp
import HandS.TupAny
import HandS.HotCalls
import HandS.SetBool
import HandS.SetFor
import HandS.Zip
import PyProof.TupleOfSeq
import HandS.Conv
import HandS.DictTup
import HandS.TupLen
import KE.KDictPairs
import KE.KDictDisplayH
import KE.KUnpackStar
import HandS.TupSets
import KE.DataFind
import KE.DataMinMax
import HandS.SortKw
import KE.SortKeyHeap
import PySem.Challenge.RW_weavegraph_k24_violations
set_option Elab.async false
set_option linter.all false
set_option autoImplicit false
set_option maxRecDepth 100000
set_option maxHeartbeats 8000000
/-! the code objects of defs that make generators or functions, and their tables (printed law by law) -/
namespace L2.Mi
def codeL : List (Nat × Nat) := []
def tabsL : List Nat := codeL.map (·.2)
/-- the defs that hold lambdas: code object, its table, the lambdas' qualified name -/
def lamL : List (Nat × Nat × PySem.Str) := []
def allL : List (Nat × Nat) := codeL ++ lamL.map fun p => (p.1, p.2.1)
def tabsA : List Nat := allL.map (·.2)
end L2.Mi

namespace L2.Mi
open PySem PySem.Spec PyProof.Rows L2

/-! A layer of plain values over HandS: data as trees (D), cells for what is changed, computations R. -/

inductive D where
  | non
  | bl (b : Bool)
  | int (i : Int)
  | str (s : Str)
  | lst (xs : List D)
  | tup (xs : List D)
  | ro (xs : List D)
  | dct (kvs : List (Key × D))
  | ref (k : Nat)
  | obj (C : Str) (fs : List (Str × D))
  | adr (a : Addr)
  | ty (n : String)
  | gh (i : Nat) (G : Addr → Hp → List Addr → Prop)

inductive Cell where
  | lst (xs : List D)
  | dct (kvs : List (Key × D))
  | dT (kvs : List (List Key × D))
  | dTz (kvs : List (List Key × D))
  | ins (C : Str) (fs : List (Str × D))
  | frz (d : D)

abbrev Cs := List Cell
abbrev Ls := List (Option D)
structure Ex where
  cls : Str
  fs : List (Str × D)

inductive R (α : Type) where
  | stuck
  | ok (a : α) (c : Cs)
  | exc (x : Ex) (c : Cs)

def R.bind {α β : Type} (r : R α) (f : α → Cs → R β) : R β :=
  match r with
  | .stuck => .stuck
  | .ok a c => f a c
  | .exc x c => .exc x c
@[simp] theorem R.bind_ok {α β : Type} (a : α) (c : Cs) (f : α → Cs → R β) : (R.ok a c).bind f = f a c := rfl
@[simp] theorem R.bind_exc {α β : Type} (x : Ex) (c : Cs) (f : α → Cs → R β) : (R.exc x c : R α).bind f = .exc x c := rfl
@[simp] theorem R.bind_stuck {α β : Type} (f : α → Cs → R β) : (R.stuck : R α).bind f = .stuck := rfl

/-- a class, by its name: of the module, or a built-in one -/
def NamV (K : PySem.W.Frag) (n : Str) (v : Value) : Prop := PySem.W.nsIn K mainGlobals n = some (some v) ∨ (PySem.W.nsIn K mainGlobals n = some none ∧ bootBuiltins n = some v)
theorem NamV.one {K : PySem.W.Frag} {n : Str} {v u : Value} (a : NamV K n v) (b : NamV K n u) : v = u := by
  rcases a with a | ⟨a, a2⟩ <;> rcases b with b | ⟨b, b2⟩ <;> rw [a] at b
  · cases b; rfl
  · cases b
  · cases b
  · rw [a2] at b2; cases b2; rfl
mutual
inductive Rep (K : PySem.W.Frag) (I : Hp) (m : List Addr) : V → D → Prop where
  | non : Rep K I m .non .non
  | bl (b : Bool) : Rep K I m (.bl b) (.bl b)
  | int (i : Int) : Rep K I m (.int i) (.int i)
  | str (s : Str) : Rep K I m (.str s) (.str s)
  | lst {a : Addr} {vs : List V} {ds : List D} (h : I a = some (.lst vs)) (r : Reps K I m vs ds) : Rep K I m (.ref a) (.lst ds)
  | ro {a : Addr} {vs : List V} {ds : List D} (h : SqL K I a vs) (r : Reps K I m vs ds) : Rep K I m (.ref a) (.ro ds)
  | tup {a : Addr} {vs : List V} {ds : List D} (h : SqT K I a vs) (r : Reps K I m vs ds) (x : I a = some (.tup vs) ∨ ∀ s i, ds ≠ [D.str s, D.int i]) : Rep K I m (.ref a) (.tup ds)
  | dct {a : Addr} {vs : List (Key × V)} {ds : List (Key × D)} (h : I a = some (.dK vs)) (r : RepK K I m vs ds) : Rep K I m (.ref a) (.dct ds)
  | ref {k : Nat} {a : Addr} (h : m[k]? = some a) : Rep K I m (.ref a) (.ref k)
  | obj {a C dx : Addr} {n : Str} {vs : List (Str × V)} {ds : List (Str × D)} (hn : NamV K n (.ref C)) (h : I a = some (.ins C dx vs)) (r : RepF K I m vs ds) : Rep K I m (.ref a) (.obj n ds)
  | adr (a : Addr) : Rep K I m (.ref a) (.adr a)
  | ty (n : String) : Rep K I m (.ty n) (.ty n)
  | gh {a : Addr} {i : Nat} {G : Addr → Hp → List Addr → Prop} (gm : ∀ (I I' : Hp) (m m' : List Addr), Same I I' → (∀ (k : Nat) (a : Addr), m[k]? = some a → m'[k]? = some a) → G a I m → G a I' m') (h : G a I m) : Rep K I m (.ref a) (.gh i G)
inductive Reps (K : PySem.W.Frag) (I : Hp) (m : List Addr) : List V → List D → Prop where
  | nil : Reps K I m [] []
  | cons {v : V} {vs : List V} {d : D} {ds : List D} (h : Rep K I m v d) (t : Reps K I m vs ds) : Reps K I m (v :: vs) (d :: ds)
inductive RepK (K : PySem.W.Frag) (I : Hp) (m : List Addr) : List (Key × V) → List (Key × D) → Prop where
  | nil : RepK K I m [] []
  | cons {k : Key} {v : V} {vs : List (Key × V)} {d : D} {ds : List (Key × D)} (h : Rep K I m v d) (t : RepK K I m vs ds) : RepK K I m ((k, v) :: vs) ((k, d) :: ds)
inductive RepF (K : PySem.W.Frag) (I : Hp) (m : List Addr) : List (Str × V) → List (Str × D) → Prop where
  | nil : RepF K I m [] []
  | cons {k : Str} {v : V} {vs : List (Str × V)} {d : D} {ds : List (Str × D)} (h : Rep K I m v d) (t : RepF K I m vs ds) : RepF K I m ((k, v) :: vs) ((k, d) :: ds)
end

theorem sqT_same {K : PySem.W.Frag} {H H' : Hp} {a : Addr} {xs : List V} (e : Same H H') (h : SqT K H a xs) : SqT K H' a xs := by
  rcases h with (h | ⟨o, h⟩) | h
  · exact Or.inl (Or.inl (e _ _ h))
  · exact Or.inl (Or.inr ⟨o, e _ _ h⟩)
  · exact Or.inr h

/-- the cells' addresses grow at the end -/
def Pre (m m' : List Addr) : Prop := ∀ (k : Nat) (a : Addr), m[k]? = some a → m'[k]? = some a
theorem Pre.refl (m : List Addr) : Pre m m := fun _ _ h => h
theorem Pre.trans {m m1 m2 : List Addr} (a : Pre m m1) (b : Pre m1 m2) : Pre m m2 := fun k x h => b k x (a k x h)

section
variable {K : PySem.W.Frag} {I I' : Hp} {m m' : List Addr}
mutual
theorem Rep.mono (s : Same I I') (p : Pre m m') : ∀ {v : V} {d : D}, Rep K I m v d → Rep K I' m' v d
  | _, _, .non => .non
  | _, _, .bl b => .bl b
  | _, _, .int i => .int i
  | _, _, .str x => .str x
  | _, _, .lst h r => .lst (s _ _ h) (Reps.mono s p r)
  | _, _, .ro h r => .ro (s.seq h) (Reps.mono s p r)
  | _, _, .tup h r x => .tup (sqT_same s h) (Reps.mono s p r) (x.imp (fun e => s _ _ e) id)
  | _, _, .dct h r => .dct (s _ _ h) (RepK.mono s p r)
  | _, _, .ref h => .ref (p _ _ h)
  | _, _, .obj hn h r => .obj hn (s _ _ h) (RepF.mono s p r)
  | _, _, .adr a => .adr a
  | _, _, .ty n => .ty n
  | _, _, .gh gm h => .gh gm (gm _ _ _ _ s p h)
theorem Reps.mono (s : Same I I') (p : Pre m m') : ∀ {v : List V} {d : List D}, Reps K I m v d → Reps K I' m' v d
  | _, _, .nil => .nil
  | _, _, .cons h t => .cons (Rep.mono s p h) (Reps.mono s p t)
theorem RepK.mono (s : Same I I') (p : Pre m m') : ∀ {v : List (Key × V)} {d : List (Key × D)}, RepK K I m v d → RepK K I' m' v d
  | _, _, .nil => .nil
  | _, _, .cons h t => .cons (Rep.mono s p h) (RepK.mono s p t)
theorem RepF.mono (s : Same I I') (p : Pre m m') : ∀ {v : List (Str × V)} {d : List (Str × D)}, RepF K I m v d → RepF K I' m' v d
  | _, _, .nil => .nil
  | _, _, .cons h t => .cons (Rep.mono s p h) (RepF.mono s p t)
end
theorem Reps.length : ∀ {vs : List V} {ds : List D}, Reps K I m vs ds → vs.length = ds.length
  | _, _, .nil => rfl
  | _, _, .cons _ t => congrArg (· + 1) (Reps.length t)
theorem Reps.get : ∀ {vs : List V} {ds : List D} {i : Nat} {d : D}, Reps K I m vs ds → ds[i]? = some d → ∃ v, vs[i]? = some v ∧ Rep K I m v d
  | _, _, _, _, .nil, e => by simp at e
  | _, _, 0, _, .cons h _, e => by simp at e; subst e; exact ⟨_, rfl, h⟩
  | _, _, i + 1, d, .cons _ t, e => by
    obtain ⟨v, h1, h2⟩ := Reps.get (i := i) (d := d) t (by simpa using e)
    exact ⟨v, by simpa using h1, h2⟩
theorem Reps.append : ∀ {vs ws : List V} {ds es : List D}, Reps K I m vs ds → Reps K I m ws es → Reps K I m (vs ++ ws) (ds ++ es)
  | _, _, _, _, .nil, s => s
  | _, _, _, _, .cons r t, s => .cons r (Reps.append t s)
theorem Reps.set {v : V} {d : D} (r : Rep K I m v d) : ∀ {vs : List V} {ds : List D} (i : Nat), Reps K I m vs ds → Reps K I m (vs.set i v) (ds.set i d)
  | _, _, _, .nil => .nil
  | _, _, 0, .cons _ t => .cons r t
  | _, _, i + 1, .cons q t => .cons q (Reps.set r i t)
theorem Reps.take : ∀ {vs : List V} {ds : List D} (n : Nat), Reps K I m vs ds → Reps K I m (vs.take n) (ds.take n)
  | _, _, 0, _ => .nil
  | _, _, _ + 1, .nil => .nil
  | _, _, n + 1, .cons r t => .cons r (Reps.take n t)
theorem Reps.drop : ∀ {vs : List V} {ds : List D} (n : Nat), Reps K I m vs ds → Reps K I m (vs.drop n) (ds.drop n)
  | _, _, 0, r => r
  | _, _, _ + 1, .nil => .nil
  | _, _, n + 1, .cons _ t => Reps.drop n t
end

/-- dicts with tuple keys -/
def RepT (K : PySem.W.Frag) (I : Hp) (m : List Addr) (vs : List (List Key × V)) (ds : List (List Key × D)) : Prop := vs.map Prod.fst = ds.map Prod.fst ∧ Reps K I m (vs.map Prod.snd) (ds.map Prod.snd)
theorem RepT.mono {K : PySem.W.Frag} {I I' : Hp} {m m' : List Addr} {vs : List (List Key × V)} {ds : List (List Key × D)} (r : RepT K I m vs ds) (s : Same I I') (p : Pre m m') : RepT K I' m' vs ds := ⟨r.1, Reps.mono s p r.2⟩
/-- what a cell is, at its address -/
def CellAt (K : PySem.W.Frag) (I H : Hp) (m : List Addr) (a : Addr) : Cell → Prop
  | .lst ds => I a = none ∧ ∃ vs, H a = some (.lst vs) ∧ Reps K I m vs ds
  | .dct ds => I a = none ∧ ∃ vs, H a = some (.dK vs) ∧ RepK K I m vs ds
  | .dT ds => I a = none ∧ ∃ vs, H a = some (.dT vs) ∧ RepT K I m vs ds
  | .dTz ds => ∃ o vs, I a = some (.frz o (.dT vs)) ∧ RepT K I m vs ds
  | .ins C ds => I a = none ∧ ∃ dx vs, I dx = none ∧ dx ∉ m ∧ H dx = some (.own a) ∧ (∃ A, NamV K C (.ref A) ∧ H a = some (.ins A dx vs)) ∧ RepF K I m vs ds
  | .frz d => (I a ≠ none) ∧ Rep K I m (.ref a) d

/-- I: what never changes; m: the cells' addresses -/
def Fx (o : HO) : Prop := (∀ ps, o ≠ .tbl ps) ∧ ∀ q, o ≠ .ext q
/-- .. and no tuple: what stays unknown -/
def Fy (o : HO) : Prop := Fx o ∧ ∀ xs, o ≠ .tup xs
def Nt (H : Hp) (p : Addr) : Prop := ∀ o, H p = some o → Fx o
structure Tb (I H : Hp) (m : List Addr) : Prop where
  g : ∀ P ∈ tabsL, GxR.TabG H P ∧ I P = none ∧ P ∉ m
  l : ∀ p ∈ lamL, LamX.TabS H p.2.1 p.2.2 ∧ I p.2.1 = none ∧ p.2.1 ∉ m
theorem Tb.up {I H I' H' : Hp} {m m' : List Addr} (t : Tb I H m) {p : Addr} (hp : Nt H p) (eI : ∀ b, b ≠ p → I' b = I b) (eH : ∀ b, b ≠ p → H' b = H b) (em : ∀ b ∈ m', b ∈ m ∨ b = p) : Tb I' H' m' := by
  refine ⟨fun P hP => ?_, fun q hq => ?_⟩
  · obtain ⟨⟨ps, h1, h2⟩, h3, h4⟩ := t.g P hP
    have ne : P ≠ p := fun e => by subst e; exact (hp _ h1).1 _ rfl
    refine ⟨⟨ps, by rw [eH P ne]; exact h1, h2⟩, by rw [eI P ne]; exact h3, fun z => ?_⟩
    rcases em P z with z | z
    · exact h4 z
    · exact ne z
  · obtain ⟨⟨ps, h1, h2, h5⟩, h3, h4⟩ := t.l q hq
    have ne : q.2.1 ≠ p := fun e => by rw [e] at h1; exact (hp _ h1).1 _ rfl
    refine ⟨⟨ps, by rw [eH _ ne]; exact h1, h2, fun pos cv hc => ?_⟩, by rw [eI _ ne]; exact h3, fun z => ?_⟩
    · obtain ⟨c, e1, e2⟩ := h5 pos cv hc
      have nc : c ≠ p := fun e => by rw [e] at e2; exact (hp _ e2).2 _ rfl
      exact ⟨c, e1, by rw [eH c nc]; exact e2⟩
    · rcases em _ z with z | z
      · exact h4 z
      · exact ne z
theorem nt_none {H : Hp} {p : Addr} (h : H p = none) : Nt H p := fun o e => by rw [h] at e; cases e
theorem nt_some {H : Hp} {p : Addr} {o : HO} (h : H p = some o) (ho : Fx o) : Nt H p := fun o' e => by rw [h] at e; cases e; exact ho
section
variable {I H : Hp} {m : List Addr} {p : Addr}
theorem Tb.upH (t : Tb I H m) (hp : Nt H p) {o : HO} : Tb I (upd H p o) m := t.up hp (fun _ _ => rfl) (fun _ hb => upd_ne hb) (fun _ hb => .inl hb)
theorem Tb.upI (t : Tb I H m) (hp : Nt H p) {o : HO} : Tb (upd I p o) H m := t.up hp (fun _ hb => upd_ne hb) (fun _ _ => rfl) (fun _ hb => .inl hb)
theorem Tb.upHI (t : Tb I H m) (hp : Nt H p) {o o' : HO} : Tb (upd I p o) (upd H p o') m := t.up hp (fun _ hb => upd_ne hb) (fun _ hb => upd_ne hb) (fun _ hb => .inl hb)
theorem Tb.upHm (t : Tb I H m) (hp : Nt H p) {o : HO} : Tb I (upd H p o) (m ++ [p]) := t.up hp (fun _ _ => rfl) (fun _ hb => upd_ne hb) (fun _ hb => (List.mem_append.mp hb).imp_right List.mem_singleton.mp)
theorem Tb.upm (t : Tb I H m) (hp : Nt H p) : Tb I H (m ++ [p]) := t.up hp (fun _ _ => rfl) (fun _ _ => rfl) (fun _ hb => (List.mem_append.mp hb).imp_right List.mem_singleton.mp)
end
structure Rel (K : PySem.W.Frag) (I H : Hp) (m : List Addr) (c : Cs) : Prop where
  same : Same I H
  len : m.length = c.length
  nd : ∀ (i j : Nat) (a : Addr), m[i]? = some a → m[j]? = some a → i = j
  cell : ∀ (k : Nat) (a : Addr) (x : Cell), m[k]? = some a → c[k]? = some x → CellAt K I H m a x
  tabs : Tb I H m

/-- what may happen in between: I and m grow; what is neither known nor a cell stays -/
structure Ext (I : Hp) (m : List Addr) (H I' : Hp) (m' : List Addr) (H' : Hp) : Prop where
  same : Same I I'
  pre : Pre m m'
  fr : ∀ b o, H b = some o → Fy o → I b = none → b ∉ m → H' b = some o ∧ I' b = none ∧ b ∉ m'
theorem Ext.refl (I : Hp) (m : List Addr) (H : Hp) : Ext I m H I m H := ⟨Same.refl I, Pre.refl m, fun _ _ h1 _ h2 h3 => ⟨h1, h2, h3⟩⟩
theorem Ext.trans {I I1 I2 H H1 H2 : Hp} {m m1 m2 : List Addr} (a : Ext I m H I1 m1 H1) (b : Ext I1 m1 H1 I2 m2 H2) : Ext I m H I2 m2 H2 :=
  ⟨a.same.trans b.same, a.pre.trans b.pre, fun x o h1 hT h2 h3 => let ⟨q1, q2, q3⟩ := a.fr x o h1 hT h2 h3; b.fr x o q1 hT q2 q3⟩
theorem Rep.ext {K : PySem.W.Frag} {I I1 H H1 : Hp} {m m1 : List Addr} {v : V} {d : D} (r : Rep K I m v d) (e : Ext I m H I1 m1 H1) : Rep K I1 m1 v d := r.mono e.same e.pre
theorem Reps.ext {K : PySem.W.Frag} {I I1 H H1 : Hp} {m m1 : List Addr} {v : List V} {d : List D} (r : Reps K I m v d) (e : Ext I m H I1 m1 H1) : Reps K I1 m1 v d := r.mono e.same e.pre

/-- the locals -/
structure Locs (K : PySem.W.Frag) (I : Hp) (m : List Addr) (σ : St) (ls : Ls) : Prop where
  len : σ.length = ls.length
  at_ : ∀ (i : Nat) (d : D), ls[i]? = some (some d) → ∃ v, σ[i]? = some (some v) ∧ Rep K I m v d
theorem Locs.ext {K : PySem.W.Frag} {I I1 H H1 : Hp} {m m1 : List Addr} {σ : St} {ls : Ls} (l : Locs K I m σ ls) (e : Ext I m H I1 m1 H1) : Locs K I1 m1 σ ls :=
  ⟨l.len, fun i d h => let ⟨v, h1, h2⟩ := l.at_ i d h; ⟨v, h1, h2.ext e⟩⟩
theorem Locs.set {K : PySem.W.Frag} {I : Hp} {m : List Addr} {σ : St} {ls : Ls} {v : V} {d : D} (i : Nat) (l : Locs K I m σ ls) (r : Rep K I m v d) : Locs K I m (σ.set i (some v)) (ls.set i (some d)) := by
  refine ⟨by simp [l.len], fun j e h => ?_⟩
  by_cases hj : i = j
  · subst hj
    by_cases hl : i < ls.length
    · rw [List.getElem?_set_self hl] at h
      cases h
      exact ⟨v, by rw [List.getElem?_set_self (by rw [l.len]; exact hl)], r⟩
    · rw [List.getElem?_eq_none (by simpa using hl)] at h
      cases h
  · rw [List.getElem?_set_ne hj] at h ⊢
    exact l.at_ j e h

/-- an exception, its class and its own dict -/
def RepX (K : PySem.W.Frag) (I : Hp) (m : List Addr) (H : Hp) (cls : Value) (dd : Option Addr) (x : Ex) : Prop :=
  NamV K x.cls cls ∧ ((dd = none ∧ x.fs = []) ∨ ∃ a vs, dd = some a ∧ I a = some (.xd vs) ∧ RepF K I m vs x.fs)

/-- what is wanted behind a computation -/
def After {α β : Type} (rep : Hp → List Addr → β → α → Prop) (K : PySem.W.Frag) (I : Hp) (m : List Addr) (H : Hp) (W : XK) (Q : β → Hp → Prop) : R α → Prop
  | .stuck => False
  | .ok d c => ∀ I' m' H' v, Ext I m H I' m' H' → Rel K I' H' m' c → rep I' m' v d → Q v H'
  | .exc x c => ∀ I' m' H' cls dd, Ext I m H I' m' H' → Rel K I' H' m' c → RepX K I' m' H' cls dd x → W cls dd H'
section
variable {α β γ δ : Type} {rep : Hp → List Addr → β → α → Prop} {rep' : Hp → List Addr → δ → γ → Prop} {K : PySem.W.Frag} {I I1 H H1 : Hp} {m m1 : List Addr} {W : XK} {Q Q' : β → Hp → Prop} {Q2 : δ → Hp → Prop} {r : R α} {c : Cs}
theorem After.ext (e : Ext I m H I1 m1 H1) (a : After rep K I m H W Q r) : After rep K I1 m1 H1 W Q r := by
  cases r with
  | stuck => exact a
  | ok d c => exact fun I' m' H' v e' => a I' m' H' v (e.trans e')
  | exc x c => exact fun I' m' H' cls dd e' => a I' m' H' cls dd (e.trans e')
theorem After.mono (a : After rep K I m H W Q r) (h : ∀ v H', Q v H' → Q' v H') : After rep K I m H W Q' r := by
  cases r with
  | stuck => exact a
  | ok d c => exact fun I' m' H' v e' r' p => h _ _ (a I' m' H' v e' r' p)
  | exc x c => exact a
/-- what stands behind the first of two computations -/
def Mid (rep : Hp → List Addr → β → α → Prop) (rep' : Hp → List Addr → δ → γ → Prop) (K : PySem.W.Frag) (I : Hp) (m : List Addr) (H : Hp) (W : XK) (Q2 : δ → Hp → Prop) (f : α → Cs → R γ) (v : β) (H1 : Hp) : Prop :=
  ∃ I1 m1 c1 a, Ext I m H I1 m1 H1 ∧ Rel K I1 H1 m1 c1 ∧ rep I1 m1 v a ∧ After rep' K I1 m1 H1 W Q2 (f a c1)
theorem After.bind {f : α → Cs → R γ} (a : After rep' K I m H W Q2 (r.bind f)) : After rep K I m H W (Mid rep rep' K I m H W Q2 f) r := by
  cases r with
  | stuck => exact a
  | ok d c => exact fun I' m' H' v e' r' p => ⟨I', m', c, d, e', r', p, After.ext e' a⟩
  | exc x c => exact a
/-- nothing happens any more -/
theorem After.here {d : α} {v : β} (a : After rep K I m H W Q (.ok d c)) (r : Rel K I H m c) (p : rep I m v d) : Q v H := a I m H v (Ext.refl I m H) r p
end

def rD (K : PySem.W.Frag) : Hp → List Addr → V → D → Prop := fun I m v d => Rep K I m v d
def rA (K : PySem.W.Frag) : Hp → List Addr → List V → List D → Prop := fun I m v d => Reps K I m v d
def rB : Hp → List Addr → Bool → Bool → Prop := fun _ _ v d => v = d

abbrev ME := Ls → Cs → R D
abbrev MA := Ls → Cs → R (List D)
abbrev MT := Ls → Cs → R Bool
/-- the reading of a computation -/
def rd {α β : Type} (rep : Hp → List Addr → β → α → Prop) (K : PySem.W.Frag) (W : WX) (f : Ls → Cs → R α) : St → Hp → (β → Hp → Prop) → Prop := fun σ H Q =>
  ∃ I m ls c, Rel K I H m c ∧ Locs K I m σ ls ∧ After rep K I m H (fun cls dd H' => W cls dd σ H') Q (f ls c)
abbrev rdE (K : PySem.W.Frag) (W : WX) (f : ME) : TE := rd (rD K) K W f
abbrev rdA (K : PySem.W.Frag) (W : WX) (f : MA) : TA := rd (rA K) K W f
abbrev rdT (K : PySem.W.Frag) (W : WX) (f : MT) : TT := rd rB K W f

/-- a new object that never changes -/
theorem alloc {K : PySem.W.Frag} {I H : Hp} {m : List Addr} {c : Cs} {p : Addr} {o : HO} (r : Rel K I H m c) (np : H p = none) : Rel K (upd I p o) (upd H p o) m c ∧ Ext I m H (upd I p o) m (upd H p o) := by
  have nI : I p = none := r.same.free np
  have sI : Same I (upd I p o) := fun b u e => by rw [upd_ne (ne_of_none e nI)]; exact e
  have sH : Same H (upd H p o) := fun b u e => by rw [upd_ne (ne_of_none e np)]; exact e
  refine ⟨⟨fun b u e => ?_, r.len, r.nd, fun k a x h1 h2 => ?_, r.tabs.upHI (nt_none np)⟩, sI, Pre.refl m, fun b u h1 hT h2 h3 => ⟨sH b u h1, ?_, h3⟩⟩
  · by_cases hb : b = p
    · subst hb
      rw [upd_same] at e ⊢
      exact e
    · rw [upd_ne hb] at e ⊢
      exact r.same b u e
  · have q := r.cell k a x h1 h2
    cases x with
    | lst ds =>
      obtain ⟨q1, vs, q2, q3⟩ := q
      exact ⟨by rw [upd_ne (ne_of_none q2 np)]; exact q1, vs, sH _ _ q2, q3.mono sI (Pre.refl m)⟩
    | dct ds =>
      obtain ⟨q1, vs, q2, q3⟩ := q
      exact ⟨by rw [upd_ne (ne_of_none q2 np)]; exact q1, vs, sH _ _ q2, q3.mono sI (Pre.refl m)⟩
    | dT ds =>
      obtain ⟨q1, vs, q2, q3⟩ := q
      exact ⟨by rw [upd_ne (ne_of_none q2 np)]; exact q1, vs, sH _ _ q2, q3.mono sI (Pre.refl m)⟩
    | dTz es => exact q.imp (fun _ y => y.imp fun _ y => ⟨sI _ _ y.1, y.2.mono sI (Pre.refl m)⟩)
    | ins C ds =>
      obtain ⟨q1, dx, vs, q2, q3, q4, q5, q6⟩ := q
      exact ⟨by rw [upd_ne (q5.elim fun _ z => ne_of_none z.2 np)]; exact q1, dx, vs, by rw [upd_ne (ne_of_none q4 np)]; exact q2, q3, sH _ _ q4, q5.imp fun _ z => ⟨z.1, sH _ _ z.2⟩, q6.mono sI (Pre.refl m)⟩
    | frz d =>
      obtain ⟨q1, q2⟩ := q
      refine ⟨fun z => q1 ?_, q2.mono sI (Pre.refl m)⟩
      by_cases hb : a = p
      · subst hb; exact nI
      · rw [upd_ne hb] at z; exact z
  · rw [upd_ne (ne_of_none h1 np)]
    exact h2
end L2.Mi

namespace L2.Mi
open PySem PySem.Spec PyProof.Rows L2

/-! ### weaker readings -/
theorem PEi {X : Cx} {e : Expr} {t t' : TE} (h : PE X e t) (w : ∀ σ H Q, t' σ H Q → t σ H Q) : PE X e t' := ⟨fun pins s σ H Q I q => h.run pins s σ H Q I (w σ H Q q)⟩
theorem PTi {X : Cx} {e : Expr} {t t' : TT} (h : PT X e t) (w : ∀ σ H Q, t' σ H Q → t σ H Q) : PT X e t' := ⟨fun pins s σ H Q I q => h.run pins s σ H Q I (w σ H Q q)⟩
theorem PWi {X : Cx} {e : Expr} {t t' : TT} (h : PW X e t) (w : ∀ σ H Q, t' σ H Q → t σ H Q) : PW X e t' := ⟨fun wh pins s σ H Q I q => h.run wh pins s σ H Q I (w σ H Q q)⟩
theorem PAi {X : Cx} {e : List Expr} {t t' : TA} (h : PA X e t) (w : ∀ σ H Q, t' σ H Q → t σ H Q) : PA X e t' := ⟨fun p pins s σ H Q I q => h.run p pins s σ H Q I (w σ H Q q)⟩

section
variable {X : Cx} {W : WX} {a b c e : Expr} {es rest : List Expr} {pos : Pos} {fa fb fc : ME} {f g : D → D → Cs → R D}

/-! ### names, constants -/
def mVar (i : Nat) : ME := fun l c => match l[i]? with
  | some (some d) => .ok d c
  | _ => .stuck
theorem me_var {i : Nat} (h : PE X e (tVar i)) : PE X e (rdE X.K W (mVar i)) := PEi h fun σ H Q ⟨I, m, l, c, r, L, A⟩ => by
  unfold mVar at A
  cases q : l[i]? with
  | none => rw [q] at A; exact A.elim
  | some o =>
    cases o with
    | none => rw [q] at A; exact A.elim
    | some d =>
      rw [q] at A
      obtain ⟨v, h1, h2⟩ := L.at_ i d q
      exact ⟨v, h1, A.here r h2⟩
def mC (d : D) : ME := fun _ c => .ok d c
theorem me_c {v : V} {d : D} (h : PE X e (tC v)) (p : ∀ I m, Rep X.K I m v d) : PE X e (rdE X.K W (mC d)) := PEi h fun σ H Q ⟨I, m, l, c, r, L, A⟩ => A.here r (p I m)
theorem me_int {i : Int} {j : Nat} : PE X (.Constant (.int i) j pos) (rdE X.K W (mC (.int i))) := me_c pe_int fun _ _ => .int i
theorem me_bl {i : Bool} {j : Nat} : PE X (.Constant (.bool i) j pos) (rdE X.K W (mC (.bl i))) := me_c pe_bl fun _ _ => .bl i
theorem me_non {j : Nat} : PE X (.Constant .none j pos) (rdE X.K W (mC .non)) := me_c pe_non fun _ _ => .non
theorem me_str {i : Str} {j : Nat} : PE X (.Constant (.str i) j pos) (rdE X.K W (mC (.str i))) := me_c pe_str fun _ _ => .str i

/-! ### operators -/
def OpS (K : PySem.W.Frag) (r : R2) (g : D → D → Cs → R D) : Prop := ∀ (I H : Hp) (m : List Addr) (c : Cs) (v1 v2 : V) (d1 d2 : D) (W : XK) (Q : VK),
  Rel K I H m c → Rep K I m v1 d1 → Rep K I m v2 d2 → After (rD K) K I m H W Q (g d1 d2 c) → r v1 v2 H Q
def mOp (g : D → D → Cs → R D) (a b : ME) : ME := fun l c => (a l c).bind fun x c1 => (b l c1).bind fun y c2 => g x y c2
theorem op_read {K : PySem.W.Frag} {r : R2} {σ : St} {H : Hp} {Q : VK} (hs : OpS K r g) (h : rdE K W (mOp g fa fb) σ H Q) : tOp r (rdE K W fa) (rdE K W fb) σ H Q := by
  obtain ⟨I, m, l, c, R, L, A⟩ := h
  refine ⟨I, m, l, c, R, L, After.mono (After.bind (rep := rD K) A) fun v1 H1 ⟨I1, m1, c1, d1, E1, R1, p1, A1⟩ => ?_⟩
  refine ⟨I1, m1, l, c1, R1, L.ext E1, After.mono (After.bind (rep := rD K) A1) fun v2 H2 ⟨I2, m2, c2, d2, E2, R2, p2, A2⟩ => ?_⟩
  exact hs _ _ _ _ _ _ _ _ _ _ R2 (Rep.ext p1 E2) p2 A2
theorem me_op {op : Operator} {r : R2} (ho : OpR X (binaryOp op) r) (hs : OpS X.K r g) (ha : PE X a (rdE X.K W fa)) (hb : PE X b (rdE X.K W fb)) : PE X (.BinOp a op b pos) (rdE X.K W (mOp g fa fb)) :=
  PEi (pe_op ho ha hb) fun _ _ _ h => op_read hs h
theorem me_cmp {op : CmpOp} {r : R2} (ho : OpR X (compareOp op) r) (hs : OpS X.K r g) (ha : PE X a (rdE X.K W fa)) (hb : PE X b (rdE X.K W fb)) (hm : behindInMarks op b = false) : PE X (.Compare a [op] [b] pos) (rdE X.K W (mOp g fa fb)) :=
  PEi (pe_cmpR ho ha hb hm) fun _ _ _ h => op_read hs h
theorem me_ix {r : R2} (ho : IxR X r) (hs : OpS X.K r g) (ha : PE X a (rdE X.K W fa)) (hb : PE X b (rdE X.K W fb)) (hp : PlainIx b) : PE X (.Subscript a b pos) (rdE X.K W (mOp g fa fb)) :=
  PEi (pe_ix ho ha hb hp) fun _ _ _ h => op_read hs h
def mUn (g : D → Cs → R D) (a : ME) : ME := fun l c => (a l c).bind fun x c1 => g x c1
/-- a op1 b op2 c -/
def mChain (g g' : D → D → Cs → R D) (a b d : ME) : ME := fun l c => (a l c).bind fun x c1 => (b l c1).bind fun y c2 => (g x y c2).bind fun z c3 => match z with
  | .bl true => (d l c3).bind fun w c4 => g' y w c4
  | .bl false => .ok (.bl false) c3
  | _ => .stuck
theorem me_chain {op op' : CmpOp} {r r' : R2} (ho : OpR X (compareOp op) r) (hs : OpS X.K r f) (ho' : OpR X (compareOp op') r') (hs' : OpS X.K r' g) (ha : PE X a (rdE X.K W fa)) (hb : PE X b (rdE X.K W fb)) (hc : PE X c (rdE X.K W fc))
    (hm : lastMarks [op, op'] [b, c] = false := by with_unfolding_all rfl) : PE X (.Compare a [op, op'] [b, c] pos) (rdE X.K W (mChain f g fa fb fc)) := PEi (pe_chain ho ho' ha hb hc hm) fun σ H Q ⟨I, m, l, c, R, L, A⟩ => by
  refine ⟨I, m, l, c, R, L, After.mono (After.bind (rep := rD X.K) A) fun v1 H1 ⟨I1, m1, c1, d1, E1, R1, p1, A1⟩ => ?_⟩
  refine ⟨I1, m1, l, c1, R1, L.ext E1, After.mono (After.bind (rep := rD X.K) A1) fun v2 H2 ⟨I2, m2, c2, d2, E2, R2, p2, A2⟩ => ?_⟩
  refine hs _ _ _ _ _ _ _ _ _ _ R2 (Rep.ext p1 E2) p2 (After.mono (After.bind (rep := rD X.K) A2) fun v3 H3 ⟨I3, m3, c3, d3, E3, R3, p3, A3⟩ => ?_)
  cases p3 with
  | bl k =>
    refine ⟨k, rfl, ?_⟩
    cases k with
    | false =>
      rw [if_neg Bool.false_ne_true]
      exact A3.here R3 (Rep.bl false)
    | true =>
      rw [if_pos rfl]
      refine ⟨I3, m3, l, c3, R3, ((L.ext E1).ext E2).ext E3, After.mono (After.bind (rep := rD X.K) A3) fun v4 H4 ⟨I4, m4, c4, d4, E4, R4, p4, A4⟩ => ?_⟩
      exact hs' _ _ _ _ _ _ _ _ _ _ R4 (Rep.ext (Rep.ext p2 E3) E4) p4 A4
  | _ => exact A3.elim

/-! ### tests -/
def mT (a : ME) : MT := fun l c => (a l c).bind fun x c1 => match x with
  | .bl k => .ok k c1
  | _ => .stuck
theorem mt_val (ha : PE X e (rdE X.K W fa)) (he : ∀ whole, isTrue e X.env whole = (do let v ← whole; standAt e.pos; holding [v] (truthy v)) := by intro _; rfl) : PT X e (rdT X.K W (mT fa)) :=
  PTi (pt_val ha he) fun σ H Q ⟨I, m, l, c, R, L, A⟩ => ⟨I, m, l, c, R, L, After.mono (After.bind (rep := rD X.K) A) fun v1 H1 ⟨I1, m1, c1, d1, E1, R1, p1, A1⟩ => by
    cases p1 with
    | bl k => exact ⟨k, rfl, A1.here R1 rfl⟩
    | _ => exact A1.elim⟩
/-- a comparison as a test -/
theorem mt_cmp {op : CmpOp} {r : R2} (ho : OpR X (compareOp op) r) (hs : OpS X.K r g) (ha : PE X a (rdE X.K W fa)) (hb : PE X b (rdE X.K W fb)) (hm : behindInMarks op b = false) : PT X (.Compare a [op] [b] pos) (rdT X.K W (mT (mOp g fa fb))) :=
  PTi (pt_cmpR ho ha hb hm) fun σ H Q ⟨I, m, l, c, R, L, A⟩ => op_read hs ⟨I, m, l, c, R, L, After.mono (After.bind (rep := rD X.K) A) fun v1 H1 ⟨I1, m1, c1, d1, E1, R1, p1, A1⟩ => by
    cases p1 with
    | bl k => exact ⟨k, rfl, A1.here R1 rfl⟩
    | _ => exact A1.elim⟩
def tAndM (a b : MT) : MT := fun l c => (a l c).bind fun k c1 => match k with
  | true => b l c1
  | false => .ok false c1
def tOrM (a b : MT) : MT := fun l c => (a l c).bind fun k c1 => match k with
  | true => .ok true c1
  | false => b l c1
def tNotM (a : MT) : MT := fun l c => (a l c).bind fun k c1 => .ok (!k) c1
variable {ta tb : MT}
theorem mw_and1 (ha : PT X a (rdT X.K W ta)) : PW X (.BoolOp .And [a] pos) (rdT X.K W ta) := pw_and1 ha
theorem mw_or1 (ha : PT X a (rdT X.K W ta)) : PW X (.BoolOp .Or [a] pos) (rdT X.K W ta) := pw_or1 ha
theorem mw_and (ha : PT X a (rdT X.K W ta)) (hb : PW X (.BoolOp .And (b :: rest) pos) (rdT X.K W tb)) : PW X (.BoolOp .And (a :: b :: rest) pos) (rdT X.K W (tAndM ta tb)) :=
  PWi (pw_and ha hb) fun σ H Q ⟨I, m, l, c, R, L, A⟩ => ⟨I, m, l, c, R, L, After.mono (After.bind (rep := rB) A) fun v1 H1 ⟨I1, m1, c1, d1, E1, R1, p1, A1⟩ => by
    cases (show v1 = d1 from p1)
    cases v1 with
    | true => exact iteT <| ⟨I1, m1, l, c1, R1, L.ext E1, A1⟩
    | false => exact iteF <| A1.here R1 rfl⟩
theorem mw_or (ha : PT X a (rdT X.K W ta)) (hb : PW X (.BoolOp .Or (b :: rest) pos) (rdT X.K W tb)) : PW X (.BoolOp .Or (a :: b :: rest) pos) (rdT X.K W (tOrM ta tb)) :=
  PWi (pw_or ha hb) fun σ H Q ⟨I, m, l, c, R, L, A⟩ => ⟨I, m, l, c, R, L, After.mono (After.bind (rep := rB) A) fun v1 H1 ⟨I1, m1, c1, d1, E1, R1, p1, A1⟩ => by
    cases (show v1 = d1 from p1)
    cases v1 with
    | true => exact iteT <| A1.here R1 rfl
    | false => exact iteF <| ⟨I1, m1, l, c1, R1, L.ext E1, A1⟩⟩
theorem mt_not (ha : PT X a (rdT X.K W ta)) : PT X (.UnaryOp .Not a pos) (rdT X.K W (tNotM ta)) :=
  PTi (pt_not ha) fun σ H Q ⟨I, m, l, c, R, L, A⟩ => ⟨I, m, l, c, R, L, After.mono (After.bind (rep := rB) A) fun v1 H1 ⟨I1, m1, c1, d1, E1, R1, p1, A1⟩ => by
    cases (show v1 = d1 from p1)
    exact A1.here R1 rfl⟩
/-- and, or, not as values -/
def mAnd (a b : ME) : ME := fun l c => (a l c).bind fun x c1 => match x with
  | .bl true => b l c1
  | .bl false => .ok (.bl false) c1
  | _ => .stuck
def mOr (a b : ME) : ME := fun l c => (a l c).bind fun x c1 => match x with
  | .bl true => .ok (.bl true) c1
  | .bl false => b l c1
  | _ => .stuck
def mNot (a : ME) : ME := fun l c => (a l c).bind fun x c1 => match x with
  | .bl k => .ok (.bl (!k)) c1
  | _ => .stuck
theorem me_one {op : BoolOp} (ha : PE X a (rdE X.K W fa)) : PE X (.BoolOp op [a] pos) (rdE X.K W fa) := pe_one ha
theorem me_and (ha : PE X a (rdE X.K W fa)) (hb : PE X (.BoolOp .And (b :: rest) pos) (rdE X.K W fb)) : PE X (.BoolOp .And (a :: b :: rest) pos) (rdE X.K W (mAnd fa fb)) :=
  PEi (pe_and ha hb) fun σ H Q ⟨I, m, l, c, R, L, A⟩ => ⟨I, m, l, c, R, L, After.mono (After.bind (rep := rD X.K) A) fun v1 H1 ⟨I1, m1, c1, d1, E1, R1, p1, A1⟩ => by
    cases p1 with
    | bl k =>
      refine ⟨k, rfl, ?_⟩
      cases k with
      | true => exact iteT <| ⟨I1, m1, l, c1, R1, L.ext E1, A1⟩
      | false => exact iteF <| A1.here R1 (Rep.bl false)
    | _ => exact A1.elim⟩
theorem me_not (ha : PE X a (rdE X.K W fa)) : PE X (.UnaryOp .Not a pos) (rdE X.K W (mNot fa)) :=
  PEi (pe_not ha) fun σ H Q ⟨I, m, l, c, R, L, A⟩ => ⟨I, m, l, c, R, L, After.mono (After.bind (rep := rD X.K) A) fun v1 H1 ⟨I1, m1, c1, d1, E1, R1, p1, A1⟩ => by
    cases p1 with
    | bl k => exact ⟨k, rfl, A1.here R1 (Rep.bl _)⟩
    | _ => exact A1.elim⟩
def mIf (t : MT) (a b : ME) : ME := fun l c => (t l c).bind fun k c1 => match k with
  | true => a l c1
  | false => b l c1
theorem me_if (ht : PT X c (rdT X.K W ta)) (ha : PE X a (rdE X.K W fa)) (hb : PE X b (rdE X.K W fb)) : PE X (.IfExp c a b pos) (rdE X.K W (mIf ta fa fb)) :=
  PEi (pe_ifExp ht ha hb) fun σ H Q ⟨I, m, l, c, R, L, A⟩ => ⟨I, m, l, c, R, L, After.mono (After.bind (rep := rB) A) fun v1 H1 ⟨I1, m1, c1, d1, E1, R1, p1, A1⟩ => by
    cases (show v1 = d1 from p1)
    cases v1 with
    | true => exact iteT <| ⟨I1, m1, l, c1, R1, L.ext E1, A1⟩
    | false => exact iteF <| ⟨I1, m1, l, c1, R1, L.ext E1, A1⟩⟩

/-! ### arguments, displays -/
def aNil : MA := fun _ c => .ok [] c
def aCons (a : ME) (t : MA) : MA := fun l c => (a l c).bind fun x c1 => (t l c1).bind fun xs c2 => .ok (x :: xs) c2
variable {ga : MA}
theorem ma_nil : PA X [] (rdA X.K W aNil) := PAi pa_nil fun σ H Q ⟨I, m, l, c, R, L, A⟩ => A.here R .nil
theorem ma_cons (ha : PE X e (rdE X.K W fa)) (ht : PA X es (rdA X.K W ga)) (hs : starEach (e :: es) X.env = (false, eval e X.env) :: starEach es X.env := by rfl) : PA X (e :: es) (rdA X.K W (aCons fa ga)) :=
  PAi (pa_cons ha ht hs) fun σ H Q ⟨I, m, l, c, R, L, A⟩ => ⟨I, m, l, c, R, L, After.mono (After.bind (rep := rD X.K) A) fun v1 H1 ⟨I1, m1, c1, d1, E1, R1, p1, A1⟩ =>
    ⟨I1, m1, l, c1, R1, L.ext E1, After.mono (After.bind (rep := rA X.K) A1) fun v2 H2 ⟨I2, m2, c2, d2, E2, R2, p2, A2⟩ => A2.here R2 (Reps.cons (Rep.ext p1 E2) p2)⟩⟩
/-- a size that fits -/
def fits {α : Type} (n : Nat) (r : R α) : R α := if n ≤ sizeLine then r else .stuck
theorem After.fits {α β : Type} {rep : Hp → List Addr → β → α → Prop} {K : PySem.W.Frag} {I H : Hp} {m : List Addr} {W : XK} {Q : β → Hp → Prop} {n : Nat} {r : R α} (h : After rep K I m H W Q (fits n r)) : n ≤ sizeLine ∧ After rep K I m H W Q r := by
  unfold Mi.fits at h
  split at h
  · exact ⟨by assumption, h⟩
  · exact h.elim
theorem After.new {K : PySem.W.Frag} {I H : Hp} {m : List Addr} {W : XK} {Q : VK} {c : Cs} {p : Addr} {o : HO} {d : D} (A : After (rD K) K I m H W Q (.ok d c)) (r : Rel K I H m c) (np : H p = none) (q : Rep K (upd I p o) m (.ref p) d) : Q (.ref p) (upd H p o) :=
  let ⟨r1, e1⟩ := alloc (o := o) r np
  A _ _ _ _ e1 r1 q
def mLst (t : MA) : ME := fun l c => (t l c).bind fun xs c1 => fits xs.length (.ok (.lst xs) c1)
def mTup (t : MA) : ME := fun l c => (t l c).bind fun xs c1 => fits xs.length (.ok (.tup xs) c1)
theorem same_upd {I H : Hp} {p : Addr} {o : HO} (s : Same I H) (np : H p = none) : Same I (upd I p o) := fun b u e => by rw [upd_ne (ne_of_none e (s.free np))]; exact e
theorem me_lst (h : PA X es (rdA X.K W ga)) : PE X (.List es pos) (rdE X.K W (mLst ga)) :=
  PEi (pe_lst h) fun σ H Q ⟨I, m, l, c, R, L, A⟩ => ⟨I, m, l, c, R, L, After.mono (After.bind (rep := rA X.K) A) fun v1 H1 ⟨I1, m1, c1, d1, E1, R1, p1, A1⟩ => by
    obtain ⟨z, A2⟩ := A1.fits
    have p1 : Reps X.K I1 m1 v1 d1 := p1
    exact ⟨by rw [p1.length]; exact z, fun p np => A2.new R1 np (.lst upd_same (p1.mono (same_upd R1.same np) (Pre.refl _)))⟩⟩
theorem me_tup {k : Nat} (h : PA X es (rdA X.K W ga)) : PE X (.Tuple es k pos) (rdE X.K W (mTup ga)) :=
  PEi (pe_tup h) fun σ H Q ⟨I, m, l, c, R, L, A⟩ => ⟨I, m, l, c, R, L, After.mono (After.bind (rep := rA X.K) A) fun v1 H1 ⟨I1, m1, c1, d1, E1, R1, p1, A1⟩ => by
    obtain ⟨z, A2⟩ := A1.fits
    have p1 : Reps X.K I1 m1 v1 d1 := p1
    exact ⟨by rw [p1.length]; exact z, fun p np => A2.new R1 np (.tup (SqT.of upd_same) (p1.mono (same_upd R1.same np) (Pre.refl _)) (.inl upd_same))⟩⟩
end

/-! ### a cell is made, read, changed -/
theorem pre_app (m : List Addr) (a : Addr) : Pre m (m ++ [a]) := fun k b h => by
  have hk : k < m.length := (List.getElem?_eq_some_iff.mp h).1
  rw [List.getElem?_append_left hk]
  exact h
section
variable {K : PySem.W.Frag} {I H : Hp} {m : List Addr} {c : Cs}
/-- the addresses of cells are tracked, and not among what never changes unless frozen -/
theorem Rel.tracked (r : Rel K I H m c) {k : Nat} {a : Addr} (h : m[k]? = some a) : ∃ o, H a = some o := by
  have hk : k < c.length := by rw [← r.len]; exact (List.getElem?_eq_some_iff.mp h).1
  have q := r.cell k a c[k] h (List.getElem?_eq_getElem hk)
  cases e : c[k] with
  | lst ds => rw [e] at q; exact ⟨_, q.2.choose_spec.1⟩
  | dct ds => rw [e] at q; exact ⟨_, q.2.choose_spec.1⟩
  | dT ds => rw [e] at q; exact ⟨_, q.2.choose_spec.1⟩
  | dTz es => rw [e] at q; obtain ⟨_, _, q1, _⟩ := q; exact ⟨_, r.same _ _ q1⟩
  | ins C ds => rw [e] at q; obtain ⟨_, dx, vs, _, _, _, q5, _⟩ := q; exact q5.elim fun _ z => ⟨_, z.2⟩
  | frz d =>
    rw [e] at q
    cases z : I a with
    | none => exact absurd z q.1
    | some o => exact ⟨o, r.same _ _ z⟩
theorem Rel.fresh (r : Rel K I H m c) {p : Addr} (np : H p = none) : p ∉ m := fun h => by
  obtain ⟨k, hk⟩ := List.getElem?_of_mem h
  obtain ⟨o, e⟩ := r.tracked hk
  rw [np] at e; cases e
/-- a new mutable list -/
theorem Rel.push (r : Rel K I H m c) {p : Addr} (np : H p = none) {vs : List V} {ds : List D} (q : Reps K I m vs ds) : Rel K I (upd H p (.lst vs)) (m ++ [p]) (c ++ [.lst ds]) ∧ Ext I m H I (m ++ [p]) (upd H p (.lst vs)) := by
  have sH : Same H (upd H p (.lst vs)) := fun b u e => by rw [upd_ne (ne_of_none e np)]; exact e
  have hp := pre_app m p
  have nm := r.fresh np
  refine ⟨⟨r.same.trans sH, by simp [r.len], fun i j a h1 h2 => ?_, fun k a x h1 h2 => ?_, r.tabs.upHm (nt_none np)⟩, Same.refl I, hp, fun b o h1 hT h2 h3 => ⟨sH _ _ h1, h2, ?_⟩⟩
  · rcases Nat.lt_or_ge i m.length with hi | hi
    · rcases Nat.lt_or_ge j m.length with hj | hj
      · rw [List.getElem?_append_left hi] at h1
        rw [List.getElem?_append_left hj] at h2
        exact r.nd i j a h1 h2
      · rw [List.getElem?_append_left hi] at h1
        rw [List.getElem?_append_right hj] at h2
        have e : a = p := by
          cases z : j - m.length with
          | zero => rw [z] at h2; simpa using h2.symm
          | succ n => rw [z] at h2; simp at h2
        exact absurd (List.mem_of_getElem? h1) (e ▸ nm)
    · rcases Nat.lt_or_ge j m.length with hj | hj
      · rw [List.getElem?_append_left hj] at h2
        rw [List.getElem?_append_right hi] at h1
        have e : a = p := by
          cases z : i - m.length with
          | zero => rw [z] at h1; simpa using h1.symm
          | succ n => rw [z] at h1; simp at h1
        exact absurd (List.mem_of_getElem? h2) (e ▸ nm)
      · have hi' := (List.getElem?_eq_some_iff.mp h1).1
        have hj' := (List.getElem?_eq_some_iff.mp h2).1
        simp at hi' hj'
        omega
  · rcases Nat.lt_or_ge k m.length with hk | hk
    · rw [List.getElem?_append_left hk] at h1
      rw [List.getElem?_append_left (by rw [← r.len]; exact hk)] at h2
      have q := r.cell k a x h1 h2
      cases x with
      | lst es =>
        obtain ⟨q1, ws, q2, q3⟩ := q
        exact ⟨q1, ws, sH _ _ q2, q3.mono (Same.refl I) hp⟩
      | dct es =>
        obtain ⟨q1, ws, q2, q3⟩ := q
        exact ⟨q1, ws, sH _ _ q2, q3.mono (Same.refl I) hp⟩
      | dT es =>
        obtain ⟨q1, ws, q2, q3⟩ := q
        exact ⟨q1, ws, sH _ _ q2, q3.mono (Same.refl I) hp⟩
      | dTz es => exact q.imp (fun _ y => y.imp fun _ y => ⟨y.1, y.2.mono (Same.refl I) hp⟩)
      | ins C es =>
        obtain ⟨q1, dx, ws, q2, q3, q4, q5, q6⟩ := q
        exact ⟨q1, dx, ws, q2, fun z => by
          rcases List.mem_append.mp z with z | z
          · exact q3 z
          · simp only [List.mem_singleton] at z
            exact ne_of_none q4 np z, sH _ _ q4, q5.imp fun _ z => ⟨z.1, sH _ _ z.2⟩, q6.mono (Same.refl I) hp⟩
      | frz d => exact ⟨q.1, q.2.mono (Same.refl I) hp⟩
    · have hk' := (List.getElem?_eq_some_iff.mp h1).1
      simp at hk'
      have e : k = m.length := by omega
      subst e
      rw [List.getElem?_append_right (Nat.le_refl _)] at h1
      rw [r.len, List.getElem?_append_right (Nat.le_refl _)] at h2
      simp at h1 h2
      subst h1; subst h2
      exact ⟨r.same.free np, vs, upd_same, q.mono (Same.refl I) hp⟩
  · intro z
    rcases List.mem_append.mp z with z | z
    · exact h3 z
    · simp only [List.mem_singleton] at z
      exact ne_of_none h1 np z
/-- a list's cell is rewritten -/
theorem Rel.put (r : Rel K I H m c) {k : Nat} {a : Addr} {vs : List V} {ds ds0 : List D} (hm : m[k]? = some a) (hc : c[k]? = some (.lst ds0)) (q : Reps K I m vs ds) : Rel K I (upd H a (.lst vs)) m (c.set k (.lst ds)) ∧ Ext I m H I m (upd H a (.lst vs)) := by
  obtain ⟨n1, ws, n2, n3⟩ := r.cell k a _ hm hc
  refine ⟨⟨fun b o e => ?_, by simp [r.len], r.nd, fun j b x h1 h2 => ?_, r.tabs.upH (nt_some n2 ⟨(fun _ z => nomatch z), (fun _ z => nomatch z)⟩)⟩, Same.refl I, Pre.refl m, fun b o h1 hT h2 h3 => ⟨?_, h2, h3⟩⟩
  · rw [upd_ne (ne_of_none e n1)]
    exact r.same _ _ e
  · by_cases hj : k = j
    · subst hj
      rw [List.getElem?_set_self (List.getElem?_eq_some_iff.mp hc).1] at h2
      rw [hm] at h1
      cases h1; cases h2
      exact ⟨n1, vs, upd_same, q⟩
    · rw [List.getElem?_set_ne hj] at h2
      have nb : b ≠ a := fun e => hj (r.nd k j a hm (e ▸ h1))
      have q := r.cell j b x h1 h2
      cases x with
      | lst es =>
        obtain ⟨q1, ws, q2, q3⟩ := q
        exact ⟨q1, ws, by rw [upd_ne nb]; exact q2, q3⟩
      | dct es =>
        obtain ⟨q1, ws, q2, q3⟩ := q
        exact ⟨q1, ws, by rw [upd_ne nb]; exact q2, q3⟩
      | dT es =>
        obtain ⟨q1, ws, q2, q3⟩ := q
        exact ⟨q1, ws, by rw [upd_ne nb]; exact q2, q3⟩
      | dTz es => exact q
      | ins C es =>
        obtain ⟨q1, dx, ws, q2, q3, q4, q5, q6⟩ := q
        exact ⟨q1, dx, ws, q2, q3, by rw [upd_ne (ne_of q4 n2 (by intro z; cases z))]; exact q4, q5.imp fun _ z => ⟨z.1, by rw [upd_ne nb]; exact z.2⟩, q6⟩
      | frz d => exact q
  · rw [upd_ne (fun (e : b = a) => h3 (by rw [e]; exact List.mem_of_getElem? hm))]
    exact h1
/-- a list's cell does not change any more -/
theorem Rel.freeze (r : Rel K I H m c) {k : Nat} {a : Addr} {ds : List D} (hm : m[k]? = some a) (hc : c[k]? = some (.lst ds)) : ∃ I' : Hp, Rel K I' H m (c.set k (.frz (.lst ds))) ∧ Ext I m H I' m H ∧ Rep K I' m (.ref a) (.lst ds) := by
  obtain ⟨n1, ws, n2, n3⟩ := r.cell k a _ hm hc
  have sI : Same I (upd I a (.lst ws)) := fun b o e => by rw [upd_ne (ne_of_none e n1)]; exact e
  refine ⟨upd I a (.lst ws), ⟨fun b o e => ?_, by simp [r.len], r.nd, fun j b x h1 h2 => ?_, r.tabs.upI (nt_some n2 ⟨(fun _ z => nomatch z), (fun _ z => nomatch z)⟩)⟩, ⟨sI, Pre.refl m, fun b o h1 hT h2 h3 => ⟨h1, ?_, h3⟩⟩, .lst upd_same (n3.mono sI (Pre.refl m))⟩
  · by_cases hb : b = a
    · subst hb
      rw [upd_same] at e
      cases e
      exact n2
    · rw [upd_ne hb] at e
      exact r.same _ _ e
  · by_cases hj : k = j
    · subst hj
      rw [List.getElem?_set_self (List.getElem?_eq_some_iff.mp hc).1] at h2
      rw [hm] at h1
      cases h1; cases h2
      exact ⟨by rw [upd_same]; exact nofun, .lst upd_same (n3.mono sI (Pre.refl m))⟩
    · rw [List.getElem?_set_ne hj] at h2
      have nb : b ≠ a := fun e => hj (r.nd k j a hm (e ▸ h1))
      have q := r.cell j b x h1 h2
      cases x with
      | lst es =>
        obtain ⟨q1, ws, q2, q3⟩ := q
        exact ⟨by rw [upd_ne nb]; exact q1, ws, q2, q3.mono sI (Pre.refl m)⟩
      | dct es =>
        obtain ⟨q1, ws, q2, q3⟩ := q
        exact ⟨by rw [upd_ne nb]; exact q1, ws, q2, q3.mono sI (Pre.refl m)⟩
      | dT es =>
        obtain ⟨q1, ws, q2, q3⟩ := q
        exact ⟨by rw [upd_ne nb]; exact q1, ws, q2, q3.mono sI (Pre.refl m)⟩
      | dTz es => exact q.imp (fun _ y => y.imp fun _ y => ⟨sI _ _ y.1, y.2.mono sI (Pre.refl m)⟩)
      | ins C es =>
        obtain ⟨q1, dx, ws, q2, q3, q4, q5, q6⟩ := q
        exact ⟨by rw [upd_ne nb]; exact q1, dx, ws, by rw [upd_ne (ne_of q4 n2 (by intro z; cases z))]; exact q2, q3, q4, q5, q6.mono sI (Pre.refl m)⟩
      | frz d => exact ⟨by rw [upd_ne nb]; exact q.1, q.2.mono sI (Pre.refl m)⟩
  · rw [upd_ne (fun (e : b = a) => h3 (by rw [e]; exact List.mem_of_getElem? hm))]
    exact h2
end
end L2.Mi

namespace L2.Mi
open PySem PySem.Spec PyProof.Rows L2

section
variable {K : PySem.W.Frag}
/-! ### + - * // % ** -/
def addD : D → D → Cs → R D
  | .int i, .int j, c => .ok (.int (i + j)) c
  | .str s, .str t, c => fits (s.length + t.length) (.ok (.str (s ++ t)) c)
  | .lst a, .lst b, c => fits (a.length + b.length) (.ok (.lst (a ++ b)) c)
  | .int i, .bl b, c => .ok (.int (i + b2i b)) c
  | .tup a, .tup b, c => match a, b with
    | [], _ => .stuck
    | _, [] => .stuck
    | _, _ => fits (a.length + b.length) (.ok (.tup (a ++ b)) c)
  | _, _, _ => .stuck
def rAddA (K : PySem.W.Frag) : R2 := fun x y H Q => (∃ i j, x = .int i ∧ y = .int j ∧ Q (.int (i + j)) H) ∨ (∃ i j, x = .str i ∧ y = .str j ∧ i.length + j.length ≤ sizeLine ∧ Q (.str (i ++ j)) H) ∨ rCat x y H Q ∨
  (∃ i k, x = .int i ∧ y = .bl k ∧ Q (.int (i + b2i k)) H) ∨ rCatT K x y H Q
theorem op_addA {X : Cx} : OpR X (binaryOp .Add) (rAddA X.K) := op_add.or (op_add_str.or (op_cat.or (op_add_ib.or op_catT)))
theorem os_add : OpS K (rAddA K) addD := fun I H m c v1 v2 d1 d2 W Q R p1 p2 A => by
  cases p1 with
  | int i =>
    cases p2 with
    | int j => exact .inl ⟨i, j, rfl, rfl, A.here R (.int _)⟩
    | bl b => exact .inr (.inr (.inr (.inl ⟨i, b, rfl, rfl, A.here R (.int _)⟩)))
    | _ => exact A.elim
  | str s =>
    cases p2 with
    | str t =>
      obtain ⟨z, A⟩ := After.fits (show After (rD K) K I m H W Q (fits (s.length + t.length) (.ok (.str (s ++ t)) c)) from A)
      exact .inr (.inl ⟨s, t, rfl, rfl, z, A.here R (.str _)⟩)
    | _ => exact A.elim
  | lst h1 r1 =>
    cases p2 with
    | @lst b ws es h2 r2 =>
      obtain ⟨z, A⟩ := After.fits A
      rw [← r1.length, ← r2.length] at z
      refine .inr (.inr (.inl ⟨_, b, _, _, rfl, rfl, R.same _ _ h1, R.same _ _ h2, z, fun p np => ?_⟩))
      exact A.new R np (.lst upd_same ((r1.append r2).mono (same_upd R.same np) (Pre.refl _)))
    | _ => exact A.elim
  | @tup a1 vs1 ds1 h1 r1 =>
    cases p2 with
    | @tup a2 vs2 ds2 h2 r2 =>
      cases ds1 with
      | nil => exact A.elim
      | cons x xs =>
        cases ds2 with
        | nil => exact A.elim
        | cons y ys =>
          obtain ⟨z, A⟩ := After.fits (show After (rD K) K I m H W Q (fits ((x :: xs).length + (y :: ys).length) (.ok (.tup ((x :: xs) ++ (y :: ys))) c)) from A)
          rw [← r1.length, ← r2.length] at z
          refine .inr (.inr (.inr (.inr ⟨_, a2, _, _, rfl, rfl, sqT_same R.same h1, sqT_same R.same h2, ?_, z, ?_, ?_⟩)))
          · intro e; rw [e] at r1; have := r1.length; simp at this
          · intro e; rw [e] at r2; have := r2.length; simp at this
          · exact fun _ p np => A.new R np (.tup (SqT.of upd_same) ((r1.append r2).mono (same_upd R.same np) (Pre.refl _)) (.inl upd_same))
    | _ => exact A.elim
  | _ => exact A.elim

def subD : D → D → Cs → R D
  | .int i, .int j, c => .ok (.int (i - j)) c
  | _, _, _ => .stuck
theorem os_sub : OpS K (rI0 fun i j => .int (i - j)) subD := fun I H m c v1 v2 d1 d2 W Q R p1 p2 A => by
  cases p1 with
  | int i =>
    cases p2 with
    | int j => exact ⟨i, j, rfl, rfl, A.here R (.int _)⟩
    | _ => exact A.elim
  | _ => exact A.elim
/-- the guard of a rule about two ints -/
def intC (C : Int → Int → Prop) [∀ i j, Decidable (C i j)] (g : Int → Int → Int) : D → D → Cs → R D
  | .int i, .int j, c => if C i j then .ok (.int (g i j)) c else .stuck
  | _, _, _ => .stuck
theorem os_intC {C : Int → Int → Prop} [∀ i j, Decidable (C i j)] {g : Int → Int → Int} : OpS K (rI C fun i j => .int (g i j)) (intC C g) := fun I H m c v1 v2 d1 d2 W Q R p1 p2 A => by
  cases p1 with
  | int i =>
    cases p2 with
    | int j =>
      by_cases hc : C i j
      · have A2 : After (rD K) K I m H W Q (if C i j then .ok (.int (g i j)) c else .stuck) := A
        rw [if_pos hc] at A2
        exact ⟨i, j, rfl, rfl, hc, A2.here R (.int _)⟩
      · have A2 : After (rD K) K I m H W Q (if C i j then .ok (.int (g i j)) c else .stuck) := A
        rw [if_neg hc] at A2
        exact A2.elim
    | _ => exact A.elim
  | _ => exact A.elim
instance : ∀ i j, Decidable (CMul i j) := fun i j => inferInstanceAs (Decidable ((-(2 ^ 64) < i ∧ i < 2 ^ 64) ∨ (-(2 ^ 64) < j ∧ j < 2 ^ 64)))
instance : ∀ i j, Decidable (CDivN i j) := fun i j => inferInstanceAs (Decidable (j ≠ 0 ∧ j.natAbs < 1073741824))
instance : ∀ i j, Decidable (CPow i j) := fun i j => inferInstanceAs (Decidable (0 ≤ j ∧ j ≤ 1000000 ∧ i.natAbs < 2 ^ 64))
def CNz (_ j : Int) : Prop := j ≠ 0
instance : ∀ i j, Decidable (CNz i j) := fun i j => inferInstanceAs (Decidable (j ≠ 0))
/-- list * int, text * int are further on -/
def mulI : D → D → Cs → R D := intC CMul (· * ·)
def divI : D → D → Cs → R D := intC CDivN Int.fdiv
def modI : D → D → Cs → R D := intC CNz Int.fmod
def powI : D → D → Cs → R D := intC CPow fun i j => i ^ j.toNat
theorem os_mulI : OpS K (rI CMul fun i j => .int (i * j)) mulI := os_intC
theorem os_divI : OpS K (rI CDivN fun i j => .int (i.fdiv j)) divI := os_intC
theorem os_modI : OpS K (rI (fun _ j => j ≠ 0) fun i j => .int (i.fmod j)) modI := os_intC (C := CNz)
theorem os_powI : OpS K (rI CPow fun i j => .int (i ^ j.toNat)) powI := os_intC
/-! ### comparisons -/
def cmpI (p : Int → Int → Bool) : D → D → Cs → R D
  | .int i, .int j, c => .ok (.bl (p i j)) c
  | _, _, _ => .stuck
theorem os_cmpI {p : Int → Int → Bool} : OpS K (rI0 fun i j => .bl (p i j)) (cmpI p) := fun I H m c v1 v2 d1 d2 W Q R p1 p2 A => by
  cases p1 with
  | int i =>
    cases p2 with
    | int j => exact ⟨i, j, rfl, rfl, A.here R (.bl _)⟩
    | _ => exact A.elim
  | _ => exact A.elim
def rLtA : R2 := fun x y H Q => rI0 (fun i j => .bl (decide (i < j))) x y H Q ∨ ∃ i j, x = .str i ∧ y = .str j ∧ Q (.bl (decide (i.cps.toList < j.cps.toList))) H
def rLeA : R2 := fun x y H Q => rI0 (fun i j => .bl (decide (i ≤ j))) x y H Q ∨ ∃ i j, x = .str i ∧ y = .str j ∧ Q (.bl (!decide (j.cps.toList < i.cps.toList))) H
theorem op_ltA {X : Cx} : OpR X (compareOp .Lt) rLtA := op_lt.or op_lt_str
theorem op_leA {X : Cx} : OpR X (compareOp .LtE) rLeA := op_le.or op_le_str
def ltD : D → D → Cs → R D
  | .int i, .int j, c => .ok (.bl (decide (i < j))) c
  | .str i, .str j, c => .ok (.bl (decide (i.cps.toList < j.cps.toList))) c
  | _, _, _ => .stuck
def leD : D → D → Cs → R D
  | .int i, .int j, c => .ok (.bl (decide (i ≤ j))) c
  | .str i, .str j, c => .ok (.bl (!decide (j.cps.toList < i.cps.toList))) c
  | _, _, _ => .stuck
theorem os_lt : OpS K rLtA ltD := fun I H m c v1 v2 d1 d2 W Q R p1 p2 A => by
  cases p1 with
  | int i =>
    cases p2 with
    | int j => exact .inl ⟨i, j, rfl, rfl, A.here R (.bl _)⟩
    | _ => exact A.elim
  | str i =>
    cases p2 with
    | str j => exact .inr ⟨i, j, rfl, rfl, A.here R (.bl _)⟩
    | _ => exact A.elim
  | _ => exact A.elim
theorem os_le : OpS K rLeA leD := fun I H m c v1 v2 d1 d2 W Q R p1 p2 A => by
  cases p1 with
  | int i =>
    cases p2 with
    | int j => exact .inl ⟨i, j, rfl, rfl, A.here R (.bl _)⟩
    | _ => exact A.elim
  | str i =>
    cases p2 with
    | str j => exact .inr ⟨i, j, rfl, rfl, A.here R (.bl _)⟩
    | _ => exact A.elim
  | _ => exact A.elim
def gtD : D → D → Cs → R D := cmpI fun i j => decide (j < i)
/-! ### data as the library has it -/
mutual
def toPy : D → Option PyData
  | .non => some .none
  | .bl b => some (.bool b)
  | .int i => some (.int i)
  | .str s => some (.str s)
  | .lst xs => match toPys xs with
    | some ys => some (.list ys)
    | none => none
  | .tup xs => match toPys xs with
    | some ys => some (.tuple ys)
    | none => none
  | _ => none
def toPys : List D → Option (List PyData)
  | [] => some []
  | x :: xs => match toPy x with
    | some y => match toPys xs with
      | some ys => some (y :: ys)
      | none => none
    | none => none
end
mutual
theorem rep_dp {I H : Hp} {m : List Addr} (s : Same I H) : ∀ {v : V} {d : D} {p : PyData}, Rep K I m v d → toPy d = some p → Dp K H v p
  | _, _, _, .non, e => by simp [toPy] at e; subst e; exact .non
  | _, _, _, .bl b, e => by simp [toPy] at e; subst e; exact .bl b
  | _, _, _, .int i, e => by simp [toPy] at e; subst e; exact .int i
  | _, _, _, .str x, e => by simp [toPy] at e; subst e; exact .str x
  | _, _, _, .lst (ds := ds) h r, e => by
    unfold toPy at e
    cases q : toPys ds with
    | none => rw [q] at e; cases e
    | some ys => rw [q] at e; cases e; exact .lst (SqL.of (s _ _ h)) (reps_dp s r q)
  | _, _, _, .tup (ds := ds) h r _, e => by
    unfold toPy at e
    cases q : toPys ds with
    | none => rw [q] at e; cases e
    | some ys => rw [q] at e; cases e; exact .tup (sqT_same s h) (reps_dp s r q)
  | _, _, _, .ro h r, e => by simp [toPy] at e
  | _, _, _, .dct h r, e => by simp [toPy] at e
  | _, _, _, .ref h, e => by simp [toPy] at e
  | _, _, _, .obj hn h r, e => by simp [toPy] at e
  | _, _, _, .adr a, e => by simp [toPy] at e
  | _, _, _, .ty n, e => by simp [toPy] at e
theorem reps_dp {I H : Hp} {m : List Addr} (s : Same I H) : ∀ {v : List V} {d : List D} {p : List PyData}, Reps K I m v d → toPys d = some p → DpAll K H v p
  | _, _, _, .nil, e => by simp [toPys] at e; subst e; exact .nil
  | _, _, _, .cons (d := d) (ds := ds) h t, e => by
    unfold toPys at e
    cases q : toPy d with
    | none => rw [q] at e; cases e
    | some y =>
      cases q2 : toPys ds with
      | none => rw [q, q2] at e; cases e
      | some ys => rw [q, q2] at e; cases e; exact .cons (rep_dp s h q) (reps_dp s t q2)
end
/-- == of data -/
def eqP (neg : Bool) (d e : D) (c : Cs) : R D := match toPy d with
  | some a => match toPy e with
    | some b => if SeqAt.shaped a = true ∧ SeqAt.shaped b = true then .ok (.bl (if neg then !PyData.eqv a b else PyData.eqv a b)) c else .stuck
    | none => .stuck
  | none => .stuck
def eqD : D → D → Cs → R D
  | .int i, .int j, c => .ok (.bl (decide (i = j))) c
  | .str i, .str j, c => .ok (.bl (decide (i = j))) c
  | .bl i, .bl j, c => .ok (.bl (decide (i = j))) c
  | d, e, c => eqP false d e c
def neD : D → D → Cs → R D
  | .int i, .int j, c => .ok (.bl (!decide (i = j))) c
  | .str i, .str j, c => .ok (.bl (!decide (i = j))) c
  | .bl i, .bl j, c => .ok (.bl (!decide (i = j))) c
  | d, e, c => eqP true d e c
def rEqA (K : PySem.W.Frag) : R2 := fun x y H Q => rEq x y H Q ∨ rEqD K x y H Q
def rNeA (K : PySem.W.Frag) : R2 := fun x y H Q => rNe x y H Q ∨ rNeD K x y H Q
theorem op_eqA {X : Cx} (hu : X.A.units + 64 < cLine) : OpR X (compareOp .Eq) (rEqA X.K) := op_eq.or (op_eqD hu)
theorem op_neA {X : Cx} (hu : X.A.units + 64 < cLine) : OpR X (compareOp .NotEq) (rNeA X.K) := op_ne.or (op_neD hu)
theorem eqP_read {I H : Hp} {m : List Addr} {c : Cs} {W : XK} {Q : VK} {v1 v2 : V} {d1 d2 : D} {neg : Bool} (R : Rel K I H m c) (p1 : Rep K I m v1 d1) (p2 : Rep K I m v2 d2) (A : After (rD K) K I m H W Q (eqP neg d1 d2 c)) :
    ∃ d e, Dp K H v1 d ∧ Dp K H v2 e ∧ SeqAt.shaped d = true ∧ SeqAt.shaped e = true ∧ Q (.bl (if neg then !PyData.eqv d e else PyData.eqv d e)) H := by
  unfold eqP at A
  cases q1 : toPy d1 with
  | none => rw [q1] at A; exact A.elim
  | some a =>
    cases q2 : toPy d2 with
    | none => rw [q1, q2] at A; exact A.elim
    | some b =>
      rw [q1, q2] at A
      by_cases hs : SeqAt.shaped a = true ∧ SeqAt.shaped b = true
      · have A2 : After (rD K) K I m H W Q (if SeqAt.shaped a = true ∧ SeqAt.shaped b = true then .ok (.bl (if neg then !PyData.eqv a b else PyData.eqv a b)) c else .stuck) := A
        rw [if_pos hs] at A2
        exact ⟨a, b, rep_dp R.same p1 q1, rep_dp R.same p2 q2, hs.1, hs.2, A2.here R (.bl _)⟩
      · have A2 : After (rD K) K I m H W Q (if SeqAt.shaped a = true ∧ SeqAt.shaped b = true then .ok (.bl (if neg then !PyData.eqv a b else PyData.eqv a b)) c else .stuck) := A
        rw [if_neg hs] at A2
        exact A2.elim
theorem decV {α : Type} [DecidableEq α] {f : α → V} (hf : ∀ a b, f a = f b → a = b) (a b : α) : decide (f a = f b) = decide (a = b) := by
  by_cases h : a = b
  · subst h; simp
  · rw [decide_eq_false h, decide_eq_false fun e => h (hf _ _ e)]
theorem os_eq : OpS K (rEqA K) eqD := fun I H m c v1 v2 d1 d2 W Q R p1 p2 A => by
  have gen : After (rD K) K I m H W Q (eqP false d1 d2 c) → rEqA K v1 v2 H Q := fun A => .inr (eqP_read R p1 p2 A)
  cases p1 with
  | int i => cases p2 with
    | int j => exact .inl ⟨rfl, by rw [decV (f := V.int) fun _ _ e => V.int.inj e]; exact A.here R (.bl _)⟩
    | _ => exact gen A
  | str i => cases p2 with
    | str j => exact .inl ⟨rfl, by rw [decV (f := V.str) fun _ _ e => V.str.inj e]; exact A.here R (.bl _)⟩
    | _ => exact gen A
  | bl i => cases p2 with
    | bl j => exact .inl ⟨rfl, by rw [decV (f := V.bl) fun _ _ e => V.bl.inj e]; exact A.here R (.bl _)⟩
    | _ => exact gen A
  | _ => exact gen A
theorem os_ne : OpS K (rNeA K) neD := fun I H m c v1 v2 d1 d2 W Q R p1 p2 A => by
  have gen : After (rD K) K I m H W Q (eqP true d1 d2 c) → rNeA K v1 v2 H Q := fun A => .inr (eqP_read (neg := true) R p1 p2 A)
  cases p1 with
  | int i => cases p2 with
    | int j => exact .inl ⟨rfl, by rw [decV (f := V.int) fun _ _ e => V.int.inj e]; exact A.here R (.bl _)⟩
    | _ => exact gen A
  | str i => cases p2 with
    | str j => exact .inl ⟨rfl, by rw [decV (f := V.str) fun _ _ e => V.str.inj e]; exact A.here R (.bl _)⟩
    | _ => exact gen A
  | bl i => cases p2 with
    | bl j => exact .inl ⟨rfl, by rw [decV (f := V.bl) fun _ _ e => V.bl.inj e]; exact A.here R (.bl _)⟩
    | _ => exact gen A
  | _ => exact gen A
/-- is None, is not None -/
def isNoneD : D → Bool
  | .non => true
  | _ => false
def isD : D → D → Cs → R D := fun d e c => match e with
  | .non => .ok (.bl (isNoneD d)) c
  | _ => .stuck
def isntD : D → D → Cs → R D := fun d e c => match e with
  | .non => .ok (.bl (!isNoneD d)) c
  | _ => .stuck
theorem rep_non {I : Hp} {m : List Addr} {v : V} {d : D} (p : Rep K I m v d) : decide (v = .non) = isNoneD d := by
  cases p <;> first | rfl | exact decide_eq_false nofun
theorem os_is : OpS K (fun x y H Q => y = .non ∧ Q (.bl (decide (x = .non))) H) isD := fun I H m c v1 v2 d1 d2 W Q R p1 p2 A => by
  cases p2 with
  | non => exact ⟨rfl, by rw [rep_non p1]; exact A.here R (.bl _)⟩
  | _ => exact A.elim
theorem os_isnt : OpS K (fun x y H Q => y = .non ∧ Q (.bl (!decide (x = .non))) H) isntD := fun I H m c v1 v2 d1 d2 W Q R p1 p2 A => by
  cases p2 with
  | non => exact ⟨rfl, by rw [rep_non p1]; exact A.here R (.bl _)⟩
  | _ => exact A.elim

/-! ### in, not in -/
/-- in, not in: one sign in a text, a flat value in a list or tuple of flat values, data in a list of data -/
def sgn (neg b : Bool) : Bool := if neg then !b else b
mutual
def flatD : D → Bool
  | .non => true
  | .bl _ => true
  | .int _ => true
  | .str _ => true
  | _ => false
end
/-! ### items -/
theorem atI_reps {I : Hp} {m : List Addr} {vs : List V} {ds : List D} {i : Int} {d : D} (r : Reps K I m vs ds) (h : atI ds i = some d) : ∃ v, atI vs i = some v ∧ Rep K I m v d := by
  unfold atI at h ⊢
  rw [r.length]
  cases q : ixN ds.length i with
  | none => rw [q] at h; cases h
  | some j =>
    rw [q] at h
    exact r.get (i := j) h
def itL (ds : List D) (i : Int) (c : Cs) : R D := match atI ds i with
  | some d => .ok d c
  | none => .stuck
def itemD : D → D → Cs → R D
  | .lst ds, .int i, c => itL ds i c
  | .ro ds, .int i, c => itL ds i c
  | .tup ds, .int i, c => itL ds i c
  | .str s, .int i, c => fits s.length (match atI s.cps.toList i with
    | some k => .ok (.str ⟨#[k]⟩) c
    | none => .stuck)
  | .ref k, .int i, c => match c[k]? with
    | some (.lst ds) => itL ds i c
    | some (.frz (.lst ds)) => itL ds i c
    | _ => .stuck
  | _, _, _ => .stuck
theorem os_item : OpS K (rIx K) itemD := fun I H m c v1 v2 d1 d2 W Q R p1 p2 A => by
  have lst : ∀ {a : Addr} {vs : List V} {ds : List D} {i : Int}, v1 = .ref a → v2 = .int i → SqL K H a vs → Reps K I m vs ds → After (rD K) K I m H W Q (itL ds i c) → rIx K v1 v2 H Q := fun {a vs ds i} e1 e2 h r A => by
    unfold itL at A
    cases q : atI ds i with
    | none => rw [q] at A; exact A.elim
    | some d =>
      rw [q] at A
      obtain ⟨v, hv, pv⟩ := atI_reps r q
      exact .inl ⟨a, vs, i, v, e1, e2, h, hv, A.here R pv⟩
  cases p2 with
  | int i =>
    cases p1 with
    | lst h r => exact lst rfl rfl (SqL.of (R.same _ _ h)) r A
    | ro h r => exact lst rfl rfl (R.same.seq h) r A
    | @tup a vs ds h r =>
      have A2 : After (rD K) K I m H W Q (itL ds i c) := A
      unfold itL at A2
      cases q : atI ds i with
      | none => rw [q] at A2; exact A2.elim
      | some d =>
        rw [q] at A2
        obtain ⟨v, hv, pv⟩ := atI_reps r q
        exact .inr (.inl ⟨a, vs, i, v, rfl, rfl, sqT_same R.same h, hv, A2.here R pv⟩)
    | str s =>
      obtain ⟨z, A2⟩ := After.fits (show After (rD K) K I m H W Q (fits s.length (match atI s.cps.toList i with
        | some k => .ok (.str ⟨#[k]⟩) c
        | none => .stuck)) from A)
      cases q : atI s.cps.toList i with
      | none => rw [q] at A2; exact A2.elim
      | some k =>
        rw [q] at A2
        exact .inr (.inr ⟨s, i, k, rfl, rfl, z, q, A2.here R (.str _)⟩)
    | @ref k a h =>
      have A2 : After (rD K) K I m H W Q (match c[k]? with
        | some (.lst ds) => itL ds i c
        | some (.frz (.lst ds)) => itL ds i c
        | _ => .stuck) := A
      cases q : c[k]? with
      | none => rw [q] at A2; exact A2.elim
      | some x =>
        rw [q] at A2
        have hc := R.cell k a x h q
        cases x with
        | lst ds =>
          obtain ⟨_, vs, h1, h2⟩ := hc
          exact lst rfl rfl (SqL.of h1) h2 A2
        | frz d =>
          cases d with
          | lst ds =>
            obtain ⟨_, hr⟩ := hc
            cases hr with
            | lst h1 h2 => exact lst rfl rfl (SqL.of (R.same _ _ h1)) h2 A2
          | _ => exact A2.elim
        | _ => exact A2.elim
    | _ => exact A.elim
  | _ => cases p1 <;> exact A.elim

/-! ### slices -/
abbrev MO := Ls → Cs → R (Option Int)
def rO : Hp → List Addr → Option Int → Option Int → Prop := fun _ _ v d => v = d
abbrev rdO (K : PySem.W.Frag) (W : WX) (f : MO) : TO := rd rO K W f
def oNone : MO := fun _ c => .ok none c
def oSome (a : ME) : MO := fun l c => (a l c).bind fun x c1 => match x with
  | .int i => .ok (some i) c1
  | _ => .stuck
theorem POi {X : Cx} {e : Option Expr} {t t' : TO} (h : PO X e t) (w : ∀ σ H Q, t' σ H Q → t σ H Q) : PO X e t' := ⟨fun pins s σ H Q I q => h.run pins s σ H Q I (w σ H Q q)⟩
theorem mo_none {X : Cx} {W : WX} : PO X none (rdO X.K W oNone) := POi po_none fun σ H Q ⟨I, m, l, c, R, L, A⟩ => A.here R rfl
theorem mo_some {X : Cx} {W : WX} {e : Expr} {f : ME} (h : PE X e (rdE X.K W f)) : PO X (some e) (rdO X.K W (oSome f)) := POi (po_some h) fun σ H Q ⟨I, m, l, c, R, L, A⟩ =>
  ⟨I, m, l, c, R, L, After.mono (After.bind (rep := rD X.K) A) fun v1 H1 ⟨I1, m1, c1, d1, E1, R1, p1, A1⟩ => by
    cases p1 with
    | int i => exact ⟨i, rfl, A1.here R1 rfl⟩
    | _ => exact A1.elim⟩
def cutD (xs : List D) (lo hi : Option Int) : List D := (xs.drop (HT.sIx xs.length 0 lo)).take (HT.sIx xs.length xs.length hi - HT.sIx xs.length 0 lo)
theorem cut_reps {I : Hp} {m : List Addr} {vs : List V} {ds : List D} (lo hi : Option Int) (r : Reps K I m vs ds) : Reps K I m (cutV vs lo hi) (cutD ds lo hi) := by
  unfold cutV cutD
  rw [r.length]
  exact (r.drop _).take _
def sliceD (d : D) (lo hi : Option Int) (c : Cs) : R D := match d with
  | .lst ds => .ok (.lst (cutD ds lo hi)) c
  | .str s => fits s.length (.ok (.str (cutS s lo hi)) c)
  | .ref k => match c[k]? with
    | some (.lst ds) => .ok (.lst (cutD ds lo hi)) c
    | _ => .stuck
  | _ => .stuck
def mSlice (a : ME) (lo hi : MO) : ME := fun l c => (a l c).bind fun x c1 => (lo l c1).bind fun i c2 => (hi l c2).bind fun j c3 => sliceD x i j c3
def rSlA (K : PySem.W.Frag) : V → Option Int → Option Int → Hp → VK → Prop := fun x lo hi H Q => rSlL K x lo hi H Q ∨ rSlS x lo hi H Q
/-! ### calls of built-ins -/
def CallS (K : PySem.W.Frag) (r : List V → Hp → VK → Prop) (g : List D → Cs → R D) : Prop := ∀ (I H : Hp) (m : List Addr) (c : Cs) (vs : List V) (ds : List D) (W : XK) (Q : VK),
  Rel K I H m c → Reps K I m vs ds → After (rD K) K I m H W Q (g ds c) → r vs H Q
def mCB (g : List D → Cs → R D) (t : MA) : ME := fun l c => (t l c).bind fun xs c1 => g xs c1
theorem cb_read {X : Cx} {W : WX} {r : List V → Hp → VK → Prop} {g : List D → Cs → R D} {ga : MA} {σ : St} {H : Hp} {Q : VK} (hs : CallS X.K r g) (h : rdE X.K W (mCB g ga) σ H Q) : tCB r (rdA X.K W ga) σ H Q := by
  obtain ⟨I, m, l, c, R, L, A⟩ := h
  exact ⟨I, m, l, c, R, L, After.mono (After.bind (rep := rA X.K) A) fun v1 H1 ⟨I1, m1, c1, d1, E1, R1, p1, A1⟩ => hs _ _ _ _ _ _ _ _ R1 p1 A1⟩
def lenC (x : D) (c : Cs) : Option Nat := match x with
  | .lst ds => some ds.length
  | .ro ds => some ds.length
  | .tup ds => some ds.length
  | .str s => if s.length ≤ sizeLine then some s.length else none
  | .ref k => match c[k]? with
    | some (.lst ds) => some ds.length
    | some (.frz (.lst ds)) => some ds.length
    | _ => none
  | _ => none
def lenD : List D → Cs → R D
  | [x], c => match lenC x c with
    | some n => .ok (.int n) c
    | none => .stuck
  | _, _ => .stuck
theorem cs_len : CallS K (fun xs H Q => ∃ x n, xs = [x] ∧ LenV K x H n ∧ Q (.int n) H) lenD := fun I H m c vs ds W Q R p A => by
  cases p with
  | nil => exact A.elim
  | @cons v _ d _ h t =>
    cases t with
    | cons _ _ => exact A.elim
    | nil =>
      have A2 : After (rD K) K I m H W Q (match lenC d c with
        | some n => .ok (.int n) c
        | none => .stuck) := A
      have fin : ∀ {n : Nat}, lenC d c = some n → LenV K v H n → ∃ x n, [v] = [x] ∧ LenV K x H n ∧ Q (.int n) H := fun {n} e hl => by
        rw [e] at A2
        exact ⟨v, n, rfl, hl, A2.here R (.int _)⟩
      cases h with
      | lst h r => exact fin rfl (.inl ⟨_, SqL.of (R.same _ _ h), r.length.symm⟩)
      | ro h r => exact fin rfl (.inl ⟨_, R.same.seq h, r.length.symm⟩)
      | tup h r => exact fin rfl (.inr ⟨_, sqT_same R.same h, r.length.symm⟩)
      | str s =>
        by_cases hz : s.length ≤ sizeLine
        · exact fin (if_pos hz) ⟨hz, rfl⟩
        · rw [show lenC (.str s) c = none from if_neg hz] at A2
          exact A2.elim
      | @ref k a h =>
        have lk : lenC (.ref k) c = (match c[k]? with
          | some (.lst ds) => some ds.length
          | some (.frz (.lst ds)) => some ds.length
          | _ => none) := rfl
        cases q : c[k]? with
        | none => rw [lk, q] at A2; exact A2.elim
        | some x =>
          have hc := R.cell k a x h q
          cases x with
          | lst ds =>
            obtain ⟨_, vs, h1, h2⟩ := hc
            exact fin (by rw [lk, q]) (.inl ⟨_, SqL.of h1, h2.length.symm⟩)
          | frz d =>
            cases d with
            | lst ds =>
              obtain ⟨_, hr⟩ := hc
              cases hr with
              | lst h1 h2 => exact fin (by rw [lk, q]) (.inl ⟨_, SqL.of (R.same _ _ h1), h2.length.symm⟩)
            | _ => rw [lk, q] at A2; exact A2.elim
          | _ => rw [lk, q] at A2; exact A2.elim
      | _ => exact A2.elim
def ints2 (g : Int → Int → Int) : List D → Cs → R D
  | [.int i, .int j], c => .ok (.int (g i j)) c
  | _, _ => .stuck
theorem two_ints {I H : Hp} {m : List Addr} {c : Cs} {W : XK} {Q : VK} {vs : List V} {ds : List D} {g : Int → Int → Int} (R : Rel K I H m c) (p : Reps K I m vs ds) (A : After (rD K) K I m H W Q (ints2 g ds c)) : ∃ i j, vs = [.int i, .int j] ∧ Q (.int (g i j)) H := by
  cases p with
  | nil => exact A.elim
  | cons h t =>
    cases t with
    | nil => cases h <;> exact A.elim
    | cons h2 t2 =>
      cases t2 with
      | cons _ _ => cases h <;> first | exact A.elim | (cases h2 <;> exact A.elim)
      | nil =>
        cases h with
        | int i =>
          cases h2 with
          | int j => exact ⟨i, j, rfl, A.here R (.int _)⟩
          | _ => exact A.elim
        | _ => exact A.elim
def max2 : List D → Cs → R D := ints2 fun i j => if j > i then j else i
def min2 : List D → Cs → R D := ints2 fun i j => if j < i then j else i
theorem cs_max2 : CallS K (fun xs H Q => ∃ i j, xs = [.int i, .int j] ∧ Q (.int (if j > i then j else i)) H) max2 := fun I H m c vs ds W Q R p A => two_ints R p A
theorem cs_min2 : CallS K (fun xs H Q => ∃ i j, xs = [.int i, .int j] ∧ Q (.int (if j < i then j else i)) H) min2 := fun I H m c vs ds W Q R p A => two_ints R p A
end
end L2.Mi

namespace L2.Mi
open PySem PySem.Spec PyProof.Rows L2

/-! ### statements -/
inductive Fl where
  | nx (l : Ls)
  | rt (d : D)
  | bk (l : Ls)
  | ct (l : Ls)
inductive RS where
  | stuck
  | go (f : Fl) (c : Cs)
  | exc (x : Ex) (l : Ls) (c : Cs)
abbrev MS := Ls → Cs → RS
/-- what is wanted behind a statement -/
def AfterS (K : PySem.W.Frag) (I : Hp) (m : List Addr) (H : Hp) (W : WX) (D : Ends) : RS → Prop
  | .stuck => False
  | .go (.nx l) c => ∀ I' m' H' σ', Ext I m H I' m' H' → Rel K I' H' m' c → Locs K I' m' σ' l → D.nx σ' H'
  | .go (.rt d) c => ∀ I' m' H' v, Ext I m H I' m' H' → Rel K I' H' m' c → Rep K I' m' v d → D.rt v H'
  | .go (.bk l) c => ∀ I' m' H' σ', Ext I m H I' m' H' → Rel K I' H' m' c → Locs K I' m' σ' l → D.bk σ' H'
  | .go (.ct l) c => ∀ I' m' H' σ', Ext I m H I' m' H' → Rel K I' H' m' c → Locs K I' m' σ' l → D.ct σ' H'
  | .exc x l c => ∀ I' m' H' σ' cls dd, Ext I m H I' m' H' → Rel K I' H' m' c → Locs K I' m' σ' l → RepX K I' m' H' cls dd x → W cls dd σ' H'
def rdS (K : PySem.W.Frag) (W : WX) (f : MS) : TS := fun D σ H => ∃ I m l c, Rel K I H m c ∧ Locs K I m σ l ∧ AfterS K I m H W D (f l c)
theorem AfterS.ext {K : PySem.W.Frag} {I I1 H H1 : Hp} {m m1 : List Addr} {W : WX} {D : Ends} {r : RS} (e : Ext I m H I1 m1 H1) (a : AfterS K I m H W D r) : AfterS K I1 m1 H1 W D r := by
  cases r with
  | stuck => exact a
  | exc x l c => exact fun I' m' H' σ' cls dd e' => a I' m' H' σ' cls dd (e.trans e')
  | go f c => cases f <;> exact fun I' m' H' v e' => a I' m' H' v (e.trans e')
/-- an expression, then a statement -/
def R.seq {α : Type} (r : R α) (l : Ls) (f : α → Cs → RS) : RS := match r with
  | .stuck => .stuck
  | .ok a c => f a c
  | .exc x c => .exc x l c
@[simp] theorem R.seq_ok {α : Type} (a : α) (c : Cs) (l : Ls) (f : α → Cs → RS) : (R.ok a c).seq l f = f a c := rfl
@[simp] theorem R.seq_exc {α : Type} (x : Ex) (c : Cs) (l : Ls) (f : α → Cs → RS) : (R.exc x c : R α).seq l f = .exc x l c := rfl
@[simp] theorem R.seq_stuck {α : Type} (l : Ls) (f : α → Cs → RS) : (R.stuck : R α).seq l f = .stuck := rfl
def MidS {α β : Type} (rep : Hp → List Addr → β → α → Prop) (K : PySem.W.Frag) (I : Hp) (m : List Addr) (H : Hp) (W : WX) (D : Ends) (f : α → Cs → RS) (v : β) (H1 : Hp) : Prop :=
  ∃ I1 m1 c1 a, Ext I m H I1 m1 H1 ∧ Rel K I1 H1 m1 c1 ∧ rep I1 m1 v a ∧ AfterS K I1 m1 H1 W D (f a c1)
theorem AfterS.seq {α β : Type} {rep : Hp → List Addr → β → α → Prop} {K : PySem.W.Frag} {I H : Hp} {m : List Addr} {W : WX} {D : Ends} {r : R α} {l : Ls} {σ : St} {f : α → Cs → RS} (L : Locs K I m σ l) (a : AfterS K I m H W D (r.seq l f)) :
    After rep K I m H (fun cls dd H' => W cls dd σ H') (MidS rep K I m H W D f) r := by
  cases r with
  | stuck => exact a
  | ok d c => exact fun I' m' H' v e' r' p => ⟨I', m', c, d, e', r', p, AfterS.ext e' a⟩
  | exc x c => exact fun I' m' H' cls dd e r p => a I' m' H' σ cls dd e r (L.ext e) p
/-- a statement, then another one -/
def RS.next (r : RS) (f : Ls → Cs → RS) : RS := match r with
  | .go (.nx l) c => f l c
  | r => r
@[simp] theorem RS.next_nx (l : Ls) (c : Cs) (f : Ls → Cs → RS) : (RS.go (.nx l) c).next f = f l c := rfl
@[simp] theorem RS.next_rt (d : D) (c : Cs) (f : Ls → Cs → RS) : (RS.go (.rt d) c).next f = .go (.rt d) c := rfl
@[simp] theorem RS.next_bk (l : Ls) (c : Cs) (f : Ls → Cs → RS) : (RS.go (.bk l) c).next f = .go (.bk l) c := rfl
@[simp] theorem RS.next_ct (l : Ls) (c : Cs) (f : Ls → Cs → RS) : (RS.go (.ct l) c).next f = .go (.ct l) c := rfl
@[simp] theorem RS.next_exc (x : Ex) (l : Ls) (c : Cs) (f : Ls → Cs → RS) : (RS.exc x l c).next f = .exc x l c := rfl
@[simp] theorem RS.next_stuck (f : Ls → Cs → RS) : RS.stuck.next f = .stuck := rfl

theorem PSi {X : Cx} {s : Stmt} {t t' : TS} (h : PS X s t) (w : ∀ D σ H, t' D σ H → t D σ H) : PS X s t' := ⟨fun pins s σ H D I q => h.run pins s σ H D I (w D σ H q)⟩
theorem PSsi {X : Cx} {s : List Stmt} {t t' : TS} (h : PSs X s t) (w : ∀ D σ H, t' D σ H → t D σ H) : PSs X s t' := ⟨fun pins s σ H D I q => h.run pins s σ H D I (w D σ H q)⟩

section
variable {X : Cx} {W : WX} {e a b : Expr} {es : List Expr} {s : Stmt} {ss body orelse : List Stmt} {pos : Pos} {fa : ME} {ta : MT} {f g : MS}
def sNil : MS := fun l c => .go (.nx l) c
def sSeq (f g : MS) : MS := fun l c => (f l c).next g
theorem ms_nil : PSs X [] (rdS X.K W sNil) := PSsi pss_nil fun D σ H ⟨I, m, l, c, R, L, A⟩ => A I m H σ (Ext.refl _ _ _) R L
theorem seq_read {K : PySem.W.Frag} {D : Ends} {σ : St} {H : Hp} (h : rdS K W (sSeq f g) D σ H) : tSeq (rdS K W f) (rdS K W g) D σ H := by
  obtain ⟨I, m, l, c, R, L, A⟩ := h
  refine ⟨I, m, l, c, R, L, ?_⟩
  have A : AfterS K I m H W D ((f l c).next g) := A
  cases q : f l c with
  | stuck => rw [q] at A; exact A
  | exc x l' c' => rw [q] at A; exact A
  | go fl c' =>
    rw [q] at A
    cases fl with
    | nx l' => exact fun I' m' H' σ' e' r' L' => ⟨I', m', l', c', r', L', AfterS.ext e' A⟩
    | rt d => exact A
    | bk l' => exact A
    | ct l' => exact A
theorem ms_cons (h1 : PS X s (rdS X.K W f)) (h2 : PSs X ss (rdS X.K W g)) : PSs X (s :: ss) (rdS X.K W (sSeq f g)) := PSsi (pss_cons h1 h2) fun _ _ _ h => seq_read h
theorem ms_one (h1 : PS X s (rdS X.K W f)) : PSs X [s] (rdS X.K W f) := pss_one h1
def sBreak : MS := fun l c => .go (.bk l) c
def sCont : MS := fun l c => .go (.ct l) c
def sExpr (a : ME) : MS := fun l c => (a l c).seq l fun _ c1 => .go (.nx l) c1
theorem ms_expr (h : PE X e (rdE X.K W fa)) (hs : swapsWith e none pos.line X.env = pure false := by rfl) : PS X (.Expr e pos) (rdS X.K W (sExpr fa)) := PSi (ps_expr h hs) fun D σ H ⟨I, m, l, c, R, L, A⟩ =>
  ⟨I, m, l, c, R, L, After.mono (AfterS.seq (rep := rD X.K) L A) fun v1 H1 ⟨I1, m1, c1, d1, E1, R1, p1, A1⟩ => A1 I1 m1 H1 σ (Ext.refl _ _ _) R1 (L.ext E1)⟩
def sRet (a : ME) : MS := fun l c => (a l c).seq l fun d c1 => .go (.rt d) c1
theorem ms_ret (h : PE X e (rdE X.K W fa)) : PS X (.Return (some e) pos) (rdS X.K W (sRet fa)) := PSi (ps_ret h) fun D σ H ⟨I, m, l, c, R, L, A⟩ =>
  ⟨I, m, l, c, R, L, After.mono (AfterS.seq (rep := rD X.K) L A) fun v1 H1 ⟨I1, m1, c1, d1, E1, R1, p1, A1⟩ => A1 I1 m1 H1 v1 (Ext.refl _ _ _) R1 p1⟩
def sRetN : MS := fun _ c => .go (.rt .non) c
def sIf (t : MT) (f g : MS) : MS := fun l c => (t l c).seq l fun k c1 => match k with
  | true => f l c1
  | false => g l c1
theorem ms_if {c : Expr} {sa sb : List Stmt} (ht : PT X c (rdT X.K W ta)) (ha : PSs X sa (rdS X.K W f)) (hb : PSs X sb (rdS X.K W g)) : PS X (.If c sa sb pos) (rdS X.K W (sIf ta f g)) := PSi (ps_if ht ha hb) fun D σ H ⟨I, m, l, c, R, L, A⟩ =>
  ⟨I, m, l, c, R, L, After.mono (AfterS.seq (rep := rB) L A) fun v1 H1 ⟨I1, m1, c1, d1, E1, R1, p1, A1⟩ => by
    cases (show v1 = d1 from p1)
    cases v1 with
    | true => exact iteT ⟨I1, m1, l, c1, R1, L.ext E1, A1⟩
    | false => exact iteF ⟨I1, m1, l, c1, R1, L.ext E1, A1⟩⟩

/-! ### targets -/
abbrev MG := D → Ls → Cs → R Ls
def rL (K : PySem.W.Frag) : Hp → List Addr → St → Ls → Prop := fun I m σ l => Locs K I m σ l
/-- what a target does with a value; an exception would leave with the locals as they were -/
def rdG (K : PySem.W.Frag) (W : WX) (g : MG) : TG := fun v σ H Q => ∃ I m l c d, Rel K I H m c ∧ Locs K I m σ l ∧ Rep K I m v d ∧ After (rL K) K I m H (fun cls dd H' => W cls dd σ H') Q (g d l c)
theorem PGi {tg : Expr} {t t' : TG} (h : PG X tg t) (w : ∀ v σ H Q, t' v σ H Q → t v σ H Q) : PG X tg t' := ⟨fun pins s σ H v u Q I r q => h.run pins s σ H v u Q I r (w v σ H Q q)⟩
def gN (i : Nat) : MG := fun d l c => .ok (l.set i (some d)) c
theorem mg_name {i : Nat} {x : Str} (hN : X.N.Nodup) (hi : X.N[i]? = some x) (hx : Loc X.env.scope x) (hf : X.fn x = true ∨ X.env.scope.names.lookup x = some .local := by first | exact .inl rfl | exact .inr rfl | assumption) : PG X (.Name x pos) (rdG X.K W (gN i)) :=
  PGi (pg_name hN hi hx hf) fun v σ H Q ⟨I, m, l, c, d, R, L, p, A⟩ => A.here R (L.set i p)
abbrev MGs := List D → Ls → Cs → R Ls
def rdGs (K : PySem.W.Frag) (W : WX) (g : MGs) : TGs := fun vs σ H Q => ∃ I m l c ds, Rel K I H m c ∧ Locs K I m σ l ∧ Reps K I m vs ds ∧ After (rL K) K I m H (fun cls dd H' => W cls dd σ H') Q (g ds l c)
theorem PGsi {tgs : List Expr} {t t' : TGs} (h : PGs X tgs t) (w : ∀ v σ H Q, t' v σ H Q → t v σ H Q) : PGs X tgs t' := ⟨fun pins s σ H v u Q I r q => h.run pins s σ H v u Q I r (w v σ H Q q)⟩
/-- a, b, .. = a tuple, all names -/
def gNs (js : List Nat) : MGs := fun ds l c => match js, ds with
  | [], [] => .ok l c
  | i :: js, d :: ds => gNs js ds (l.set i (some d)) c
  | _, _ => .stuck
theorem mgs_nil : PGs X [] (rdGs X.K W (gNs [])) := PGsi pgs_nil fun vs σ H Q ⟨I, m, l, c, ds, R, L, p, A⟩ => by
  cases p with
  | nil => exact ⟨rfl, A.here R L⟩
  | cons h t => exact A.elim
theorem mgs_cons {i : Nat} {x : Str} {js : List Nat} {p : Pos} (hN : X.N.Nodup) (hi : X.N[i]? = some x) (hx : Loc X.env.scope x) (h2 : PGs X es (rdGs X.K W (gNs js)))
    (hs : (assignEach (.Name x p :: es) X.env).map (·.2) = assign (.Name x p) X.env :: (assignEach es X.env).map (·.2) := by rfl)
    (hf : X.fn x = true ∨ X.env.scope.names.lookup x = some .local := by first | exact .inl rfl | exact .inr rfl | assumption) : PGs X (.Name x p :: es) (rdGs X.K W (gNs (i :: js))) :=
  PGsi (pgs_cons (pg_name hN hi hx hf) h2 hs) fun vs σ H Q ⟨I, m, l, c, ds, R, L, p, A⟩ => by
    cases p with
    | nil => exact A.elim
    | cons h t =>
      refine ⟨_, _, rfl, I, m, l.set i _, c, _, R, L.set i h, t, ?_⟩
      revert A
      show After (rL X.K) X.K I m H (fun cls dd H' => W cls dd σ H') Q (gNs js _ (l.set i _) c) → _
      have never : ∀ (js : List Nat) (ds : List D) (l : Ls) (c : Cs) (x : Ex) (c' : Cs), gNs js ds l c ≠ .exc x c' := by
        intro js
        induction js with
        | nil => intro ds l c x c' e; cases ds <;> cases e
        | cons i js ih =>
          intro ds l c x c' e
          cases ds with
          | nil => cases e
          | cons d ds => exact ih _ _ _ _ _ e
      intro A
      generalize hq : gNs js _ (l.set i _) c = r at A ⊢
      cases r with
      | stuck => exact A
      | ok _ _ => exact A
      | exc x c' => exact absurd hq (never _ _ _ _ _ _)
def gT (js : List Nat) : MG := fun d l c => match d with
  | .tup ds => if ds.length = js.length then gNs js ds l c else .stuck
  | _ => .stuck
theorem mg_tup {k : Nat} {js : List Nat} (hc : X.calm = true) (h : PGs X es (rdGs X.K W (gNs js)))
    (hn : (assignEach es X.env).length = js.length := by rfl) (hst : (assignEach es X.env).findIdx? (·.1) = none := by rfl) : PG X (.Tuple es k pos) (rdG X.K W (gT js)) :=
  PGi (pg_tup hc h hn hst) fun v σ H Q ⟨I, m, l, c, d, R, L, p, A⟩ => by
    cases p with
    | @tup a vs ds h r =>
      by_cases hl : ds.length = js.length
      · have A2 : After (rL X.K) X.K I m H (fun cls dd H' => W cls dd σ H') Q (if ds.length = js.length then gNs js ds l c else .stuck) := A
        rw [if_pos hl] at A2
        exact ⟨a, vs, rfl, sqT_same R.same h, r.length.trans hl, I, m, l, c, ds, R, L, r, A2⟩
      · have A2 : After (rL X.K) X.K I m H (fun cls dd H' => W cls dd σ H') Q (if ds.length = js.length then gNs js ds l c else .stuck) := A
        rw [if_neg hl] at A2
        exact A2.elim
    | _ => exact A.elim
/-- o[i] = v, at a list's cell -/
def putD (o i v : D) (c : Cs) : R Unit := match o, i with
  | .ref k, .int j => match c[k]? with
    | some (.lst ds) => match ixN ds.length j with
      | some n => .ok () (c.set k (.lst (ds.set n v)))
      | none => .stuck
    | _ => .stuck
  | _, _ => .stuck
def gS (o i : ME) : MG := fun d l c => (o l c).bind fun x c1 => (i l c1).bind fun y c2 => (putD x y d c2).bind fun _ c3 => .ok l c3
theorem mg_sub {tg : Expr} {fo fi : ME} (h : PG X tg (gSub (rdE X.K W fo) (rdE X.K W fi) rSetL)) : PG X tg (rdG X.K W (gS fo fi)) :=
  PGi h fun v σ H Q ⟨I, m, l, c, d, R, L, p, A⟩ => by
    refine ⟨I, m, l, c, R, L, After.mono (After.bind (rep := rD X.K) A) fun v1 H1 ⟨I1, m1, c1, d1, E1, R1, p1, A1⟩ => ?_⟩
    refine ⟨I1, m1, l, c1, R1, L.ext E1, After.mono (After.bind (rep := rD X.K) A1) fun v2 H2 ⟨I2, m2, c2, d2, E2, R2, p2, A2⟩ => ?_⟩
    have pd := Rep.ext (Rep.ext p E1) E2
    have L2 := (L.ext E1).ext E2
    have q1 := Rep.ext p1 E2
    cases q1 with
    | @ref k a hk =>
      cases p2 with
      | int j =>
        have A3 : After (rL X.K) X.K I2 m2 H2 (fun cls dd H' => W cls dd σ H') Q ((match c2[k]? with
          | some (.lst ds) => match ixN ds.length j with
            | some n => .ok () (c2.set k (.lst (ds.set n d)))
            | none => .stuck
          | _ => .stuck : Mi.R Unit).bind fun _ c3 => .ok l c3) := A2
        cases q : c2[k]? with
        | none => rw [q] at A3; exact A3.elim
        | some x =>
          rw [q] at A3
          cases x with
          | lst ds =>
            obtain ⟨n1, vs, h1, h2⟩ := R2.cell k a _ hk q
            cases q2 : ixN ds.length j with
            | none =>
              have A4 : After (rL X.K) X.K I2 m2 H2 (fun cls dd H' => W cls dd σ H') Q ((match ixN ds.length j with
                | some n => .ok () (c2.set k (.lst (ds.set n d)))
                | none => .stuck : Mi.R Unit).bind fun _ c3 => .ok l c3) := A3
              rw [q2] at A4
              exact A4.elim
            | some n =>
              have A4 : After (rL X.K) X.K I2 m2 H2 (fun cls dd H' => W cls dd σ H') Q ((match ixN ds.length j with
                | some n => .ok () (c2.set k (.lst (ds.set n d)))
                | none => .stuck : Mi.R Unit).bind fun _ c3 => .ok l c3) := A3
              rw [q2] at A4
              refine ⟨a, vs, j, n, rfl, rfl, h1, by rw [h2.length]; exact q2, ?_⟩
              obtain ⟨R3, E3⟩ := R2.put hk q (h2.set pd n)
              exact A4 I2 m2 _ σ E3 R3 (L2.ext E3)
          | _ => exact A3.elim
      | _ => exact A2.elim
    | _ => exact A2.elim
def sAsg (a : ME) (g : MG) : MS := fun l c => (a l c).seq l fun d c1 => (g d l c1).seq l fun l' c2 => .go (.nx l') c2
theorem asg_read {K : PySem.W.Frag} {g : MG} {D : Ends} {σ : St} {H : Hp} (h : rdS K W (sAsg fa g) D σ H) : tAsg (rdE K W fa) (rdG K W g) D σ H := by
  obtain ⟨I, m, l, c, R, L, A⟩ := h
  refine ⟨I, m, l, c, R, L, After.mono (AfterS.seq (rep := rD K) L A) fun v1 H1 ⟨I1, m1, c1, d1, E1, R1, p1, A1⟩ => ?_⟩
  refine ⟨I1, m1, l, c1, d1, R1, L.ext E1, p1, After.mono (AfterS.seq (rep := rL K) (L.ext E1) A1) fun v2 H2 ⟨I2, m2, c2, d2, E2, R2, p2, A2⟩ => ?_⟩
  exact A2 I2 m2 H2 v2 (Ext.refl _ _ _) R2 p2
theorem ms_asg {tg : Expr} {g : MG} (he : PE X e (rdE X.K W fa)) (hg : PG X tg (rdG X.K W g)) (hs : swapsWithSole [tg] e pos.line X.env = pure false := by rfl) (hw : swappedStores [tg] e X.env = pure none := by rfl)
    (h1 : (assignEach [tg] X.env).map (·.2) = [assign tg X.env] := by rfl) : PS X (.Assign [tg] e pos) (rdS X.K W (sAsg fa g)) := PSi (ps_asg he hg hs hw h1) fun _ _ _ h => asg_read h
/-- x = e -/
def sSet (i : Nat) (a : ME) : MS := fun l c => (a l c).seq l fun d c1 => .go (.nx (l.set i (some d))) c1
theorem ms_set {i : Nat} {x : Str} {p : Pos} (hN : X.N.Nodup) (hi : X.N[i]? = some x) (hx : Loc X.env.scope x) (he : PE X e (rdE X.K W fa)) (hs : swapsWith e (some (.Name x p)) pos.line X.env = pure false := by rfl)
    (hf : X.fn x = true ∨ X.env.scope.names.lookup x = some .local := by first | exact .inl rfl | exact .inr rfl | assumption) : PS X (.Assign [.Name x p] e pos) (rdS X.K W (sSet i fa)) :=
  PSi (ps_set hN hi hx he hs hf) fun D σ H ⟨I, m, l, c, R, L, A⟩ =>
    ⟨I, m, l, c, R, L, After.mono (AfterS.seq (rep := rD X.K) L A) fun v1 H1 ⟨I1, m1, c1, d1, E1, R1, p1, A1⟩ => A1 I1 m1 H1 _ (Ext.refl _ _ _) R1 ((L.ext E1).set i p1)⟩
/-- a, b = x, y; three of them: stored from the right, no tuple is made -/
def sPar (js : List Nat) (t : MA) : MS := fun l c => (t l c).seq l fun ds c1 => (gNs js ds l c1).seq l fun l' c2 => .go (.nx l') c2
theorem ms_par2 {i j : Nat} {x y : Str} {ga : MA} {px py pt : Pos} {kt k2 : Nat} {pt2 : Pos} (hc : X.calm = true) (hN : X.N.Nodup) (hi : X.N[i]? = some x) (hj : X.N[j]? = some y) (hij : i ≠ j)
    (hx : X.env.scope.names.lookup x = some .local) (hy : X.env.scope.names.lookup y = some .local) (ha : PA X [a, b] (rdA X.K W ga))
    (hw : swappedStores [.Tuple [.Name x px, .Name y py] kt pt] (.Tuple [a, b] k2 pt2) X.env = pure (some [x, y]))
    (hs : swapsWithSole [.Tuple [.Name x px, .Name y py] kt pt] (.Tuple [a, b] k2 pt2) pos.line X.env = pure false := by rfl) :
    PS X (.Assign [.Tuple [.Name x px, .Name y py] kt pt] (.Tuple [a, b] k2 pt2) pos) (rdS X.K W (sPar [i, j] ga)) := PSi (ps_par hc hN hi hj hij hx hy ha hw hs) fun D σ H ⟨I, m, l, c, R, L, A⟩ => by
  refine ⟨I, m, l, c, R, L, After.mono (AfterS.seq (rep := rA X.K) L A) fun v1 H1 ⟨I1, m1, c1, d1, E1, R1, p1, A1⟩ => ?_⟩
  cases p1 with
  | nil => exact A1.elim
  | cons h t =>
    cases t with
    | nil => exact A1.elim
    | cons h2 t2 =>
      cases t2 with
      | cons h3 t3 => exact A1.elim
      | nil => exact ⟨_, _, rfl, A1 I1 m1 H1 _ (Ext.refl _ _ _) R1 (((L.ext E1).set i h).set j h2)⟩
/-! ### what is walked -/
abbrev MI := Ls → Cs → R (List D)
/-- the items that an iterator gives, as trees -/
def Walks (K : PySem.W.Frag) (I : Hp) (m : List Addr) (J : It) (ds : List D) : Prop := ∀ (i : Nat) (I' H : Hp) (m' : List Addr) (c : Cs), Same I I' → Pre m m' → Rel K I' H m' c →
  (∀ d, ds[i]? = some d → J.go i H ∧ ∀ x H', J.yld i H x H' → ∃ I'', Ext I' m' H I'' m' H' ∧ Rel K I'' H' m' c ∧ Rep K I'' m' x d) ∧ (ds.length ≤ i → J.stop i H)
theorem Walks.ext {K : PySem.W.Frag} {I I1 H H1 : Hp} {m m1 : List Addr} {J : It} {ds : List D} (w : Walks K I m J ds) (e : Ext I m H I1 m1 H1) : Walks K I1 m1 J ds := fun i I' H m' c s p => w i I' H m' c (e.same.trans s) (e.pre.trans p)
def rI' (K : PySem.W.Frag) : Hp → List Addr → It → List D → Prop := fun I m J ds => Walks K I m J ds
def rdI (K : PySem.W.Frag) (W : WX) (f : MI) : TI := rd (rI' K) K W f
theorem PIi {tg it : Expr} {t t' : TI} (h : PI X tg it t) (w : ∀ σ H R, t' σ H R → t σ H R) : PI X tg it t' := ⟨fun pins s σ H R I q => h.run pins s σ H R I (w σ H R q)⟩
def iLst (a : ME) : MI := fun l c => (a l c).bind fun x c1 => match x with
  | .lst ds => .ok ds c1
  | .ro ds => .ok ds c1
  | _ => .stuck
theorem walks_list {K : PySem.W.Frag} {I : Hp} {m : List Addr} {a : Addr} {vs : List V} {ds : List D} (h : SqL K I a vs) (r : Reps K I m vs ds) : Walks K I m (Itl K a) ds := fun i I' H m' c s p R => by
  have hs : SqL K H a vs := R.same.seq (s.seq h)
  refine ⟨fun d hd => ?_, fun hl => ⟨vs, hs, by rw [r.length]; exact hl⟩⟩
  obtain ⟨v, hv, pv⟩ := r.get hd
  refine ⟨⟨vs, v, hs, hv⟩, fun x H' y => ?_⟩
  obtain ⟨e, y⟩ := y
  subst e
  have ev : x = v := by
    have z := y vs hs
    rw [hv] at z
    exact (Option.some.inj z).symm
  subst ev
  exact ⟨I', Ext.refl _ _ _, R, pv.mono s p⟩
end
end L2.Mi

namespace L2.Mi
open PySem PySem.Spec PyProof.Rows L2

/-! ### what is walked -/
section
variable {X : Cx} {W : WX} {tg e : Expr} {pos : Pos} {fa : ME} {ga : MA}
theorem mi_lst (h : PE X e (rdE X.K W fa)) : PI X tg e (rdI X.K W (iLst fa)) := PIi (pi_list h) fun σ H Q ⟨I, m, l, c, R, L, A⟩ =>
  ⟨I, m, l, c, R, L, After.mono (After.bind (rep := rD X.K) A) fun v1 H1 ⟨I1, m1, c1, d1, E1, R1, p1, A1⟩ => by
    cases p1 with
    | @lst a vs ds h r => exact ⟨a, rfl, ⟨vs, SqL.of (R1.same _ _ h)⟩, A1.here R1 (walks_list (SqL.of h) r)⟩
    | @ro a vs ds h r => exact ⟨a, rfl, ⟨vs, R1.same.seq h⟩, A1.here R1 (walks_list h r)⟩
    | _ => exact A1.elim⟩
def iTup' (a : ME) : MI := fun l c => (a l c).bind fun x c1 => match x with
  | .tup ds => .ok ds c1
  | _ => .stuck
theorem walks_tup {K : PySem.W.Frag} {I : Hp} {m : List Addr} {a : Addr} {vs : List V} {ds : List D} (h : SqT K I a vs) (r : Reps K I m vs ds) : Walks K I m (Itt K a) ds := fun i I' H m' c s p R => by
  have hs : SqT K H a vs := sqT_same R.same (sqT_same s h)
  refine ⟨fun d hd => ?_, fun hl => ⟨vs, hs, by rw [r.length]; exact hl⟩⟩
  obtain ⟨v, hv, pv⟩ := r.get hd
  refine ⟨⟨vs, v, hs, hv⟩, fun x H' y => ?_⟩
  obtain ⟨e, y⟩ := y
  subst e
  have ev : x = v := by
    have z := y vs hs
    rw [hv] at z
    exact (Option.some.inj z).symm
  subst ev
  exact ⟨I', Ext.refl _ _ _, R, pv.mono s p⟩
theorem mi_tup (h : PE X e (rdE X.K W fa)) : PI X tg e (rdI X.K W (iTup' fa)) := PIi (pi_tup h) fun σ H Q ⟨I, m, l, c, R, L, A⟩ =>
  ⟨I, m, l, c, R, L, After.mono (After.bind (rep := rD X.K) A) fun v1 H1 ⟨I1, m1, c1, d1, E1, R1, p1, A1⟩ => by
    cases p1 with
    | @tup a vs ds h r => exact ⟨a, rfl, ⟨vs, sqT_same R1.same h⟩, A1.here R1 (walks_tup h r)⟩
    | _ => exact A1.elim⟩
/-- the chrs of a text -/
def chrs (s : Str) : List D := s.cps.toList.map fun k => .str ⟨#[k]⟩
def iStr' (a : ME) : MI := fun l c => (a l c).bind fun x c1 => match x with
  | .str s => .ok (chrs s) c1
  | _ => .stuck
theorem walks_str {K : PySem.W.Frag} {I : Hp} {m : List Addr} {s : Str} : Walks K I m (Its s) (chrs s) := fun i I' H m' c _ _ R => by
  have hl : (chrs s).length = s.cps.size := by simp [chrs]
  refine ⟨fun d hd => ?_, fun h => by rw [hl] at h; exact h⟩
  have hi : i < s.cps.size := by rw [← hl]; exact (List.getElem?_eq_some_iff.mp hd).1
  refine ⟨hi, fun x H' y => ?_⟩
  obtain ⟨e, k, hk, ex⟩ := y
  subst e; subst ex
  refine ⟨I', Ext.refl _ _ _, R, ?_⟩
  have e2 : d = .str ⟨#[k]⟩ := by
    unfold chrs at hd
    rw [List.getElem?_map, Array.getElem?_toList, hk] at hd
    exact (Option.some.inj hd).symm
  rw [e2]
  exact .str _
/-- range(n), range(a, b) -/
def rangeL (lo : Int) (n : Nat) : List D := (List.range n).map fun i => .int (lo + (i : Nat))
theorem walks_rng {K : PySem.W.Frag} {I : Hp} {m : List Addr} {lo : Int} {n : Nat} : Walks K I m (Itr lo n) (rangeL lo n) := fun i I' H m' c _ _ R => by
  refine ⟨fun d hd => ?_, fun h => by simp [rangeL] at h; exact h⟩
  have hi : i < n := by have := (List.getElem?_eq_some_iff.mp hd).1; simpa [rangeL] using this
  refine ⟨hi, fun x H' y => ?_⟩
  obtain ⟨e, ex⟩ := y
  subst e; subst ex
  refine ⟨I', Ext.refl _ _ _, R, ?_⟩
  have e2 : d = .int (lo + (i : Nat)) := by
    unfold rangeL at hd
    rw [List.getElem?_map, List.getElem?_range hi] at hd
    exact (Option.some.inj hd).symm
  rw [e2]
  exact .int _
def small62 (i : Int) : Prop := -(2 ^ 62) ≤ i ∧ i < 2 ^ 62
instance : ∀ i, Decidable (small62 i) := fun i => inferInstanceAs (Decidable (-(2 ^ 62) ≤ i ∧ i < 2 ^ 62))
def iR1 (t : MA) : MI := fun l c => (t l c).bind fun xs c1 => match xs with
  | [.int j] => if small62 j then .ok (rangeL 0 j.toNat) c1 else .stuck
  | _ => .stuck
def iR2 (t : MA) : MI := fun l c => (t l c).bind fun xs c1 => match xs with
  | [.int i, .int j] => if small62 i ∧ small62 j then .ok (rangeL i (j - i).toNat) c1 else .stuck
  | _ => .stuck
theorem mi_r1 {it : Expr} (h : PI X tg it (iRng1 (rdA X.K W ga))) : PI X tg it (rdI X.K W (iR1 ga)) := PIi h fun σ H Q ⟨I, m, l, c, R, L, A⟩ =>
  ⟨I, m, l, c, R, L, After.mono (After.bind (rep := rA X.K) A) fun v1 H1 ⟨I1, m1, c1, d1, E1, R1, p1, A1⟩ => by
    cases p1 with
    | nil => exact A1.elim
    | cons h t =>
      cases t with
      | cons h2 t2 => cases h <;> exact A1.elim
      | nil =>
        cases h with
        | int j =>
          have A2 : After (rI' X.K) X.K I1 m1 H1 (fun cls dd H' => W cls dd σ H') Q (if small62 j then .ok (rangeL 0 j.toNat) c1 else .stuck) := A1
          by_cases hj : small62 j
          · rw [if_pos hj] at A2
            exact ⟨j, rfl, hj.1, hj.2, A2.here R1 walks_rng⟩
          · rw [if_neg hj] at A2
            exact A2.elim
        | _ => exact A1.elim⟩
end

/-! ### for -/
/-- the turns of a loop -/
def forD (g : MG) (f : MS) : List D → Ls → Cs → RS
  | [], l, c => .go (.nx l) c
  | d :: ds, l, c => (g d l c).seq l fun l1 c1 => match f l1 c1 with
    | .go (.nx l2) c2 => forD g f ds l2 c2
    | .go (.ct l2) c2 => forD g f ds l2 c2
    | .go (.bk l2) c2 => .go (.nx l2) c2
    | r => r
def sFor (it : MI) (g : MG) (f : MS) : MS := fun l c => (it l c).seq l fun ds c1 => forD g f ds l c1
theorem ms_for {X : Cx} {W : WX} {tg iter : Expr} {body : List Stmt} {pos : Pos} {fi : MI} {g : MG} {f : MS} (hp : PassesOwn (model X.prog X.w) X.A X.env X.xe) (hc : X.calm = true) (hi : PI X tg iter (rdI X.K W fi)) (hg : PG X tg (rdG X.K W g)) (hb : PSs X body (rdS X.K W f))
    (hs : ∀ x, foldedSetIterable iter X.env x = pure x := by intro _; rfl) : PS X (.For tg iter body [] pos) (rdS X.K W (sFor fi g f)) := PSi (ps_for hp hc hi hg hb hs) fun D σ H ⟨I, m, l, c, R, L, A⟩ => by
  refine ⟨I, m, l, c, R, L, After.mono (AfterS.seq (rep := rI' X.K) L A) fun J H1 ⟨I1, m1, c1, ds, E1, R1, w1, A1⟩ => ?_⟩
  refine ⟨fun i n σ H => ∃ I' m' l' c', n = ds.length - i ∧ Ext I1 m1 H1 I' m' H ∧ Rel X.K I' H m' c' ∧ Locs X.K I' m' σ l' ∧ AfterS X.K I' m' H W D (forD g f (ds.drop i) l' c'), ⟨_, I1, m1, l, c1, rfl, Ext.refl _ _ _, R1, L.ext E1, A1⟩, ?_⟩
  rintro i n σ' H' ⟨I', m', l', c', rfl, E', R', L', A'⟩
  obtain ⟨wg, ws⟩ := w1 i I' H' m' c' E'.same E'.pre R'
  cases q : ds[i]? with
  | none =>
    have hi : ds.length ≤ i := List.getElem?_eq_none_iff.mp q
    rw [List.drop_eq_nil_of_le hi] at A'
    exact .inl ⟨ws hi, A' I' m' H' σ' (Ext.refl _ _ _) R' L'⟩
  | some d =>
    have hi : i < ds.length := (List.getElem?_eq_some_iff.mp q).1
    have hd : ds.drop i = d :: ds.drop (i + 1) := by
      rw [List.drop_eq_getElem_cons hi, (List.getElem?_eq_some_iff.mp q).2]
    rw [hd] at A'
    obtain ⟨go, yl⟩ := wg d q
    refine .inr ⟨go, fun σ2 H2 => ∃ I2 m2 l2 c2, Ext I1 m1 H1 I2 m2 H2 ∧ Rel X.K I2 H2 m2 c2 ∧ Locs X.K I2 m2 σ2 l2 ∧ AfterS X.K I2 m2 H2 W D (forD g f (ds.drop (i + 1)) l2 c2),
      fun σ2 H2 ⟨I2, m2, l2, c2, e2, r2, L2, a2⟩ => ⟨ds.length - (i + 1), by omega, I2, m2, l2, c2, rfl, e2, r2, L2, a2⟩, fun x H3 y => ?_⟩
    obtain ⟨I3, E3, R3, p3⟩ := yl x H3 y
    have A3 := AfterS.ext E3 A'
    refine ⟨I3, m', l', c', d, R3, L'.ext E3, p3, After.mono (AfterS.seq (rep := rL X.K) (L'.ext E3) A3) fun σ4 H4 ⟨I4, m4, c4, l4, E4, R4, L4, A4⟩ => ?_⟩
    refine ⟨I4, m4, l4, c4, R4, L4, ?_⟩
    have EE := (E'.trans E3).trans E4
    have A5 : AfterS X.K I4 m4 H4 W D (match f l4 c4 with
      | .go (.nx l2) c2 => forD g f (ds.drop (i + 1)) l2 c2
      | .go (.ct l2) c2 => forD g f (ds.drop (i + 1)) l2 c2
      | .go (.bk l2) c2 => .go (.nx l2) c2
      | r => r) := A4
    cases qf : f l4 c4 with
    | stuck => rw [qf] at A5; exact A5
    | exc x l' c' => rw [qf] at A5; exact A5
    | go fl c5 =>
      rw [qf] at A5
      cases fl with
      | nx l5 => exact fun I6 m6 H6 σ6 e6 r6 L6 => ⟨I6, m6, l5, c5, EE.trans e6, r6, L6, AfterS.ext e6 A5⟩
      | ct l5 => exact fun I6 m6 H6 σ6 e6 r6 L6 => ⟨I6, m6, l5, c5, EE.trans e6, r6, L6, AfterS.ext e6 A5⟩
      | bk l5 => exact A5
      | rt d => exact A5
/-! ### while: at most n turns are followed -/
/-! ### list comprehensions -/
def R.nox {α : Type} (r : R α) : R α := match r with
  | .exc _ _ => .stuck
  | r => r
@[simp] theorem R.nox_ok {α : Type} (a : α) (c : Cs) : (R.ok a c).nox = .ok a c := rfl
theorem After.nox {α β : Type} {rep : Hp → List Addr → β → α → Prop} {K : PySem.W.Frag} {I H : Hp} {m : List Addr} {W W' : XK} {Q : β → Hp → Prop} {r : R α} (a : After rep K I m H W Q r.nox) : After rep K I m H W' Q r := by
  cases r with
  | stuck => exact a
  | ok d c => exact a
  | exc x c => exact a.elim
/-- .. where what follows is wanted from an earlier place -/
theorem After.bindAt {α β γ δ : Type} {rep : Hp → List Addr → β → α → Prop} {rep' : Hp → List Addr → δ → γ → Prop} {K : PySem.W.Frag} {I I1 H H1 : Hp} {m m1 : List Addr} {W : XK} {Q : δ → Hp → Prop} {r : R α} {f : α → Cs → R γ}
    (a : After rep' K I m H W Q (r.bind f)) (e : Ext I m H I1 m1 H1) : After rep K I1 m1 H1 W (fun v H2 => ∃ I2 m2 c2 x, Ext I1 m1 H1 I2 m2 H2 ∧ Rel K I2 H2 m2 c2 ∧ rep I2 m2 v x ∧ After rep' K I m H W Q (f x c2)) r := by
  cases r with
  | stuck => exact a
  | ok d c => exact fun I' m' H' v e' r' p => ⟨I', m', c, d, e', r', p, a⟩
  | exc x c => exact After.ext (rep := rep') (r := (.exc x c)) e a
def compD (g : MG) (t : MT) (e : ME) (lw : Ls) : List D → List D → Cs → R (List D)
  | [], acc, c => .ok acc c
  | d :: ds, acc, c => (g d lw c).nox.bind fun l1 c1 => (t l1 c1).nox.bind fun k c2 => match k with
    | true => (e l1 c2).nox.bind fun x c3 => if acc.length < sizeLine then compD g t e lw ds (acc ++ [x]) c3 else .stuck
    | false => compD g t e lw ds acc c2
def wipeL (l : Ls) : List Nat → Ls
  | [] => l
  | v :: vs => (wipeL l vs).set v none
def mLc (it : MI) (js : List Nat) (g : MG) (t : MT) (e : ME) : ME := fun l c => (it l c).bind fun ds c1 => (compD g t e (wipeL l js) ds [] c1).bind fun xs c2 => .ok (.lst xs) c2
def tYesM : MT := fun _ c => .ok true c
theorem locs_wipe {K : PySem.W.Frag} {I : Hp} {m : List Addr} {σ : St} {l : Ls} (L : Locs K I m σ l) : ∀ js : List Nat, Locs K I m (wipe σ js) (wipeL l js)
  | [] => L
  | j :: js => by
    have q := locs_wipe L js
    refine ⟨by unfold wipe wipeL; rw [List.length_set, List.length_set, q.len], fun i d h => ?_⟩
    unfold wipeL at h
    unfold wipe
    by_cases hi : j = i
    · subst hi
      by_cases hl : j < (wipeL l js).length
      · rw [List.getElem?_set_self hl] at h; cases h
      · rw [List.getElem?_eq_none (by simpa using hl)] at h; cases h
    · rw [List.getElem?_set_ne hi] at h ⊢
      exact q.at_ i d h
/-- another object is laid, or changed, that is none of ours -/
theorem Rel.side {K : PySem.W.Frag} {I H : Hp} {m : List Addr} {c : Cs} {p : Addr} {vs ws : List V} (r : Rel K I H m c) (hH : H p = none ∨ H p = some (.lst vs)) (hI : I p = none) (hm : p ∉ m) : Rel K I (upd H p (.lst ws)) m c := by
  refine ⟨fun b o e => ?_, r.len, r.nd, fun k a x h1 h2 => ?_, r.tabs.upH (hH.elim nt_none fun z => nt_some z ⟨(fun _ z => nomatch z), (fun _ z => nomatch z)⟩)⟩
  · rw [upd_ne (ne_of_none e hI)]
    exact r.same _ _ e
  · have na : a ≠ p := fun e => hm (e ▸ List.mem_of_getElem? h1)
    have q := r.cell k a x h1 h2
    cases x with
    | lst es =>
      obtain ⟨q1, us, q2, q3⟩ := q
      exact ⟨q1, us, by rw [upd_ne na]; exact q2, q3⟩
    | dct es =>
      obtain ⟨q1, us, q2, q3⟩ := q
      exact ⟨q1, us, by rw [upd_ne na]; exact q2, q3⟩
    | dT es =>
      obtain ⟨q1, us, q2, q3⟩ := q
      exact ⟨q1, us, by rw [upd_ne na]; exact q2, q3⟩
    | dTz es => exact q
    | ins C es =>
      obtain ⟨q1, dx, us, q2, q3, q4, q5, q6⟩ := q
      have nd : dx ≠ p := by
        rcases hH with z | z
        · exact ne_of_none q4 z
        · exact ne_of q4 z (by intro y; cases y)
      exact ⟨q1, dx, us, q2, q3, by rw [upd_ne nd]; exact q4, q5.imp fun _ z => ⟨z.1, by rw [upd_ne na]; exact z.2⟩, q6⟩
    | frz d => exact q
/-- it becomes one that never changes -/
theorem Rel.adopt {K : PySem.W.Frag} {I H : Hp} {m : List Addr} {c : Cs} {p : Addr} {vs : List V} (r : Rel K I H m c) (hH : H p = some (.lst vs)) (hI : I p = none) (hm : p ∉ m) : Rel K (upd I p (.lst vs)) H m c := by
  have sI : Same I (upd I p (.lst vs)) := fun b o e => by rw [upd_ne (ne_of_none e hI)]; exact e
  refine ⟨fun b o e => ?_, r.len, r.nd, fun k a x h1 h2 => ?_, r.tabs.upI (nt_some hH ⟨(fun _ z => nomatch z), (fun _ z => nomatch z)⟩)⟩
  · by_cases hb : b = p
    · subst hb
      rw [upd_same] at e
      cases e
      exact hH
    · rw [upd_ne hb] at e
      exact r.same _ _ e
  · have na : a ≠ p := fun e => hm (e ▸ List.mem_of_getElem? h1)
    have q := r.cell k a x h1 h2
    cases x with
    | lst es =>
      obtain ⟨q1, us, q2, q3⟩ := q
      exact ⟨by rw [upd_ne na]; exact q1, us, q2, q3.mono sI (Pre.refl m)⟩
    | dct es =>
      obtain ⟨q1, us, q2, q3⟩ := q
      exact ⟨by rw [upd_ne na]; exact q1, us, q2, q3.mono sI (Pre.refl m)⟩
    | dT es =>
      obtain ⟨q1, us, q2, q3⟩ := q
      exact ⟨by rw [upd_ne na]; exact q1, us, q2, q3.mono sI (Pre.refl m)⟩
    | dTz es => exact q.imp (fun _ y => y.imp fun _ y => ⟨sI _ _ y.1, y.2.mono sI (Pre.refl m)⟩)
    | ins C es =>
      obtain ⟨q1, dx, us, q2, q3, q4, q5, q6⟩ := q
      exact ⟨by rw [upd_ne na]; exact q1, dx, us, by rw [upd_ne (ne_of q4 hH (by intro y; cases y))]; exact q2, q3, q4, q5, q6.mono sI (Pre.refl m)⟩
    | frz d => exact ⟨by rw [upd_ne na]; exact q.1, q.2.mono sI (Pre.refl m)⟩
/-- a block's target: it stores at the block's own places alone -/
def Good (g0 : TG) (js : List Nat) : Prop := ∀ (v : V) (σ : St) (H : Hp) (Q : St → Hp → Prop), g0 v (wipe σ js) H Q → g0 v (wipe σ js) H fun σ2 H2 => wipe σ2 js = wipe σ js ∧ Q σ2 H2
theorem wipe_get (σ : St) (i : Nat) : ∀ js : List Nat, (wipe σ js)[i]? = if i ∈ js then (if i < σ.length then some none else none) else σ[i]?
  | [] => by simp [wipe]
  | j :: js => by
    unfold wipe
    by_cases hj : j = i
    · subst hj
      by_cases hl : j < σ.length
      · rw [List.getElem?_set_self (by rw [wipe_length]; exact hl)]
        simp [hl]
      · rw [List.getElem?_eq_none (by rw [List.length_set, wipe_length]; omega)]
        simp [hl]
    · rw [List.getElem?_set_ne hj, wipe_get σ i js]
      have : i ∈ j :: js ↔ i ∈ js := by simp [Ne.symm hj]
      simp [this]
theorem wipe_again (σ : St) (js : List Nat) : wipe (wipe σ js) js = wipe σ js := by
  apply List.ext_getElem?
  intro i
  rw [wipe_get, wipe_length, wipe_get]
  by_cases h : i ∈ js <;> simp [h]
theorem wipe_set (σ : St) (js : List Nat) {i : Nat} (h : i ∈ js) (x : Option V) : wipe (σ.set i x) js = wipe σ js := by
  apply List.ext_getElem?
  intro k
  rw [wipe_get, wipe_get, List.length_set]
  by_cases hk : k ∈ js
  · simp [hk]
  · have : i ≠ k := fun e => hk (e ▸ h)
    simp [hk, List.getElem?_set_ne this]
theorem good_name {i : Nat} {js : List Nat} (h : i ∈ js) : Good (gName i) js := fun v σ H Q q => ⟨by rw [wipe_set _ _ h, wipe_again], q⟩
theorem good_names {K : PySem.W.Frag} {n : Nat} {i j : Nat} {js : List Nat} (h : i ∈ js) (h2 : j ∈ js) : Good (gTup K n (gCons (gName i) (gCons (gName j) gNil))) js := fun v σ H Q ⟨a, xs, e, hs, hl, v1, r1, e1, v2, r2, e2, e3, q⟩ =>
  ⟨a, xs, e, hs, hl, v1, r1, e1, v2, r2, e2, e3, by rw [wipe_set _ _ h2, wipe_set _ _ h, wipe_again], q⟩
def W0 : WX := fun _ _ _ _ => False
theorem takesW0 {X : Cx} : Takes X W0 := fun u s' ⟨_, _, _, _, _, _, _, _, _, _, _, _, _, _, _, _, z⟩ => z.elim
theorem lc_read {K : PySem.W.Frag} {W : WX} {fi : MI} {g : MG} {ft : MT} {fe : ME} {js : List Nat} {g0 : TG} (good : Good g0 js) (rg : ∀ v σ H Q, rdG K W0 g v σ H Q → g0 v σ H Q) {σ : St} {H : Hp} {Q : VK} (h : rdE K W (mLc fi js g ft fe) σ H Q) :
    tLc (rdI K W fi) g0 (rdT K W0 ft) (rdE K W0 fe) js σ H Q := by
  obtain ⟨I, m, l, c, R, L, A⟩ := h
  refine ⟨I, m, l, c, R, L, After.mono (After.bind (rep := rI' K) A) fun J H1 ⟨I1, m1, c1, ds, E1, R1, w1, A1⟩ => ?_⟩
  intro Dn hD
  have nI := R1.same.free hD
  have nm := R1.fresh hD
  refine ⟨fun i n H => ∃ I' m' c' acc vs, n = ds.length - i ∧ Ext I1 m1 H1 I' m' H ∧ Rel K I' H m' c' ∧ Reps K I' m' vs acc ∧ H Dn = some (.lst vs) ∧ I' Dn = none ∧ Dn ∉ m' ∧
    After (rD K) K I1 m1 H1 (fun cls dd H' => W cls dd σ H') Q ((compD g ft fe (wipeL l js) (ds.drop i) acc c').bind fun xs c2 => .ok (.lst xs) c2),
    ⟨_, I1, m1, c1, [], [], rfl, ⟨Same.refl _, Pre.refl _, fun b o h1 hT h2 h3 => ⟨by rw [upd_ne (ne_of_none h1 hD)]; exact h1, h2, h3⟩⟩, R1.side (vs := []) (.inl hD) nI nm, .nil, upd_same, nI, nm, A1⟩, ?_⟩
  rintro i n H' ⟨I', m', c', acc, vs, rfl, E', R', p', hH', hI', hm', A'⟩
  obtain ⟨wg, ws⟩ := w1 i I' H' m' c' E'.same E'.pre R'
  cases q : ds[i]? with
  | none =>
    have hi : ds.length ≤ i := List.getElem?_eq_none_iff.mp q
    rw [List.drop_eq_nil_of_le hi] at A'
    refine .inl ⟨ws hi, ?_⟩
    have sI : Same I' (upd I' Dn (.lst vs)) := fun b o e => by rw [upd_ne (ne_of_none e hI')]; exact e
    refine A' (upd I' Dn (.lst vs)) m' H' (.ref Dn) ⟨E'.same.trans sI, E'.pre, fun b o h1 hT h2 h3 => ?_⟩ (R'.adopt hH' hI' hm') (.lst upd_same (p'.mono sI (Pre.refl _)))
    obtain ⟨q1, q2, q3⟩ := E'.fr b o h1 hT h2 h3
    exact ⟨q1, by rw [upd_ne (ne_of_none h1 hD)]; exact q2, q3⟩
  | some d =>
    have hi : i < ds.length := (List.getElem?_eq_some_iff.mp q).1
    have hd : ds.drop i = d :: ds.drop (i + 1) := by
      rw [List.drop_eq_getElem_cons hi, (List.getElem?_eq_some_iff.mp q).2]
    rw [hd] at A'
    obtain ⟨go, yl⟩ := wg d q
    refine .inr ⟨go, fun H2 => ∃ I2 m2 c2 acc2 vs2, Ext I1 m1 H1 I2 m2 H2 ∧ Rel K I2 H2 m2 c2 ∧ Reps K I2 m2 vs2 acc2 ∧ H2 Dn = some (.lst vs2) ∧ I2 Dn = none ∧ Dn ∉ m2 ∧
      After (rD K) K I1 m1 H1 (fun cls dd H' => W cls dd σ H') Q ((compD g ft fe (wipeL l js) (ds.drop (i + 1)) acc2 c2).bind fun xs c2 => .ok (.lst xs) c2),
      fun H2 ⟨I2, m2, c2, acc2, vs2, e2, r2, pp2, h2, i2, n2, a2⟩ => ⟨ds.length - (i + 1), by omega, I2, m2, c2, acc2, vs2, rfl, e2, r2, pp2, h2, i2, n2, a2⟩, fun x H3 y => ?_⟩
    obtain ⟨I3, E3, R3, p3⟩ := yl x H3 y
    have Lw := ((locs_wipe L js).ext E1).ext (E'.trans E3)
    have A3 : After (rD K) K I1 m1 H1 (fun cls dd H' => W cls dd σ H') Q (((g d (wipeL l js) c').nox.bind fun l1 c1 => (ft l1 c1).nox.bind fun k c2 => match k with
      | true => (fe l1 c2).nox.bind fun x c3 => if acc.length < sizeLine then compD g ft fe (wipeL l js) (ds.drop (i + 1)) (acc ++ [x]) c3 else .stuck
      | false => compD g ft fe (wipeL l js) (ds.drop (i + 1)) acc c2).bind fun xs c2 => .ok (.lst xs) c2) := A'
    have asc : ∀ {α β γ : Type} (r : Mi.R α) (f : α → Cs → Mi.R β) (h : β → Cs → Mi.R γ), (r.bind f).bind h = r.bind fun a c => (f a c).bind h := fun r f h => by cases r <;> rfl
    rw [asc] at A3
    refine good x σ H3 _ (rg _ _ _ _ ⟨I3, m', wipeL l js, c', d, R3, Lw, p3, After.mono (After.nox (After.bindAt (rep := rL K) A3 (E'.trans E3))) fun σ4 H4 ⟨I4, m4, c4, l4, E4, R4, L4, A4⟩ => ?_⟩)
    rw [asc] at A4
    have EE := (E'.trans E3).trans E4
    refine ⟨I4, m4, l4, c4, R4, L4, After.mono (After.nox (After.bindAt (rep := rB) A4 EE)) fun b H5 ⟨I5, m5, c5, b5, E5, R5, p5, A5⟩ => ?_⟩
    cases (show b = b5 from p5)
    have F5 := (E3.trans E4).trans E5
    cases b with
    | false =>
      obtain ⟨f1, f2, f3⟩ := F5.fr _ _ hH' ⟨⟨(fun _ z => nomatch z), (fun _ z => nomatch z)⟩, (fun _ z => nomatch z)⟩ hI' hm'
      exact iteF ⟨I5, m5, c5, acc, vs, EE.trans E5, R5, p'.ext F5, f1, f2, f3, A5⟩
    | true =>
      have A6 : After (rD K) K I1 m1 H1 (fun cls dd H' => W cls dd σ H') Q (((fe l4 c5).nox.bind fun x c3 => if acc.length < sizeLine then compD g ft fe (wipeL l js) (ds.drop (i + 1)) (acc ++ [x]) c3 else .stuck).bind fun xs c2 => .ok (.lst xs) c2) := A5
      rw [asc] at A6
      have L4' : Locs K I4 m4 σ4 l4 := L4
      refine iteT ⟨I5, m5, l4, c5, R5, L4'.ext E5, After.mono (After.nox (After.bindAt (rep := rD K) A6 (EE.trans E5))) fun z H7 ⟨I7, m7, c7, d7, E7, R7, p7, A7⟩ => ?_⟩
      have F7 := F5.trans E7
      obtain ⟨f1, f2, f3⟩ := F7.fr _ _ hH' ⟨⟨(fun _ z => nomatch z), (fun _ z => nomatch z)⟩, (fun _ z => nomatch z)⟩ hI' hm'
      by_cases hz : acc.length < sizeLine
      · have A8 : After (rD K) K I1 m1 H1 (fun cls dd H' => W cls dd σ H') Q ((if acc.length < sizeLine then compD g ft fe (wipeL l js) (ds.drop (i + 1)) (acc ++ [d7]) c7 else .stuck).bind fun xs c2 => .ok (.lst xs) c2) := A7
        rw [if_pos hz] at A8
        refine ⟨vs, f1, by rw [p'.length]; exact hz, I7, m7, c7, acc ++ [d7], vs ++ [z], ?_, R7.side (.inr f1) f2 f3, (p'.ext F7).append (.cons p7 .nil), upd_same, f2, f3, A8⟩
        have G := (EE.trans E5).trans E7
        refine ⟨G.same, G.pre, fun b o h1 hT h2 h3 => ?_⟩
        obtain ⟨q1, q2, q3⟩ := G.fr b o h1 hT h2 h3
        exact ⟨by rw [upd_ne (ne_of_none h1 hD)]; exact q1, q2, q3⟩
      · have A8 : After (rD K) K I1 m1 H1 (fun cls dd H' => W cls dd σ H') Q ((if acc.length < sizeLine then compD g ft fe (wipeL l js) (ds.drop (i + 1)) (acc ++ [d7]) c7 else .stuck).bind fun xs c2 => .ok (.lst xs) c2) := A7
        rw [if_neg hz] at A8
        exact A8.elim
end L2.Mi

namespace L2.Mi
open PySem PySem.Spec PyProof.Rows L2

section
variable {K : PySem.W.Frag}
/-! ### isinstance, of built-in types -/
def tyD (d : D) (c : Cs) : Option String := match d with
  | .non => some "NoneType"
  | .bl _ => some "bool"
  | .int _ => some "int"
  | .str _ => some "str"
  | .lst _ => some "list"
  | .ro _ => some "list"
  | .tup _ => some "tuple"
  | .dct _ => some "dict"
  | .ref k => match c[k]? with
    | some (.lst _) => some "list"
    | some (.dct _) => some "dict"
    | some (.frz (.lst _)) => some "list"
    | _ => none
  | _ => none
def tyNames : List String := ["NoneType", "bool", "int", "str", "list", "tuple", "dict"]
def isT (t n : String) : Bool := t == n || (t == "bool" && n == "int")
theorem kit_tab : ∀ t ∈ tyNames, ∀ n ∈ tyNames, kitB t n = some (isT t n) := by decide +kernel
theorem tyD_mem {d : D} {c : Cs} {t : String} (h : tyD d c = some t) : t ∈ tyNames := by
  unfold tyD at h
  split at h <;> first
    | (cases h; decide)
    | (split at h <;> first | (cases h; decide) | cases h)
    | cases h
theorem tyL {I H : Hp} {m : List Addr} {a : Addr} {vs : List V} (s : Same I H) (h : SqL K I a vs) : TyX K H (.ref a) (.type "list") := by
  rcases s.seq h with (h | ⟨o, h⟩) | ⟨o, its, n, h1, h2, _⟩
  · exact .base (.lst h)
  · exact .base (.frz h)
  · exact .kList h1 h2
theorem tyT {I H : Hp} {m : List Addr} {a : Addr} {vs : List V} (s : Same I H) (h : SqT K I a vs) : TyX K H (.ref a) (.type "tuple") := by
  rcases sqT_same s h with (h | ⟨o, h⟩) | ⟨o, its, n, h1, h2, _⟩
  · exact .base (.tup h)
  · exact .fTuple h
  · exact .kTuple h1 h2
theorem tyD_is {I H : Hp} {m : List Addr} {c : Cs} {v : V} {d : D} {t : String} (R : Rel K I H m c) (p : Rep K I m v d) (h : tyD d c = some t) : TyX K H v (.type t) := by
  cases p with
  | non => cases h; exact .base .non
  | bl b => cases h; exact .base (.bl b)
  | int i => cases h; exact .base (.int i)
  | str s => cases h; exact .base (.str s)
  | lst q r => cases h; exact .base (.lst (R.same _ _ q))
  | ro q r => cases h; exact tyL (m := m) R.same q
  | tup q r => cases h; exact tyT (m := m) R.same q
  | dct q r => cases h; exact .base (.dK (R.same _ _ q))
  | @ref k a q =>
    have h : (match c[k]? with
      | some (.lst _) => some "list"
      | some (.dct _) => some "dict"
      | some (.frz (.lst _)) => some "list"
      | _ => none) = some t := h
    cases e : c[k]? with
    | none => rw [e] at h; cases h
    | some x =>
      rw [e] at h
      have hc := R.cell k a x q e
      cases x with
      | lst ds => cases h; obtain ⟨_, vs, h1, _⟩ := hc; exact .base (.lst h1)
      | dct ds => cases h; obtain ⟨_, vs, h1, _⟩ := hc; exact .base (.dK h1)
      | frz d =>
        cases d with
        | lst ds =>
          cases h
          obtain ⟨_, hr⟩ := hc
          cases hr with
          | lst h1 h2 => exact .base (.lst (R.same _ _ h1))
        | _ => cases h
      | _ => cases h
  | _ => cases h
/-- the classes that are asked: one, or a tuple of them -/
def clsL : List D → Option (List String)
  | [] => some []
  | .ty n :: r => match clsL r with
    | some ns => some (n :: ns)
    | none => none
  | _ :: _ => none
def isiAny (t : String) (ns : List String) : Bool := ns.any fun n => isT t n
def isiD : List D → Cs → R D
  | [x, .ty n], c => match tyD x c with
    | some t => if n ∈ tyNames then .ok (.bl (isT t n)) c else .stuck
    | none => .stuck
  | [x, .tup cs], c => match tyD x c with
    | some t => match clsL cs with
      | some ns => if (∀ n ∈ ns, n ∈ tyNames) then .ok (.bl (isiAny t ns)) c else .stuck
      | none => .stuck
    | none => .stuck
  | _, _ => .stuck
/-- .. of a tuple of classes that stands anywhere -/
def rIsiQ (K : PySem.W.Frag) : List V → Hp → VK → Prop := fun xs H Q => ∃ (x : V) (tp : Addr) (cs : List V) (t : Value) (us : List Value) (b : Bool), xs = [x, .ref tp] ∧ SqT K H tp cs ∧ Paired ClsV cs us ∧ TyX K H x t ∧ PySem.W.kitAny K t us = some b ∧ Q (.bl b) H
theorem call_isiQ {X : Cx} : CallR X (.builtin "isinstance") (rIsiQ X.K) := fun pins s σ H xs us Q I r h => by
  obtain ⟨x, tp, cs, t, ws, b, rfl, hT, k, ty, e, q⟩ := h
  obtain ⟨u1, u2, rfl, r1, r2⟩ := vals2 r
  cases (show u2 = Value.ref tp from r2)
  obtain ⟨P, Z, p, hx⟩ := kit_of I r1 ty
  obtain ⟨its, rv, ⟨o, h1, h2, n, h3⟩, _⟩ := I.tuple hT
  cases ClsV.all k rv
  obtain ⟨oc, od, dt, sl⟩ := o
  cases h2
  cases h3
  exact PySem.W.kia_tup Z I.kIn p h1 e hx fun tk => ⟨.bl b, H, I.tok tk, rfl, q⟩
def rIsiA (K : PySem.W.Frag) : List V → Hp → VK → Prop := fun xs H Q => rIsi K xs H Q ∨ rIsiQ K xs H Q
theorem call_isiA {X : Cx} : CallR X (.builtin "isinstance") (rIsiA X.K) := call_isi.or call_isiQ
theorem kitAny_tab (K : PySem.W.Frag) {t : String} (ht : t ∈ tyNames) : ∀ {ns : List String}, (∀ n ∈ ns, n ∈ tyNames) → PySem.W.kitAny K (.type t) (ns.map Value.type) = some (isiAny t ns)
  | [], _ => rfl
  | n :: ns, h => by
    have h1 := kit_tab t ht n (h n List.mem_cons_self)
    have h2 := kitAny_tab K ht (ns := ns) fun k hk => h k (List.mem_cons_of_mem _ hk)
    have e : isiAny t (n :: ns) = (isT t n || isiAny t ns) := rfl
    refine kitAny_cons (kit_ty h1) (fun hb => ?_) (fun hb => by rw [e, hb]; rfl)
    rw [h2, e, hb]
    rfl
theorem cls_paired {I : Hp} {m : List Addr} : ∀ {vs : List V} {ds : List D} {ns : List String}, Reps K I m vs ds → clsL ds = some ns → Paired ClsV vs (ns.map Value.type)
  | _, _, _, .nil, e => by cases e; exact .nil
  | _, _, _, .cons (d := d) (ds := ds) h t, e => by
    cases h with
    | ty n =>
      unfold clsL at e
      cases q : clsL ds with
      | none => rw [q] at e; cases e
      | some ks => rw [q] at e; cases e; exact .cons (.ty n) (cls_paired t q)
    | _ => simp [clsL] at e
theorem cs_isi : CallS K (rIsiA K) isiD := fun I H m c vs ds W Q R p A => by
  cases p with
  | nil => exact A.elim
  | @cons v _ d _ h t =>
    cases t with
    | nil => exact A.elim
    | @cons v2 _ d2 _ h2 t2 =>
      cases t2 with
      | cons _ _ => cases h2 <;> exact A.elim
      | nil =>
        cases h2 with
        | ty n =>
          have A2 : After (rD K) K I m H W Q (match tyD d c with
            | some t => if n ∈ tyNames then .ok (.bl (isT t n)) c else .stuck
            | none => .stuck) := A
          cases e : tyD d c with
          | none => rw [e] at A2; exact A2.elim
          | some t =>
            rw [e] at A2
            by_cases hn : n ∈ tyNames
            · have A3 : After (rD K) K I m H W Q (if n ∈ tyNames then .ok (.bl (isT t n)) c else .stuck) := A2
              rw [if_pos hn] at A3
              exact .inl ⟨v, .ty n, .type t, .type n, _, rfl, .ty n, tyD_is R h e, kit_ty (kit_tab t (tyD_mem e) n hn), A3.here R (.bl _)⟩
            · have A3 : After (rD K) K I m H W Q (if n ∈ tyNames then .ok (.bl (isT t n)) c else .stuck) := A2
              rw [if_neg hn] at A3
              exact A3.elim
        | @tup tp ws cs hs hr =>
          have A2 : After (rD K) K I m H W Q (match tyD d c with
            | some t => match clsL cs with
              | some ns => if (∀ n ∈ ns, n ∈ tyNames) then .ok (.bl (isiAny t ns)) c else .stuck
              | none => .stuck
            | none => .stuck) := A
          cases e : tyD d c with
          | none => rw [e] at A2; exact A2.elim
          | some t =>
            rw [e] at A2
            cases e2 : clsL cs with
            | none =>
              have A3 : After (rD K) K I m H W Q (match clsL cs with
                | some ns => if (∀ n ∈ ns, n ∈ tyNames) then .ok (.bl (isiAny t ns)) c else .stuck
                | none => .stuck) := A2
              rw [e2] at A3
              exact A3.elim
            | some ns =>
              have A3 : After (rD K) K I m H W Q (match clsL cs with
                | some ns => if (∀ n ∈ ns, n ∈ tyNames) then .ok (.bl (isiAny t ns)) c else .stuck
                | none => .stuck) := A2
              rw [e2] at A3
              by_cases hn : ∀ n ∈ ns, n ∈ tyNames
              · have A4 : After (rD K) K I m H W Q (if (∀ n ∈ ns, n ∈ tyNames) then .ok (.bl (isiAny t ns)) c else .stuck) := A3
                rw [if_pos hn] at A4
                have hq := A4.here R (Rep.bl _)
                exact .inr ⟨v, tp, ws, .type t, ns.map Value.type, _, rfl, sqT_same R.same hs, cls_paired hr e2, tyD_is R h e, kitAny_tab K (tyD_mem e) hn, hq⟩
              · have A4 : After (rD K) K I m H W Q (if (∀ n ∈ ns, n ∈ tyNames) then .ok (.bl (isiAny t ns)) c else .stuck) := A3
                rw [if_neg hn] at A4
                exact A4.elim
        | _ => exact A.elim
end
end L2.Mi

namespace L2.Mi
open PySem PySem.Spec PyProof.Rows L2

section
variable {K : PySem.W.Frag}
theorem one_arg {I H : Hp} {m : List Addr} {c : Cs} {W : XK} {Q : VK} {vs : List V} {ds : List D} {G : List D → Cs → R D} (g : D → Cs → R D) (h0 : ∀ c, G [] c = .stuck) (h1 : ∀ x c, G [x] c = g x c) (h2 : ∀ x y r c, G (x :: y :: r) c = .stuck)
    (p : Reps K I m vs ds) (A : After (rD K) K I m H W Q (G ds c)) : ∃ v d, vs = [v] ∧ ds = [d] ∧ Rep K I m v d ∧ After (rD K) K I m H W Q (g d c) := by
  cases p with
  | nil => rw [h0] at A; exact A.elim
  | cons h t =>
    cases t with
    | nil => rw [h1] at A; exact ⟨_, _, rfl, rfl, h, A⟩
    | cons h' t' => rw [h2] at A; exact A.elim
def on1 (g : D → Cs → R D) : List D → Cs → R D
  | [x], c => g x c
  | _, _ => .stuck
theorem on1_arg {I H : Hp} {m : List Addr} {c : Cs} {W : XK} {Q : VK} {vs : List V} {ds : List D} {g : D → Cs → R D} (p : Reps K I m vs ds) (A : After (rD K) K I m H W Q (on1 g ds c)) : ∃ v d, vs = [v] ∧ ds = [d] ∧ Rep K I m v d ∧ After (rD K) K I m H W Q (g d c) :=
  one_arg g (fun _ => rfl) (fun _ _ => rfl) (fun _ _ _ _ => rfl) p A

/-! ### repr -/
/-! ### all, any of a list of bools -/
def blsOf : List D → Option (List Bool)
  | [] => some []
  | .bl b :: r => match blsOf r with
    | some bs => some (b :: bs)
    | none => none
  | _ :: _ => none
theorem bls_reps {I : Hp} {m : List Addr} : ∀ {vs : List V} {ds : List D} {bs : List Bool}, Reps K I m vs ds → blsOf ds = some bs → vs = bs.map V.bl
  | _, _, _, .nil, e => by cases e; rfl
  | _, _, _, .cons (d := d) (ds := ds) h t, e => by
    cases h with
    | bl b =>
      unfold blsOf at e
      cases q : blsOf ds with
      | none => rw [q] at e; cases e
      | some ks => rw [q] at e; cases e; rw [bls_reps t q]; rfl
    | _ => simp [blsOf] at e
def allP (f : List Bool → Bool) (d : D) (c : Cs) : R D := match d with
  | .lst ds => match blsOf ds with
    | some bs => .ok (.bl (f bs)) c
    | none => .stuck
  | _ => .stuck
def allD : List D → Cs → R D := on1 (allP fun bs => bs.all id)
theorem all_read {I H : Hp} {m : List Addr} {c : Cs} {W : XK} {Q : VK} {vs : List V} {ds : List D} {f : List Bool → Bool} (R : Rel K I H m c) (p : Reps K I m vs ds) (A : After (rD K) K I m H W Q (on1 (allP f) ds c)) : ∃ (a : Addr) (bs : List Bool), vs = [V.ref a] ∧ SqL K H a (bs.map V.bl) ∧ Q (.bl (f bs)) H := by
  obtain ⟨v, d, rfl, rfl, p, A⟩ := on1_arg p A
  cases p with
  | @lst a ws es h r =>
    have A2 : After (rD K) K I m H W Q (match blsOf es with
      | some bs => .ok (.bl (f bs)) c
      | none => .stuck) := A
    cases q : blsOf es with
    | none => rw [q] at A2; exact A2.elim
    | some bs =>
      rw [q] at A2
      exact ⟨a, bs, rfl, by rw [← bls_reps r q]; exact SqL.of (R.same _ _ h), A2.here R (.bl _)⟩
  | _ => exact A.elim
theorem cs_all : CallS K (rAll K) allD := fun I H m c vs ds W Q R p A => all_read R p A
/-! ### methods of texts: of none, of one argument -/
def strsOf : List D → Option (List Str)
  | [] => some []
  | .str b :: r => match strsOf r with
    | some bs => some (b :: bs)
    | none => none
  | _ :: _ => none
theorem strs_reps {I : Hp} {m : List Addr} : ∀ {vs : List V} {ds : List D} {bs : List Str}, Reps K I m vs ds → strsOf ds = some bs → vs = bs.map V.str
  | _, _, _, .nil, e => by cases e; rfl
  | _, _, _, .cons (d := d) (ds := ds) h t, e => by
    cases h with
    | str b =>
      unfold strsOf at e
      cases q : strsOf ds with
      | none => rw [q] at e; cases e
      | some ks => rw [q] at e; cases e; rw [strs_reps t q]; rfl
    | _ => simp [strsOf] at e
def joinL (a : Str) (ds : List D) (c : Cs) : R D := match strsOf ds with
  | some ys => if (ys.map (·.length)).sum + ys.length * a.length ≤ 16777216 then .ok (.str (Txt.join a ys)) c else .stuck
  | none => .stuck
def joinD : D → D → Cs → R D
  | .str a, .lst ds, c => joinL a ds c
  | .str a, .tup ds, c => joinL a ds c
  | _, _, _ => .stuck
/-- a text's method of one argument: what is asked of the values -/
def M1S (K : PySem.W.Frag) (r : V → List V → Hp → VK → Prop) (g : D → D → Cs → R D) : Prop := ∀ (I H : Hp) (m : List Addr) (c : Cs) (v1 v2 : V) (d1 d2 : D) (W : XK) (Q : VK),
  Rel K I H m c → Rep K I m v1 d1 → Rep K I m v2 d2 → After (rD K) K I m H W Q (g d1 d2 c) → r v1 [v2] H Q
/-- the receiver is looked at first: it must be a text -/
def mM1 (g : D → D → Cs → R D) (a b : ME) : ME := fun l c => (a l c).bind fun x c1 => match x with
  | .str s => (b l c1).bind fun y c2 => g (.str s) y c2
  | _ => .stuck
theorem m1_read {W : WX} {fa fb : ME} {r : V → List V → Hp → VK → Prop} {g : D → D → Cs → R D} {σ : St} {H : Hp} {Q : VK} (hs : M1S K r g) (h : rdE K W (mM1 g fa fb) σ H Q) : tM1 r (rdE K W fa) (rdE K W fb) σ H Q := by
  obtain ⟨I, m, l, c, R, L, A⟩ := h
  refine ⟨I, m, l, c, R, L, After.mono (After.bind (rep := rD K) A) fun v1 H1 ⟨I1, m1, c1, d1, E1, R1, p1, A1⟩ => ?_⟩
  cases p1 with
  | str s =>
    refine ⟨⟨s, rfl⟩, I1, m1, l, c1, R1, L.ext E1, After.mono (After.bind (rep := rD K) (show After (rD K) K I1 m1 H1 (fun cls dd H' => W cls dd σ H') Q ((fb l c1).bind fun y c2 => g (.str s) y c2) from A1)) fun v2 H2 ⟨I2, m2, c2, d2, E2, R2, p2, A2⟩ => ?_⟩
    exact hs _ _ _ _ _ _ _ _ _ _ R2 (Rep.str s) p2 A2
  | _ => exact A1.elim
theorem me_m1 {X : Cx} {W : WX} {e : Expr} {fa fb : ME} {r : V → List V → Hp → VK → Prop} {g : D → D → Cs → R D} (h : PE X e (tM1 r (rdE X.K W fa) (rdE X.K W fb))) (hs : M1S X.K r g) : PE X e (rdE X.K W (mM1 g fa fb)) := PEi h fun _ _ _ q => m1_read hs q
theorem m1_join : M1S K (fun x xs H Q => ∃ a p, ∃ ys : List Str, x = .str a ∧ xs = [.ref p] ∧ (SqL K H p (ys.map V.str) ∨ SqT K H p (ys.map V.str)) ∧ (ys.map (·.length)).sum + ys.length * a.length ≤ 16777216 ∧ Q (.str (Txt.join a ys)) H) joinD :=
  fun I H m c v1 v2 d1 d2 W Q R p1 p2 A => by
    cases p1 with
    | str a =>
      have go : ∀ {p : Addr} {vs : List V} {ds : List D}, v2 = .ref p → (SqL K H p vs ∨ SqT K H p vs) → Reps K I m vs ds → After (rD K) K I m H W Q (joinL a ds c) → _ := fun {p vs ds} e hq r A => by
        unfold joinL at A
        cases q : strsOf ds with
        | none => rw [q] at A; exact A.elim
        | some ys =>
          rw [q] at A
          by_cases hz : (ys.map (·.length)).sum + ys.length * a.length ≤ 16777216
          · have A2 : After (rD K) K I m H W Q (if (ys.map (·.length)).sum + ys.length * a.length ≤ 16777216 then .ok (.str (Txt.join a ys)) c else .stuck) := A
            rw [if_pos hz] at A2
            exact (show ∃ a' p, ∃ ys : List Str, V.str a = .str a' ∧ [v2] = [.ref p] ∧ (SqL K H p (ys.map V.str) ∨ SqT K H p (ys.map V.str)) ∧ (ys.map (·.length)).sum + ys.length * a'.length ≤ 16777216 ∧ Q (.str (Txt.join a' ys)) H from
              ⟨a, p, ys, rfl, by rw [e], by rw [← strs_reps r q]; exact hq, hz, A2.here R (.str _)⟩)
          · have A2 : After (rD K) K I m H W Q (if (ys.map (·.length)).sum + ys.length * a.length ≤ 16777216 then .ok (.str (Txt.join a ys)) c else .stuck) := A
            rw [if_neg hz] at A2
            exact A2.elim
      cases p2 with
      | lst h r => exact go rfl (.inl (SqL.of (R.same _ _ h))) r A
      | tup h r => exact go rfl (.inr (sqT_same R.same h)) r A
      | _ => exact A.elim
    | _ => cases p2 <;> exact A.elim
end

/-! ### own defs -/
/-- the def at f does what g says -/
structure GFn (P : Program) (w : World) (K : PySem.W.Frag) (mg : Str → Option Value) (base : Heap) (k : Nat) (f : Addr) (fd : FuncData) (ps : List Str) (g : List D → Cs → R D) : Prop where
  len : ∀ ds c, g ds c ≠ .stuck → ds.length = ps.length
  run : ∀ (A : Around) (outer : List Env) (s : Shared) (H : Hp) (args : Args) (us : List Value) (vs : List V) (Q : VK) (E : XK) (I : Hp) (m : List Addr) (c : Cs) (ds : List D), Room k A → A.guards = some [] → Env0 P w K mg base A outer s H →
    BindsTo s fd args (ps.zip us) → Vals vs us → Rel K I H m c → Reps K I m vs ds → After (rD K) K I m H E Q (g ds c) → codeAny (model P w) A (.call (.ref f) args) (CR (CX P w) outer P w H s Q E) s
theorem GFn.mono {P : Program} {w : World} {K : PySem.W.Frag} {mg : Str → Option Value} {base : Heap} {j k : Nat} {f : Addr} {fd : FuncData} {ps : List Str} {g : List D → Cs → R D} (F : GFn P w K mg base j f fd ps g) (h : j ≤ k) : GFn P w K mg base k f fd ps g :=
  ⟨F.len, fun A outer s H args us vs Q E I m c ds hr => F.run A outer s H args us vs Q E I m c ds (hr.mono h)⟩
/-- a body, run from the arguments: n names, a of them parameters -/
def mFun (n a : Nat) (b : MS) : List D → Cs → R D := fun ds c => if ds.length = a then (match b (ds.map some ++ List.replicate (n - a) none) c with
  | .go (.rt d) c' => .ok d c'
  | .go (.nx _) c' => .ok .non c'
  | .exc x _ c' => .exc x c'
  | _ => .stuck) else .stuck
theorem after_nonstuck {α β : Type} {rep : Hp → List Addr → β → α → Prop} {K : PySem.W.Frag} {I H : Hp} {m : List Addr} {W : XK} {Q : β → Hp → Prop} {r : R α} (a : After rep K I m H W Q r) : r ≠ .stuck := fun e => by
  rw [e] at a
  exact a
theorem locs_start {K : PySem.W.Frag} {I : Hp} {m : List Addr} {N : List Str} : ∀ {vs : List V} {ds : List D}, Reps K I m vs ds → Locs K I m (start N vs) (ds.map some ++ List.replicate (N.length - ds.length) none) := fun {vs ds} r => by
  refine ⟨by unfold start; simp [r.length], fun i d h => ?_⟩
  by_cases hi : i < ds.length
  · rw [List.getElem?_append_left (by simpa using hi), List.getElem?_map] at h
    cases q : ds[i]? with
    | none => rw [q] at h; cases h
    | some e =>
      rw [q] at h
      cases h
      obtain ⟨v, h1, h2⟩ := r.get q
      refine ⟨v, ?_, h2⟩
      unfold start
      rw [List.getElem?_append_left (by rw [List.length_map, r.length]; exact hi), List.getElem?_map, h1]
      rfl
  · rw [List.getElem?_append_right (by simpa using hi), List.getElem?_replicate] at h
    split at h <;> cases h
/-- THE RULE: a def by its body -/
theorem gfn_ofE {P : Program} {w : World} {K : PySem.W.Frag} {mg : Str → Option Value} {base : Heap} {k : Nat} {x qual : Str} {st : Stmt} {f : Addr} {fd : FuncData} {N ps : List Str} {b : MS} (F : Fun K x qual st f fd) (S : FnScope N ps (defScope st))
    (hb : ∀ (cdv : Value), fd.code = cdv → ∀ (A : Around) (outer : List Env) (s : Shared) (H : Hp) (E : XK), Room k (A.deeper (envOfC qual (defScope st) s.heap.objs.size f cdv)) → A.guards = some [] →
      PSs (cxOf (CX P w) P w K mg base N qual (defScope st) f cdv A outer s H E) (defBody st) (rdS K (fun cls d _ H' => E cls d H') b)) : GFn P w K mg base (k + 1) f fd ps (mFun N.length ps.length b) := by
  obtain ⟨oc, od, kV, doc, pm, an, cdv, ct, osl, rfl, lk, hcd⟩ := F.ex
  have len : ∀ ds c, mFun N.length ps.length b ds c ≠ .stuck → ds.length = ps.length := fun ds c h => by
    by_cases hl : ds.length = ps.length
    · exact hl
    · exact absurd (show mFun N.length ps.length b ds c = .stuck from if_neg hl) h
  refine ⟨len, fun A outer s H args us vs Q E I m c ds hr hg e0 hbd rv R p a => ?_⟩
  have hl := len ds c (after_nonstuck a)
  have hlv : vs.length = ps.length := p.length.trans hl
  have KX : K.In s.heap := e0.mod.kin.keeps fun b o e => (e0.bs b o e).1
  have lim : s.heap.NoLimit := e0.mod.nolimit.keeps fun b o e => (e0.bs b o e).1
  have hkind : ∀ y ∈ ps.zip us, (defScope st).names.lookup y.1 = some .local ∨ ((defScope st).names.lookup y.1 = some .cell ∧ ((cellsFrom (s.heap.objs.size + 1) (defScope st).names []).lookup y.1).isSome = true) := fun ⟨n, v⟩ hy => by
    rcases S.par n (List.of_mem_zip hy).1 with q | q
    · exact Or.inl q
    · exact Or.inr ⟨q, PySem.W.cellsFrom_some _ _ _ (Or.inl q)⟩
  refine codeAny_call_function hr.depth (KX _ _ lk) rfl S.co S.gen rfl (PySem.W.codeRec_of KX hcd) (hbd _ _ _ _ ?_)
  refine wpAny_newFunctionEnv_cells S.kind hkind fun env he s1 y => ?_
  subst he
  refine ⟨lim.keeps y.toInCall.keep, codeAny_func ?_⟩
  have J := inv_start (CX := CX P w) (E := E) (cd := cdv) (qual := qual) (f := f) S hr.hd e0 hlv rv y
  have a2 : After (rD K) K I m H E Q (match b (ds.map some ++ List.replicate (N.length - ps.length) none) c with
    | .go (.rt d) c' => .ok d c'
    | .go (.nx _) c' => .ok .non c'
    | .exc x _ c' => .exc x c'
    | _ => .stuck) := by
    have e : mFun N.length ps.length b ds c = _ := if_pos hl
    rw [e] at a
    exact a
  have hst : rdS K (fun cls d _ H' => E cls d H') b { nx := fun _ H' => Q .non H', rt := Q } (start N vs) H := by
    refine ⟨I, m, ds.map some ++ List.replicate (N.length - ps.length) none, c, R, by rw [← hl]; exact locs_start p, ?_⟩
    cases q : b (ds.map some ++ List.replicate (N.length - ps.length) none) c with
    | stuck => rw [q] at a2; exact a2.elim
    | exc x l' c' => rw [q] at a2; exact fun I' m' H' σ' cls dd e' r' _ px => a2 I' m' H' cls dd e' r' px
    | go fl c' =>
      rw [q] at a2
      cases fl with
      | nx l' => exact fun I' m' H' σ' e' r' _ => a2 I' m' H' .non e' r' Rep.non
      | rt d => exact fun I' m' H' v e' r' pv => a2 I' m' H' v e' r' pv
      | bk l' => exact a2.elim
      | ct l' => exact a2.elim
  refine wpAny_mono ((hb cdv rfl A outer s H E (hr.deeper _) hg).run [] s1 (start N vs) H _ J hst) (fun fl s' hs => ?_) fun e s' hs => hs
  have fin : ∀ {σ' : St} {H' : Hp} {v : V} {u : Value}, Inv (cxOf (CX P w) P w K mg base N qual (defScope st) f cdv A outer s H E) [] σ' H' s' → RelV v u → Q v H' → CE outer P w H s Q u s' :=
    fun {σ' H' v u} Z rv q => ⟨v, H', Z.os, Z.bare, Z.base, Z.hok, rv, q⟩
  cases fl with
  | ret u =>
    obtain ⟨v, σ', H', Z, rv, q⟩ := hs
    exact fin Z rv q
  | next =>
    obtain ⟨σ', H', Z, q⟩ := hs
    exact fin (v := V.non) (u := Value.none) Z rfl q
  | brk =>
    obtain ⟨_, _, _, q⟩ := hs
    exact False.elim q
  | cont =>
    obtain ⟨_, _, _, q⟩ := hs
    exact False.elim q
/-- THE RULE: a def by its body -/
theorem gfn_of {P : Program} {w : World} {K : PySem.W.Frag} {mg : Str → Option Value} {base : Heap} {k : Nat} {x qual : Str} {st : Stmt} {f : Addr} {fd : FuncData} {N ps : List Str} {b : MS} (F : Fun K x qual st f fd) (S : FnScope N ps (defScope st))
    (hb : ∀ (cdv : Value) (A : Around) (outer : List Env) (s : Shared) (H : Hp) (E : XK), Room k (A.deeper (envOfC qual (defScope st) s.heap.objs.size f cdv)) → A.guards = some [] →
      PSs (cxOf (CX P w) P w K mg base N qual (defScope st) f cdv A outer s H E) (defBody st) (rdS K (fun cls d _ H' => E cls d H') b)) : GFn P w K mg base (k + 1) f fd ps (mFun N.length ps.length b) := gfn_ofE F S fun cdv _ => hb cdv
section
variable {X : Cx} {W : WX} {k : Nat} {f : Addr} {fd : FuncData} {ps : List Str} {g : List D → Cs → R D} {x : Str} {p pos : Pos} {e : Expr} {es : List Expr} {ga : MA}
/-- the callee runs, from a body -/
theorem run_g {pins : List (Addr × Obj)} {σ : St} {H : Hp} {s : Shared} {Q : VK} {us : List Value} {vs : List V} {I : Hp} {m : List Addr} {c : Cs} {ds : List D} (F : GFn X.prog X.w X.K X.mg X.base k f fd ps g) (hr : Room k X.A) (hgd : X.A.guards = some []) (hb : Binds X.K fd ps []) (tk : Takes X W)
    (J : Inv X pins σ H s) (r : Vals vs us) (R : Rel X.K I H m c) (p : Reps X.K I m vs ds) (a : After (rD X.K) X.K I m H (fun cls d H' => W cls d σ H') Q (g ds c)) : wpAny (model X.prog X.w) X.A (call (.ref f) us) (EP X pins σ Q) X.xe s := by
  have hl : us.length = ps.length := by rw [← r.length, p.length]; exact F.len ds c (after_nonstuck a)
  have hb2 : BindsTo s fd ⟨us, []⟩ (ps.zip us) := by
    have z := hb s us J.kIn (by rw [List.append_nil]; exact hl)
    rw [List.append_nil] at z
    exact z
  refine wpAny_call (codeAny_mono (F.run X.A X.stack s H ⟨us, []⟩ us vs Q (fun cls d H' => W cls d σ H') I m c ds hr hgd J.env0 hb2 r R p a) fun res s' hq => ?_)
  cases res with
  | error e => exact tk e s' (XE.of_call J (fun _ _ _ h => h) hq)
  | ok fl =>
    cases fl with
    | ret u => exact J.after hq
    | next => exact False.elim hq
    | brk => exact False.elim hq
    | cont => exact False.elim hq
theorem me_call (F : GFn X.prog X.w X.K X.mg X.base k f fd ps g) (hr : Room k X.A) (hgd : X.A.guards = some []) (hg : Gl X x) (hm : X.mg x = some (.ref f)) (hk : PySem.W.keepIn X.K (.ref f) = true) (hb : Binds X.K fd ps []) (tk : Takes X W)
    (ha : PA X (e :: es) (rdA X.K W ga)) (hdb : (x == ("__debug__" : Str)) = false := by decide) (he : starEach (e :: es) X.env = (false, eval e X.env) :: starEach es X.env := by rfl) (hpl : (backTo pos (starEach es X.env)).any (·.1) = false := by rfl) :
    PE X (.Call (.Name x p) (e :: es) [] pos) (rdE X.K W (mCB g ga)) := by
  refine ⟨fun pins s σ H Q J ⟨I, m, l, c, R, L, A⟩ => ?_⟩
  refine wpAny_Call_Name_kw (ld_glob J hg hm ?_ hdb)
  refine PySem.W.callWith_K (h₀ := X.base) J.ok.mod.kin hk (thn (ha.run pos pins s σ H _ J ⟨I, m, l, c, R, L, After.bind (rep := rA X.K) A⟩) fun us s1 ⟨vs, H1, J1, r, I1, m1, c1, ds, E1, R1, p1, A1⟩ => ⟨J1.kIn, ?_⟩) he hpl
  exact run_g F hr hgd hb tk J1 r R1 p1 A1
end

/-! ### the law's end -/
theorem tabs_all {q : Nat} (h : q ∈ tabsL) : q ∈ tabsA := by
  obtain ⟨p, hp, e⟩ := List.mem_map.mp h
  exact List.mem_map.mpr ⟨p, List.mem_append_left _ hp, e⟩
theorem lams_all {p : Nat × Nat × PySem.Str} (h : p ∈ lamL) : p.2.1 ∈ tabsA := List.mem_map.mpr ⟨(p.1, p.2.1), List.mem_append_right _ (List.mem_map.mpr ⟨p, h, rfl⟩), rfl⟩
theorem law_callG {P : Program} {w : World} {K : PySem.W.Frag} {mg mb : Str → Option Value} {k : Nat} {fa a : Addr} {fd : FuncData} {x : Str} {g : List D → Cs → R D} {s₁ : Shared} {vs : List Value} {ns : List Int}
    (KX : K.In s₁.heap) (hns : s₁.heap.Ns mainGlobals mg) (hb : s₁.heap.Ns builtinsNs mb) (hbb : ∀ x : Str, x ≠ "__name__" → mb x = bootBuiltins x) (hlim : s₁.heap.NoLimit) (hgen : s₁.gens = #[])
    (tE : ∀ p ∈ allL, s₁.heap.get? p.2 = some (PySem.W.tabObj #[])) (tK : ∀ p ∈ allL, K.lookup p.2 = none) (tC : ∀ p ∈ allL, PySem.W.CodeHd s₁.heap p.1 p.2)
    (hbm : ∃ (bm : Addr) (ob : Obj), mg "__builtins__" = some (.ref bm) ∧ bm ≠ builtinsNs ∧ s₁.heap.get? bm = some ob ∧ ob.cls = .type "module" ∧ ob.dict = some builtinsNs ∧ ob.data = .plain)
    (ha : s₁.heap.get? a = some { cls := .type "list", data := .seq vs.toArray }) (hi : IntsAre vs ns) (hl : ns.length ≤ sizeLine) (hr : Room k callerA)
    (F : ∀ base : Heap, K.In base → base.Ns mainGlobals mg → (∀ p ∈ allL, GxR.TabB base mg p.1 p.2) → GFn P w K mg base k fa fd [x] g) (hbind : ∀ (s : Shared) (u : Value), BindsTo s fd ⟨[u], []⟩ [(x, u)])
    (hsp : ∀ H : Hp, (∀ q ∈ tabsA, H q = some (.tbl #[])) → SqL K H a (ns.map V.int) → ∃ (I : Hp) (m : List Addr) (c : Cs) (ds : List D), Rel K I H m c ∧ Reps K I m [.ref a] ds ∧ After (rD K) K I m H (fun _ _ _ => False) (fun v _ => v = .bl true) (g ds c)) :
    codeAny (model P w) callerA (.call (.ref fa) ⟨[.ref a], []⟩) (fun r s' => r = .ok (.ret (.bool true)) ∧ OldK s₁.heap s'.heap ∧ s'.os = s₁.os ∧ AllBare s'.gens) s₁ := by
  have rv := vals_ints hi
  have mT : ∀ q ∈ tabsA, ∃ p ∈ allL, p.2 = q := fun q hq => by
    obtain ⟨p, hp, e⟩ := List.mem_map.mp hq
    exact ⟨p, hp, e⟩
  have tT : ∀ q ∈ tabsA, s₁.heap.get? q = some (PySem.W.tabObj #[]) := fun q hq => by
    obtain ⟨p, hp, rfl⟩ := mT q hq
    exact tE p hp
  have naT : a ∉ tabsA := fun z => by
    have q := tT a z
    rw [ha] at q
    exact absurd (congrArg Obj.data (Option.some.inj q)) (by intro z; cases z)
  have core : ∀ H : Hp, (∀ b o, H b = some o → (b = a ∧ ∃ ob xs, o = .frz ob (.lst xs)) ∨ (b ∈ tabsA ∧ o = .tbl #[])) → (∀ q ∈ tabsA, H q = some (.tbl #[])) → SqL K H a (ns.map V.int) → HOk P w H s₁.heap → (H a ≠ none → K.lookup a = none) →
      codeAny (model P w) callerA (.call (.ref fa) ⟨[.ref a], []⟩) (fun r s' => r = .ok (.ret (.bool true)) ∧ OldK s₁.heap s'.heap ∧ s'.os = s₁.os ∧ AllBare s'.gens) s₁ := fun H hO hQ hS hok hK => by
    have free_ : ∀ {b : Addr} {o : Obj}, s₁.heap.get? b = some o → (∀ vs n, o.data ≠ .seq vs n) → o.data ≠ .fields #[] → H b = none := fun {b o} e h1 h2 => by
      cases q : H b with
      | none => rfl
      | some u =>
        rcases hO b u q with ⟨rfl, _⟩ | ⟨z, _⟩
        · rw [ha] at e
          cases e
          exact absurd rfl (h1 _ _)
        · rw [tT b z] at e
          cases e
          exact absurd rfl h2
    have dictFree : ∀ {b : Addr} {o : Obj} {es : Array DictEntry} {ep : Nat}, s₁.heap.get? b = some o → o.data = .dict es ep → H b = none := fun {b o es ep} e d => free_ e (fun vs n z => by rw [d] at z; cases z) (fun z => by rw [d] at z; cases z)
    have toBase : ∀ {b : Addr} {m : Str → Option Value}, s₁.heap.Ns b m → (hidT s₁.heap H).Ns b m := fun {b m} ⟨o, es, ep, e, d, r⟩ => ⟨o, es, ep, hidT_get e (dictFree e d), d, r⟩
    have inB : K.In (hidT s₁.heap H) := fun b o e => hidT_get (KX b o e) (by
      cases q : H b with
      | none => rfl
      | some u =>
        rcases hO b u q with ⟨rfl, _⟩ | ⟨z, _⟩
        · rw [hK (by rw [q]; exact nofun)] at e
          cases e
        · obtain ⟨p, hp, rfl⟩ := mT b z
          rw [tK p hp] at e
          cases e)
    have md : Mod K mg (hidT s₁.heap H) := ⟨inB, toBase hns, ⟨mb, toBase hb, hbb⟩, hlim.imp fun _ h => ⟨toBase h.1, h.2⟩⟩
    have noFr : ∀ b ∈ frs [], H b = none := fun b z => absurd (show b ∈ ([] : List Addr) from z) List.not_mem_nil
    have e0 : Env0 P w K mg (hidT s₁.heap H) callerA [] s₁ H := ⟨rfl, md, fun b o e => of_hidT e, Nat.le_of_eq (hidT_size _ _), trivial, noFr, hok, .of_eq hgen⟩
    have tb : ∀ p ∈ allL, GxR.TabB (hidT s₁.heap H) mg p.1 p.2 := fun p hp => by
      have e2 := tE p hp
      refine ⟨?_, ?_, ?_⟩
      · obtain ⟨o, us, file, tf, fl, tg, inF, text, tt, f1, f2, f3, f4, more⟩ := tC p hp
        refine ⟨o, us, file, tf, fl, tg, inF, text, tt, hidT_get f1 (free_ f1 (fun vs n z => by rw [f3] at z; cases z) fun z => ?_), f2, f3, f4, more⟩
        rw [f3] at z
        cases z
        exact absurd f4 (by simp)
      · obtain ⟨bm, ob, b1, b2, b3, b4, b5, b6⟩ := hbm
        have n1 : bm ≠ mainGlobals := fun q => by
          obtain ⟨o, es, ep, e, hd, _⟩ := hns
          rw [q, e] at b3
          rw [Option.some.inj b3, b6] at hd
          cases hd
        have n2 : bm ≠ p.2 := fun q => by
          rw [q, e2] at b3
          rw [← Option.some.inj b3] at b6
          cases b6
        exact ⟨bm, ob, b1, b2, n1, n2, hidT_get b3 (free_ b3 (fun vs n z => by rw [b6] at z; cases z) fun z => by rw [b6] at z; cases z), b4, b5, b6⟩
      · intro z
        obtain ⟨o, es, ep, e, hd, _⟩ := hns
        rw [z, e2] at e
        rw [← Option.some.inj e] at hd
        cases hd
    obtain ⟨I, m, c, ds, R, p, A⟩ := hsp H hQ hS
    refine codeAny_mono ((F _ inB (toBase hns) tb).run callerA [] s₁ H ⟨[.ref a], []⟩ [.ref a] [.ref a] (fun v _ => v = .bl true) (fun _ _ _ => False) I m c ds hr rfl e0 (hbind s₁ (.ref a)) (.cons rfl .nil) R p A) fun r s' h => ?_
    cases r with
    | error e =>
      obtain ⟨_, _, _, _, _, _, _, _, _, _, _, _, z⟩ := h
      exact z.elim
    | ok fl =>
      cases fl with
      | next => exact False.elim h
      | brk => exact False.elim h
      | cont => exact False.elim h
      | ret u =>
        obtain ⟨v, H', os, bare, un, hok', r', rfl⟩ := h
        obtain rfl : u = Value.bool true := r'
        have old : ∀ b o, b ∉ tabsA → s₁.heap.get? b = some o → s'.heap.get? b = some o := fun b o nb e => by
          cases q : H b with
          | none => exact un.keep b o e q (fun z => absurd (show b ∈ ([] : List Addr) from z) List.not_mem_nil) List.not_mem_nil
          | some u =>
            rcases hO b u q with ⟨_, ob, xs, rfl⟩ | ⟨z, _⟩
            · have z1 := (hok b _ q).1
              have z2 := (hok' b _ (un.frzs b ob _ q)).1
              rw [z1] at e
              cases e
              exact z2
            · exact absurd z nb
        have grew : ∀ q ∈ tabsA, ∃ more : Array Value, s'.heap.get? q = some (PySem.W.tabObj more) := fun q hq => by
          obtain ⟨more, z⟩ := un.tbls q #[] (hQ q hq)
          exact ⟨_, hok' q _ z⟩
        refine ⟨rfl, ⟨fun b o e => ?_, fun b o e => ?_⟩, os, bare⟩
        · by_cases hbT : b ∈ tabsA
          · obtain ⟨p, hp, rfl⟩ := mT b hbT
            obtain ⟨more, hm⟩ := grew _ hbT
            have e2 := tE p hp
            rw [e2] at e
            have e3 := (Option.some.inj e).symm
            subst e3
            exact .inr (.inl ⟨((tC p hp).tab e2).isCodeTable, rfl, #[], more, rfl, by rw [Array.empty_append]; exact hm⟩)
          · exact .inl (old b o hbT e)
        · by_cases hbT : b ∈ tabsA
          · obtain ⟨more, hm⟩ := grew b hbT
            exact ⟨_, hm⟩
          · exact ⟨o, old b o hbT e⟩
  cases hk : K.lookup a with
  | some o =>
    have e := KX a o hk
    rw [ha] at e
    cases e
    have only : ∀ (b : Addr) (o : HO), (if b ∈ tabsA then some (HO.tbl #[]) else none) = some o → b ∈ tabsA ∧ o = .tbl #[] := fun b o e => by
      by_cases hbT : b ∈ tabsA
      · rw [if_pos hbT] at e
        exact ⟨hbT, (Option.some.inj e).symm⟩
      · rw [if_neg hbT] at e
        cases e
    refine core (fun b => if b ∈ tabsA then some (.tbl #[]) else none) (fun b o e => .inr (only b o e)) (fun q hq => if_pos hq) (Or.inr ⟨_, vs.toArray, _, hk, rfl, rfl, rfl, by rw [List.size_toArray, hi.length]; exact hl, rv⟩) (fun b u z => ?_) fun z => absurd (if_neg naT) z
    obtain ⟨hbT, rfl⟩ := only b u z
    exact tT b hbT
  | none =>
    have only : ∀ (b : Addr) (o : HO), (if b ∈ tabsA then some (HO.tbl #[]) else if b = a then some (HO.frz { cls := .type "list", data := .seq vs.toArray } (.lst (ns.map V.int))) else none) = some o → (b = a ∧ o = .frz { cls := .type "list", data := .seq vs.toArray } (.lst (ns.map V.int))) ∨ (b ∈ tabsA ∧ o = .tbl #[]) := fun b o e => by
      by_cases hbT : b ∈ tabsA
      · rw [if_pos hbT] at e
        exact .inr ⟨hbT, (Option.some.inj e).symm⟩
      · rw [if_neg hbT] at e
        by_cases hb : b = a
        · rw [if_pos hb] at e
          exact .inl ⟨hb, (Option.some.inj e).symm⟩
        · rw [if_neg hb] at e
          cases e
    refine core (fun b => if b ∈ tabsA then some (.tbl #[]) else if b = a then some (.frz { cls := .type "list", data := .seq vs.toArray } (.lst (ns.map V.int))) else none) (fun b o e => (only b o e).imp_left fun z => ⟨z.1, _, _, z.2⟩) (fun q hq => if_pos hq) (Or.inl (Or.inr ⟨_, (if_neg naT).trans (if_pos rfl)⟩)) (fun b o e => ?_) fun _ => hk
    rcases only b o e with ⟨rfl, rfl⟩ | ⟨hbT, rfl⟩
    · exact ⟨ha, by rw [List.length_map]; exact hl, vs, _, rv, ha⟩
    · exact tT b hbT
theorem law_g {l : PySem.W.OpenLaw} {n k : Nat} {q : Program} {loose : List Str} {XP : (Str → Option Value) → Heap → Prop} {YP : World → Heap → Prop} {d : DefRec} {K : Params → PySem.W.Frag} {x : Str} {g : Params → List D → Cs → R D}
    (hn : l.most = some n) (hn2 : n ≤ sizeLine) (hdf : d.params.defaults = []) (hr : Room k callerA) (hY : ∀ (w : World) (h : Heap), YP w h → (K w.params).In h)
    (hT : ∀ (w : World) (h : Heap), YP w h → (∀ p ∈ allL, h.get? p.2 = some (PySem.W.tabObj #[])) ∧ (∀ p ∈ allL, (K w.params).lookup p.2 = none) ∧ ∀ p ∈ allL, PySem.W.CodeHd h p.1 p.2)
    (F : ∀ (w : World) (mg : Str → Option Value) (fa : Addr) (h : Heap), (K w.params).In h → h.Ns mainGlobals mg → mg d.name = some (.ref fa) →
      ∃ fd : FuncData, (∀ (s : Shared) (u : Value), BindsTo s fd ⟨[u], []⟩ [(x, u)]) ∧ ∀ base : Heap, (K w.params).In base → base.Ns mainGlobals mg → (∀ p ∈ allL, GxR.TabB base mg p.1 p.2) → GFn l.prog w (K w.params) mg base k fa fd [x] (g w.params))
    (hg : ∀ (pm : Params) (ns : List Int), ns.length ≤ n → ∃ c, g pm [.ro (ns.map D.int)] [] = .ok (.bl true) c) :
    PySem.W.WalkO q loose XP YP l.row.toRowW d [] (fun f vs => PySem.call f vs) := by
  refine Att.attach_call hn hdf fun w s₀ s₁ mg mb fa o pm cd doc a vs ns G Y ho hd hcd hmg hobj hints hlen hgen => ?_
  have KX := hY w _ Y
  obtain ⟨t1, t2, t3⟩ := hT w _ Y
  obtain ⟨fd, hb, hF⟩ := F w mg fa _ KX G.T.g hmg
  have reps : ∀ (H : Hp) (ns : List Int), Reps (K w.params) H [] (ns.map V.int) (ns.map D.int) := fun H ns => by
    induction ns with
    | nil => exact .nil
    | cons z zs ih => exact .cons (.int z) ih
  obtain ⟨c, ec⟩ := hg w.params ns hlen
  refine law_callG KX G.T.g G.T.b G.T.builtins G.T.nolimit hgen t1 t2 t3 G.T.bmain hobj hints (Nat.le_trans hlen hn2) hr hF hb fun H hQ hS => ?_
  have hI : ∀ (b : Addr) (o : HO), (if b ∈ tabsA then none else H b) = some o → b ∉ tabsA ∧ H b = some o := fun b o e => by
    by_cases hbT : b ∈ tabsA
    · rw [if_pos hbT] at e; cases e
    · rw [if_neg hbT] at e; exact ⟨hbT, e⟩
  have hS2 : SqL (K w.params) (fun b => if b ∈ tabsA then none else H b) a (ns.map V.int) := by
    have go : ∀ o, H a = some o → (∀ ps, o ≠ .tbl ps) → (if a ∈ tabsA then none else H a) = some o := fun o e n => by
      rw [if_neg (fun z => n #[] (by have := hQ a z; rw [e] at this; exact Option.some.inj this))]
      exact e
    rcases hS with (h | ⟨o, h⟩) | h
    · exact .inl (.inl (go _ h (fun _ z => nomatch z)))
    · exact .inl (.inr ⟨o, go _ h (fun _ z => nomatch z)⟩)
    · exact .inr h
  exact ⟨fun b => if b ∈ tabsA then none else H b, [], [], [.ro (ns.map D.int)], ⟨fun b o e => (hI b o e).2, rfl, fun _ _ _ h => (nomatch h), fun _ _ _ h => (nomatch h), ⟨fun q hq => ⟨⟨#[], hQ q (tabs_all hq), trivial⟩, if_pos (tabs_all hq), List.not_mem_nil⟩, fun p hp => ⟨.nil (hQ _ (lams_all hp)), if_pos (lams_all hp), List.not_mem_nil⟩⟩⟩, .cons (.ro hS2 (reps _ ns)) .nil, by rw [ec]; exact fun I' m' H' v _ _ p => by cases p; rfl⟩
end L2.Mi

namespace L2.Mi
open PySem PySem.Spec PyProof.Rows L2

section
variable {X : Cx} {W : WX} {a b c e : Expr} {es : List Expr} {pos : Pos} {fa fb fc : ME} {f g : D → D → Cs → R D} {ga : MA}
/-- a call of a built-in -/
theorem me_cb {r : List V → Hp → VK → Prop} {G : List D → Cs → R D} (h : PE X e (tCB r (rdA X.K W ga))) (hs : CallS X.K r G) : PE X e (rdE X.K W (mCB G ga)) := PEi h fun _ _ _ q => cb_read hs q
theorem mt_chain {op op' : CmpOp} {r r' : R2} (ho : OpR X (compareOp op) r) (hs : OpS X.K r f) (ho' : OpR X (compareOp op') r') (hs' : OpS X.K r' g) (ha : PE X a (rdE X.K W fa)) (hb : PE X b (rdE X.K W fb)) (hc : PE X c (rdE X.K W fc))
    (hm : lastMarks [op, op'] [b, c] = false := by with_unfolding_all rfl) : PT X (.Compare a [op, op'] [b, c] pos) (rdT X.K W (mT (mChain f g fa fb fc))) := PTi (pt_chain ho ho' ha hb hc hm) fun σ H Q ⟨I, m, l, c, R, L, A0⟩ => by
  have A : After (rD X.K) X.K I m H (fun cls dd H' => W cls dd σ H') (fun x H' => ∃ k, x = .bl k ∧ Q k H') (mChain f g fa fb fc l c) := After.mono (After.bind (rep := rD X.K) A0) fun v1 H1 ⟨I1, m1, c1, d1, E1, R1, p1, A1⟩ => by
    cases p1 with
    | bl k => exact ⟨k, rfl, A1.here R1 rfl⟩
    | _ => exact A1.elim
  refine ⟨I, m, l, c, R, L, After.mono (After.bind (rep := rD X.K) A) fun v1 H1 ⟨I1, m1, c1, d1, E1, R1, p1, A1⟩ => ?_⟩
  refine ⟨I1, m1, l, c1, R1, L.ext E1, After.mono (After.bind (rep := rD X.K) A1) fun v2 H2 ⟨I2, m2, c2, d2, E2, R2, p2, A2⟩ => ?_⟩
  refine hs _ _ _ _ _ _ _ _ _ _ R2 (Rep.ext p1 E2) p2 (After.mono (After.bind (rep := rD X.K) A2) fun v3 H3 ⟨I3, m3, c3, d3, E3, R3, p3, A3⟩ => ?_)
  cases p3 with
  | bl k =>
    refine ⟨k, rfl, ?_⟩
    cases k with
    | false =>
      rw [if_neg Bool.false_ne_true]
      exact A3.here R3 (Rep.bl false)
    | true =>
      rw [if_pos rfl]
      refine ⟨I3, m3, l, c3, R3, ((L.ext E1).ext E2).ext E3, After.mono (After.bind (rep := rD X.K) A3) fun v4 H4 ⟨I4, m4, c4, d4, E4, R4, p4, A4⟩ => ?_⟩
      exact hs' _ _ _ _ _ _ _ _ _ _ R4 (Rep.ext (Rep.ext p2 E3) E4) p4 A4
  | _ => exact A3.elim
/-- a display that will be changed: a cell -/
def mLstM (t : MA) : ME := fun l c => (t l c).bind fun xs c1 => fits xs.length (.ok (.ref c1.length) (c1 ++ [.lst xs]))
theorem me_lstM (h : PA X es (rdA X.K W ga)) : PE X (.List es pos) (rdE X.K W (mLstM ga)) :=
  PEi (pe_lst h) fun σ H Q ⟨I, m, l, c, R, L, A⟩ => ⟨I, m, l, c, R, L, After.mono (After.bind (rep := rA X.K) A) fun v1 H1 ⟨I1, m1, c1, d1, E1, R1, p1, A1⟩ => by
    obtain ⟨z, A2⟩ := A1.fits
    have p1 : Reps X.K I1 m1 v1 d1 := p1
    refine ⟨by rw [p1.length]; exact z, fun p np => ?_⟩
    obtain ⟨R2, E2⟩ := R1.push np p1
    refine A2 _ _ _ _ E2 R2 (Rep.ref ?_)
    rw [← R1.len, List.getElem?_append_right (Nat.le_refl _), Nat.sub_self]
    rfl⟩
/-- a local list's cell, whose list does not change from here on -/
def frzD (d : D) (c : Cs) : R D := match d with
  | .ref k => match c[k]? with
    | some (.lst ds) => .ok (.lst ds) (c.set k (.frz (.lst ds)))
    | _ => .stuck
  | _ => .stuck
def mFrz (a : ME) : ME := fun l c => (a l c).bind fun d c1 => frzD d c1
theorem me_frz (h : PE X e (rdE X.K W fa)) : PE X e (rdE X.K W (mFrz fa)) := PEi h fun σ H Q ⟨I, m, l, c, R, L, A⟩ =>
  ⟨I, m, l, c, R, L, After.mono (After.bind (rep := rD X.K) A) fun v1 H1 ⟨I1, m1, c1, d1, E1, R1, p1, A1⟩ => by
    cases p1 with
    | @ref k a hk =>
      have A2 : After (rD X.K) X.K I1 m1 H1 (fun cls dd H' => W cls dd σ H') Q (match c1[k]? with
        | some (.lst ds) => .ok (.lst ds) (c1.set k (.frz (.lst ds)))
        | _ => .stuck) := A1
      cases q : c1[k]? with
      | none => rw [q] at A2; exact A2.elim
      | some x =>
        rw [q] at A2
        cases x with
        | lst ds =>
          obtain ⟨I2, R2, E2, p2⟩ := R1.freeze hk q
          exact A2 I2 m1 H1 _ E2 R2 p2
        | _ => exact A2.elim
    | _ => exact A1.elim⟩
/-- y = [.. for ..] -/
theorem ms_setT {i : Nat} {s : Stmt} {t : TE} (h : PS X s (tAsg t (gName i))) (w : ∀ σ H Q, rdE X.K W fa σ H Q → t σ H Q) : PS X s (rdS X.K W (sSet i fa)) := PSi h fun D σ H ⟨I, m, l, c, R, L, A⟩ =>
  w σ H _ ⟨I, m, l, c, R, L, After.mono (AfterS.seq (rep := rD X.K) L A) fun v1 H1 ⟨I1, m1, c1, d1, E1, R1, p1, A1⟩ => A1 I1 m1 H1 _ (Ext.refl _ _ _) R1 ((L.ext E1).set i p1)⟩
theorem mts_nil : PTs X [] (rdT X.K W tYesM) := ⟨fun pins s σ H Q J ⟨I, m, l, c, R, L, A⟩ => pts_nil.run pins s σ H Q J (show tYes σ H Q from A.here R rfl)⟩
theorem mts_one {t : MT} (h : PT X c (rdT X.K W t)) : PTs X [c] (rdT X.K W t) := pts_one h
theorem rg_name {K : PySem.W.Frag} {i : Nat} : ∀ v σ H Q, rdG K W (gN i) v σ H Q → gName i v σ H Q := fun v σ H Q ⟨I, m, l, c, d, R, L, p, A⟩ => A.here R (L.set i p)
theorem rg_names {K : PySem.W.Frag} {i j : Nat} : ∀ v σ H Q, rdG K W (gT [i, j]) v σ H Q → gTup K 2 (gCons (gName i) (gCons (gName j) gNil)) v σ H Q := fun v σ H Q ⟨I, m, l, c, d, R, L, p, A⟩ => by
  cases p with
  | @tup a vs ds h r =>
    cases r with
    | nil => exact A.elim
    | cons h1 t1 =>
      cases t1 with
      | nil => exact A.elim
      | cons h2 t2 =>
        cases t2 with
        | cons h3 t3 =>
          unfold gT at A
          simp at A
          exact A.elim
        | nil => exact ⟨a, _, rfl, sqT_same R.same h, rfl, _, _, rfl, _, _, rfl, rfl, A.here R ((L.set i h1).set j h2)⟩
  | _ => exact A.elim

/-! ### dicts that are written -/
theorem Rel.sideO {K : PySem.W.Frag} {I H : Hp} {m : List Addr} {c : Cs} {p : Addr} {o : HO} (r : Rel K I H m c) (hH : ∀ x, H p ≠ some (.own x)) (hT : Nt H p) (hI : I p = none) (hm : p ∉ m) : Rel K I (upd H p o) m c := by
  refine ⟨fun b u e => ?_, r.len, r.nd, fun k a x h1 h2 => ?_, r.tabs.upH hT⟩
  · rw [upd_ne (ne_of_none e hI)]
    exact r.same _ _ e
  · have na : a ≠ p := fun e => hm (e ▸ List.mem_of_getElem? h1)
    have q := r.cell k a x h1 h2
    cases x with
    | lst es => exact ⟨q.1, q.2.imp fun us z => ⟨by rw [upd_ne na]; exact z.1, z.2⟩⟩
    | dct es => exact ⟨q.1, q.2.imp fun us z => ⟨by rw [upd_ne na]; exact z.1, z.2⟩⟩
    | dT es => exact ⟨q.1, q.2.imp fun us z => ⟨by rw [upd_ne na]; exact z.1, z.2⟩⟩
    | dTz es => exact q
    | ins C es =>
      obtain ⟨q1, dx, us, q2, q3, q4, q5, q6⟩ := q
      exact ⟨q1, dx, us, q2, q3, by rw [upd_ne fun e => hH _ (e ▸ q4)]; exact q4, q5.imp fun _ z => ⟨z.1, by rw [upd_ne na]; exact z.2⟩, q6⟩
    | frz d => exact q
def mDict1 (k : Key) (a : ME) : ME := fun l c => (a l c).bind fun d c1 => .ok (.dct [(k, d)]) c1
end
/-! ### words for the printed text -/
structure Own (K : PySem.W.Frag) (mg : Str → Option Value) (x : Str) (st : Stmt) (ps : List Str) where
  a : Addr
  fd : FuncData
  mgf : mg x = some (.ref a)
  F : Fun K x x st a fd
  b : Binds K fd ps []
theorem u100 {A : Around} {k : Nat} (hr : Room k A) : A.units + 100 < cLine := by have := hr.un; omega
theorem bt_len : bootBuiltins "len" = some (.builtin "len") := by decide +kernel
theorem bt_isinstance : bootBuiltins "isinstance" = some (.builtin "isinstance") := by decide +kernel
theorem bt_repr : bootBuiltins "repr" = some (.builtin "repr") := by decide +kernel
theorem bt_all : bootBuiltins "all" = some (.builtin "all") := by decide +kernel
theorem bt_max : bootBuiltins "max" = some (.builtin "max") := by decide +kernel
theorem bt_min : bootBuiltins "min" = some (.builtin "min") := by decide +kernel
theorem bt_int : bootBuiltins "int" = some (.type "int") := by decide +kernel
theorem bt_bool : bootBuiltins "bool" = some (.type "bool") := by decide +kernel
theorem bt_str : bootBuiltins "str" = some (.type "str") := by decide +kernel
theorem bt_list : bootBuiltins "list" = some (.type "list") := by decide +kernel
theorem bt_tuple : bootBuiltins "tuple" = some (.type "tuple") := by decide +kernel
end L2.Mi

namespace L2.Mi
open PySem PySem.Spec PyProof.Rows L2

/-! ### match x: case [a, b] if ..: -/
def seqOf (d : D) (c : Cs) : Option (List D) := match d with
  | .lst xs => some xs
  | .tup xs => some xs
  | .ro xs => some xs
  | .ref k => match c[k]? with
    | some (.lst xs) => some xs
    | _ => none
  | _ => none
section
variable {prog : Program} {w : World} {A : Around} {E : Value → Shared → Prop} {s : Shared}
end
theorem seq_at {K : PySem.W.Frag} {I H : Hp} {m : List Addr} {c : Cs} {v : V} {d : D} {ds : List D} (R : Rel K I H m c) (p : Rep K I m v d) (h : seqOf d c = some ds) : ∃ a xs, v = .ref a ∧ (SqL K H a xs ∨ SqT K H a xs) ∧ Reps K I m xs ds := by
  cases p with
  | lst q r => cases h; exact ⟨_, _, rfl, .inl (R.same.seq (.inl (.inl q))), r⟩
  | ro q r => cases h; exact ⟨_, _, rfl, .inl (R.same.seq q), r⟩
  | tup q r => cases h; exact ⟨_, _, rfl, .inr (sqT_same R.same q), r⟩
  | @ref k a q =>
    have h : (match c[k]? with
      | some (.lst xs) => some xs
      | _ => none) = some ds := h
    cases e : c[k]? with
    | none => rw [e] at h; cases h
    | some x =>
      rw [e] at h
      cases x with
      | lst es =>
        cases h
        obtain ⟨_, vs, h1, h2⟩ := R.cell k a _ q e
        exact ⟨a, vs, rfl, .inl (.inl (.inl h1)), h2⟩
      | _ => cases h
  | _ => cases h
end L2.Mi

namespace L2.Mi
open PySem PySem.Spec PyProof.Rows L2

section
variable {K : PySem.W.Frag}
/-! ### tuple(x), list(x), int(x), str(n), bool(x) -/
def lstOf (d : D) (c : Cs) : Option (List D) := match d with
  | .lst xs => some xs
  | .ro xs => some xs
  | .ref k => match c[k]? with
    | some (.lst xs) => some xs
    | _ => none
  | _ => none
theorem lst_at {I H : Hp} {m : List Addr} {c : Cs} {v : V} {d : D} {ds : List D} (R : Rel K I H m c) (p : Rep K I m v d) (h : lstOf d c = some ds) : ∃ a xs, v = .ref a ∧ SqL K H a xs ∧ Reps K I m xs ds := by
  cases p with
  | lst q r => cases h; exact ⟨_, _, rfl, R.same.seq (.inl (.inl q)), r⟩
  | ro q r => cases h; exact ⟨_, _, rfl, R.same.seq q, r⟩
  | @ref k a q =>
    have h : (match c[k]? with
      | some (.lst xs) => some xs
      | _ => none) = some ds := h
    cases e : c[k]? with
    | none => rw [e] at h; cases h
    | some x =>
      rw [e] at h
      cases x with
      | lst es =>
        cases h
        obtain ⟨_, vs, h1, h2⟩ := R.cell k a _ q e
        exact ⟨a, vs, rfl, .inl (.inl h1), h2⟩
      | _ => cases h
  | _ => cases h
/-- list(x), a new list that stays as it is -/
def listP (d : D) (c : Cs) : R D := match seqOf d c with
  | some xs => .ok (.lst xs) c
  | none => .stuck
def listD : List D → Cs → R D := on1 listP
abbrev rList (K : PySem.W.Frag) : List V → Hp → VK → Prop := fun xs H Q => ∃ p ys, xs = [.ref p] ∧ (SqL K H p ys ∨ SqT K H p ys) ∧ ∀ l, H l = none → Q (.ref l) (upd H l (.lst ys))
theorem cs_list : CallS K (rList K) listD := fun I H m c vs ds W Q R p A => by
  obtain ⟨v, d, rfl, rfl, pd, A⟩ := on1_arg p A
  have A2 : After (rD K) K I m H W Q (match seqOf d c with
    | some xs => .ok (.lst xs) c
    | none => .stuck) := A
  cases e : seqOf d c with
  | none => rw [e] at A2; exact A2.elim
  | some xs =>
    rw [e] at A2
    obtain ⟨a, ys, rfl, h1, h2⟩ := seq_at R pd e
    exact ⟨a, ys, rfl, h1, fun l nl => A2.new R nl (.lst upd_same (h2.mono (same_upd R.same nl) (Pre.refl _)))⟩
def intP (d : D) (c : Cs) : R D := match d with
  | .int i => .ok (.int i) c
  | .bl k => .ok (.int (if k then 1 else 0)) c
  | .str a => match PySem.intText? a with
    | some n => if a.length ≤ 640 then .ok (.int n) c else .stuck
    | none => .stuck
  | _ => .stuck
def intFD : List D → Cs → R D := on1 intP
def rIntF : List V → Hp → VK → Prop := fun xs H Q => ((∃ i, xs = [.int i] ∧ Q (.int i) H) ∨ ∃ k, xs = [.bl k] ∧ Q (.int (if k then 1 else 0)) H) ∨ ∃ a n, xs = [.str a] ∧ PySem.intText? a = some n ∧ a.length ≤ 640 ∧ Q (.int n) H
theorem call_intF {X : Cx} : CallR X (.type "int") rIntF := call_int1.or call_int_str
theorem cs_intF : CallS K rIntF intFD := fun I H m c vs ds W Q R p A => by
  obtain ⟨v, d, rfl, rfl, pd, A⟩ := on1_arg p A
  cases pd with
  | int i => exact .inl (.inl ⟨i, rfl, A.here R (.int i)⟩)
  | bl k => exact .inl (.inr ⟨k, rfl, A.here R (.int _)⟩)
  | str a =>
    have A2 : After (rD K) K I m H W Q (match PySem.intText? a with
      | some n => if a.length ≤ 640 then .ok (.int n) c else .stuck
      | none => .stuck) := A
    cases e : PySem.intText? a with
    | none => rw [e] at A2; exact A2.elim
    | some n =>
      rw [e] at A2
      by_cases hl : a.length ≤ 640
      · have A3 : After (rD K) K I m H W Q (if a.length ≤ 640 then .ok (.int n) c else .stuck) := A2
        rw [if_pos hl] at A3
        exact .inr ⟨a, n, rfl, e, hl, A3.here R (.int n)⟩
      · have A3 : After (rD K) K I m H W Q (if a.length ≤ 640 then .ok (.int n) c else .stuck) := A2
        rw [if_neg hl] at A3
        exact A3.elim
  | _ => exact A.elim
def strP (d : D) (c : Cs) : R D := match d with
  | .int i => if i.natAbs.log2 < 1920 then .ok (.str (toString i)) c else .stuck
  | _ => .stuck
def strFD : List D → Cs → R D := on1 strP
abbrev rStrF : List V → Hp → VK → Prop := fun xs H Q => ∃ i, xs = [.int i] ∧ i.natAbs.log2 < 1920 ∧ Q (.str (toString i)) H
theorem cs_strF : CallS K rStrF strFD := fun I H m c vs ds W Q R p A => by
  obtain ⟨v, d, rfl, rfl, pd, A⟩ := on1_arg p A
  cases pd with
  | int i =>
    have A2 : After (rD K) K I m H W Q (if i.natAbs.log2 < 1920 then .ok (.str (toString i)) c else .stuck) := A
    by_cases hl : i.natAbs.log2 < 1920
    · rw [if_pos hl] at A2
      exact ⟨i, rfl, hl, A2.here R (.str _)⟩
    · rw [if_neg hl] at A2
      exact A2.elim
  | _ => exact A.elim
end
/-! ### what stands at the module's top -/
section
variable {X : Cx} {W : WX} {pos : Pos} {x : Str}
def IsC (K : PySem.W.Frag) (mg : Str → Option Value) (x : Str) (d : D) : Prop := ∃ u v, mg x = some u ∧ RelV v u ∧ ∀ I m, Rep K I m v d
theorem me_const {d : D} (hg : Gl X x) (h : IsC X.K X.mg x d) (hd : (x == ("__debug__" : Str)) = false := by decide) : PE X (.Name x pos) (rdE X.K W (mC d)) := by
  obtain ⟨u, v, h1, h2, h3⟩ := h
  exact me_c (pe_glob hg h1 h2 hd) h3
theorem isc_int {K : PySem.W.Frag} {mg : Str → Option Value} {i : Int} {t : Tok} (h : mg x = some (.int i t)) : IsC K mg x (.int i) := ⟨_, .int i, h, ⟨_, rfl⟩, fun _ _ => .int i⟩
/-- a tuple of the written part, and what stands in it -/
inductive KV' (K : PySem.W.Frag) : Value → D → Prop where
  | int (i : Int) (t : Tok) : KV' K (.int i t) (.int i)
  | str (i : Str) (t : Tok) : KV' K (.str i t) (.str i)
theorem KV'.get {K : PySem.W.Frag} {u : Value} {d : D} (h : KV' K u d) : ∃ v, RelV v u ∧ ∀ I m, Rep K I m v d := by
  cases h with
  | int i t => exact ⟨.int i, ⟨_, rfl⟩, fun _ _ => .int i⟩
  | str i t => exact ⟨.str i, ⟨_, rfl⟩, fun _ _ => .str i⟩
theorem kvs_get {K : PySem.W.Frag} : ∀ {us : List Value} {ds : List D}, Paired (KV' K) us ds → ∃ vs, Vals vs us ∧ ∀ I m, Reps K I m vs ds
  | _, _, .nil => ⟨[], .nil, fun _ _ => .nil⟩
  | _, _, .cons h t => by
    obtain ⟨v, h1, h2⟩ := h.get
    obtain ⟨vs, t1, t2⟩ := kvs_get t
    exact ⟨v :: vs, .cons h1 t1, fun I m => .cons (h2 I m) (t2 I m)⟩
theorem isc_tup {K : PySem.W.Frag} {mg : Str → Option Value} {a : Addr} {od : Option Addr} {its : Array Value} {n : Nat} {sl : Array (Option Value)} {ds : List D} (h : mg x = some (.ref a)) (hl : K.lookup a = some ⟨.type "tuple", od, .seq its n, sl⟩) (hz : its.size ≤ sizeLine)
    (hp : Paired (KV' K) its.toList ds) (hx : ∀ s i, ds ≠ [D.str s, D.int i] := by intro _ _ h; simp at h) : IsC K mg x (.tup ds) := by
  obtain ⟨vs, r1, r2⟩ := kvs_get hp
  exact ⟨_, .ref a, h, rfl, fun I m => .tup (.inr ⟨_, its, n, hl, rfl, rfl, hz, r1⟩) (r2 I m) (.inr hx)⟩
end
end L2.Mi

namespace L2.Mi
open PySem PySem.Spec PyProof.Rows L2 PySem.SeqAt PySem.AutoSeq1

/-! ### a dict and a text are never equal -/
theorem str_eq_declines_dict (b : Str) (u : Tok) (l : Addr) (c : Value) (es : Array DictEntry) (n : Nat) (dd : Option Addr) (sl : Array (Option Value)) :
    Meets (Builtin.«str.__eq__» ⟨[.str b u, .ref l], []⟩) (fun _ R s => s.heap.get? l = some { cls := c, dict := dd, data := .dict es n, slots := sl } ∧ R (.ok (.ret .notImplemented)) s) :=
  .of_wp fun prog w A R s h => by obtain ⟨hp, g, d, tk, os⟩ := s; obtain ⟨hl, h⟩ := h; wp_walk using wpAny_loadPart' hl, wpAny_load hl; exact ⟨_, rfl, h⟩
theorem rc_dict_str {prog : Program} {w : World} {A : Around} {E Q : Value → Shared → Prop} {s : Shared} {l : Addr} {es : Array DictEntry} {n : Nat} {dd : Option Addr} {sl : Array (Option Value)} (b : Str) (u : Tok)
    (ho : s.heap.get? l = some { cls := .type "dict", dict := dd, data := .dict es n, slots := sl }) (hu : A.units < cLine) (h : Q (.bool false) s) : wpAny (model prog w) A (richCompare .Eq (.ref l) (.str b u)) Q E s := by
  have tl : s.TypeIs (.ref l) "dict" := ⟨_, ho, rfl⟩
  refine rc_eq_decline_or (k := false) tl (typeIs_str s b u) (by decide) F.sub_str_dict F.slot_dict_eq F.slot_str_eq_refl
    (fun Q' hq => wpAny_call_entry F.slot_dict_eq tl F.entry_dict_eq ?_ (F.args_dict_eq_2 _ _))
    (fun _ hq => call_meets F.slot_str_eq_refl (typeIs_str s b u) F.entry_str_eq (F.args_str_eq_2 _ _) (str_eq_declines_dict b u l (.type "dict") es n dd sl) ⟨ho, hq⟩)
    (fun _ hq => wpAny_of_eq (rfl : isSame (.ref l) (.str b u) = pure false) hq) (.inr hu) h
  show wpAny _ _ (Builtin.Dict.dictSlotArgs "__eq__" ⟨[.ref l, .str b u], []⟩ >>= _) _ _ s
  refine wpAny_bind ?_
  unfold Builtin.Dict.dictSlotArgs
  refine wpAny_bind (wpAny_notOrdered_dict tl ?_)
  show wpAny _ _ (pure (Value.ref l, Value.str b u)) _ _ s
  refine wpAny_pure ?_
  refine wpAny_bind (wpAny_isInstance (T := "str") (typeIs_str s b u) F.sub_str_dict ?_)
  simp only [Bool.not_false, if_true]
  exact wpAny_bind (wpAny_rule (wpAny_pure ⟨_, rfl, hq⟩))
def rDs : R2 := fun x y H Q => ∃ a kvs b, x = .ref a ∧ H a = some (.dK kvs) ∧ y = .str b ∧ Q (.bl false) H
theorem op_ds {X : Cx} (hu : X.A.units + 64 < cLine) : OpR X (compareOp .Eq) rDs := by
  intro pins s σ H x y v u Q I rx ry h
  obtain ⟨a, kvs, b, rfl, ha, rfl, q⟩ := h
  cases (show v = Value.ref a from rx)
  obtain ⟨t, rfl⟩ := ry
  obtain ⟨_, _, vs, _, ⟨cls, dd, data, sl⟩, es, ep, h1, h2, h3, _⟩ := (show ObjOk X.prog X.w H s.heap a (.dK kvs) from I.hok a _ ha)
  have h2 := h2.1
  simp only at h2 h3
  subst h2 h3
  exact rc_dict_str b t h1 (by omega) ⟨.bl false, H, I, rfl, q⟩
section
variable {K : PySem.W.Frag}
def rEqB (K : PySem.W.Frag) : R2 := fun x y H Q => rEqA K x y H Q ∨ rDs x y H Q
theorem op_eqB {X : Cx} (hu : X.A.units + 64 < cLine) : OpR X (compareOp .Eq) (rEqB X.K) := (op_eqA hu).or (op_ds hu)
def eqE : D → D → Cs → R D
  | .dct _, .str _, c => .ok (.bl false) c
  | d, e, c => eqD d e c
theorem os_eqE : OpS K (rEqB K) eqE := fun I H m c v1 v2 d1 d2 W Q R p1 p2 A => by
  have gen : After (rD K) K I m H W Q (eqD d1 d2 c) → rEqB K v1 v2 H Q := fun A => .inl (os_eq I H m c v1 v2 d1 d2 W Q R p1 p2 A)
  cases p1 with
  | dct h r => cases p2 with
    | str s => exact .inr ⟨_, _, s, rfl, R.same _ _ h, rfl, A.here R (.bl _)⟩
    | _ => exact gen A
  | _ => exact gen A
end
end L2.Mi

namespace L2.Mi
open PySem PySem.Spec PyProof.Rows L2

/-! ### data with dicts, read and shown -/
def kP : Key → PyData
  | .inl i => .int i
  | .inr s => .str s
mutual
inductive Rx (h : Heap) : Value → PyData → Prop
  | non : Rx h .none .none
  | bl (b : Bool) : Rx h (.bool b) (.bool b)
  | int (i : Int) (t : Tok) : Rx h (.int i t) (.int i)
  | str (x : Str) (t : Tok) : Rx h (.str x t) (.str x)
  | lst {a : Addr} {o : Obj} {vs : Array Value} {n : Nat} {xs : List PyData} (h1 : h.get? a = some o) (h2 : o.cls = .type "list") (h3 : o.data = .seq vs n) (h4 : Rxs h vs.toList xs) : Rx h (.ref a) (.list xs)
  | tup {a : Addr} {o : Obj} {vs : Array Value} {n : Nat} {xs : List PyData} (h1 : h.get? a = some o) (h2 : o.cls = .type "tuple") (h3 : o.data = .seq vs n) (h4 : Rxs h vs.toList xs) : Rx h (.ref a) (.tuple xs)
  | dct {a : Addr} {o : Obj} {es : Array DictEntry} {n : Nat} {kvs : List (PyData × PyData)} (h1 : h.get? a = some o) (h2 : o.cls = .type "dict") (h3 : o.data = .dict es n) (hs : (a == sysModules) = false)
      (h4 : Rxs h (es.toList.map (·.key)) (kvs.map (·.1))) (h5 : Rxs h (es.toList.map (·.val)) (kvs.map (·.2))) : Rx h (.ref a) (.dict kvs)
inductive Rxs (h : Heap) : List Value → List PyData → Prop
  | nil : Rxs h [] []
  | cons {v : Value} {vs : List Value} {d : PyData} {ds : List PyData} (r : Rx h v d) (t : Rxs h vs ds) : Rxs h (v :: vs) (d :: ds)
end
mutual
theorem Rx.reads {h : Heap} : ∀ {v : Value} {d : PyData}, Rx h v d → ∃ as, Reads h v d as
  | _, _, .non => ⟨_, .none⟩
  | _, _, .bl b => ⟨_, .bool b⟩
  | _, _, .int i t => ⟨_, .int i t⟩
  | _, _, .str x t => ⟨_, .str x t⟩
  | _, _, .lst h1 h2 h3 h4 => let ⟨_, r⟩ := Rxs.reads h4; ⟨_, .list h1 h2 h3 r⟩
  | _, _, .tup h1 h2 h3 h4 => let ⟨_, r⟩ := Rxs.reads h4; ⟨_, .tuple h1 h2 h3 r⟩
  | _, _, .dct h1 h2 h3 _ h4 h5 => let ⟨_, r⟩ := Rxs.reads h4; let ⟨_, q⟩ := Rxs.reads h5; ⟨_, .dict h1 h2 h3 r q⟩
theorem Rxs.reads {h : Heap} : ∀ {v : List Value} {d : List PyData}, Rxs h v d → ∃ as, ReadsAll h v d as
  | _, _, .nil => ⟨_, .nil⟩
  | _, _, .cons r t => let ⟨_, r⟩ := Rx.reads r; let ⟨_, q⟩ := Rxs.reads t; ⟨_, .cons r q⟩
end
theorem Rxs.length {h : Heap} : ∀ {v : List Value} {d : List PyData}, Rxs h v d → v.length = d.length
  | _, _, .nil => rfl
  | _, _, .cons _ t => congrArg (· + 1) t.length
section
variable {P : Program} {w : World} {h : Heap}
def Shw (P : Program) (w : World) (h : Heap) (n : Nat) (v : Value) (t : Str) : Prop := ∃ bs, ReadAtMost h n bs ∧ ReprK P w bs h n v t
def Shws (P : Program) (w : World) (h : Heap) (n : Nat) (vs : List Value) (ts : List Str) : Prop := ∃ bs, ReadAtMost h n bs ∧ ReprAllK P w bs h n vs ts
theorem Shws.cons {n m : Nat} {v : Value} {vs : List Value} {t : Str} {ts : List Str} (a : Shw P w h n v t) (b : Shws P w h m vs ts) : Shws P w h (max n m) (v :: vs) (t :: ts) := by
  obtain ⟨b1, r1, k1⟩ := a
  obtain ⟨b2, r2, k2⟩ := b
  refine ⟨b1 ++ b2, (r1.mono (Nat.le_max_left _ _)).append (r2.mono (Nat.le_max_right _ _)), ?_⟩
  exact .cons ((k1.more fun b hb => List.mem_append_left _ hb).level_le (Nat.le_max_left _ _)) (k2.more_le (fun b hb => List.mem_append_right _ hb) (Nat.le_max_right _ _))
/-- a dict's parts: its entries as they are shown, and that it does not stand in itself -/
theorem shw_dct {a : Addr} {o : Obj} {es : Array DictEntry} {n : Nat} {kvs : List (PyData × PyData)} (r : Rx h (.ref a) (.dict kvs)) (h3 : o.data = .dict es n) (k1 : Shws P w h (PyData.depthAll (kvs.map (·.1))) (es.toList.map (·.key)) (PyData.shownAll (kvs.map (·.1))))
    (k2 : Shws P w h (PyData.depthAll (kvs.map (·.2))) (es.toList.map (·.val)) (PyData.shownAll (kvs.map (·.2)))) :
    ∃ bs, ReadAtMost h (PyData.depthKv kvs) bs ∧ a ∉ bs ∧ ReprEntriesK P w bs h (PyData.depthKv kvs) es.toList (PyData.shownKv kvs) := by
  obtain ⟨b1, r1, k1⟩ := k1
  obtain ⟨b2, r2, k2⟩ := k2
  have hb := (r1.mono (PyData.depthAll_keys_le kvs)).append (r2.mono (PyData.depthAll_vals_le kvs))
  obtain ⟨as, rr⟩ := r.reads
  refine ⟨b1 ++ b2, hb, not_mem_of_deeper rr (by simp only [PyData.depth]; omega) hb, ?_⟩
  rw [PyData.shownKv_eq]
  exact ReprEntriesK.of_two _ _ _ (k1.more_le (fun b hb => List.mem_append_left _ hb) (PyData.depthAll_keys_le kvs)) (k2.more_le (fun b hb => List.mem_append_right _ hb) (PyData.depthAll_vals_le kvs))
theorem shw_seq {a : Addr} {xs : List PyData} {d : PyData} {vs : List Value} (r : Rx h (.ref a) d) (hd : d.depth = PyData.depthAll xs + 1) (k : Shws P w h (PyData.depthAll xs) vs (PyData.shownAll xs)) :
    ∃ bs, ReadAtMost h (PyData.depthAll xs) bs ∧ a ∉ bs ∧ ReprAllK P w bs h (PyData.depthAll xs) vs (PyData.shownAll xs) := by
  obtain ⟨bs, hb, hk⟩ := k
  obtain ⟨as, rr⟩ := r.reads
  exact ⟨bs, hb, not_mem_of_deeper rr (by rw [hd]; omega) hb, hk⟩
mutual
theorem Rx.shw : ∀ {v : Value} {d : PyData}, Rx h v d → d.showable = true → d.shown.length ≤ sizeLine → Shw P w h d.depth v d.shown
  | _, _, .non, _, _ => ⟨[], (fun _ h => nomatch h), by simp only [PyData.shown]; exact .of_is ReprIs.none _ _ _⟩
  | _, _, .bl b, _, _ => ⟨[], (fun _ h => nomatch h), by simp only [PyData.shown]; exact .of_is (ReprIs.bool b) _ _ _⟩
  | _, _, .int i t, hs, _ => ⟨[], (fun _ h => nomatch h), by simp only [PyData.shown]; exact .of_is (ReprIs.int t (by simpa [PyData.showable] using hs)) _ _ _⟩
  | _, _, .str x t, _, hz => ⟨[], (fun _ h => nomatch h), by simp only [PyData.shown]; exact .of_is (ReprIs.str x t (by simpa only [PyData.shown] using hz)) _ _ _⟩
  | _, _, .lst (a := a) (vs := vs) (xs := xs) h1 h2 h3 h4, hs, hz => by
    have hz' : (listText (PyData.shownAll xs)).length ≤ sizeLine := by simpa only [PyData.shown] using hz
    have r : Rx h (.ref a) (.list xs) := .lst h1 h2 h3 h4
    obtain ⟨bs, hb, hna, hk⟩ := shw_seq r (by simp only [PyData.depth]) (Rxs.shw h4 (by simpa [PyData.showable] using hs) fun t ht => Nat.le_trans (listText_mem_le ht) hz')
    obtain ⟨as, rr⟩ := r.reads
    refine ⟨a :: bs, ReadAtMost.cons rr (by simp only [PyData.depth]; omega) hb, ?_⟩
    simp only [PyData.depth, PyData.shown]
    obtain ⟨l⟩ := vs
    cases l with
    | nil =>
      have e : xs = [] := List.length_eq_zero_iff.mp h4.length.symm
      subst e
      simp only [PyData.shownAll, listText_nil]
      exact ReprK.listEmpty h1 h2 h3
    | cons x l => exact ReprK.list h1 h2 h3 hna (by simpa using hk.length_eq) (fun i y e => hk.item i y (by simpa using e))
  | _, _, .tup (a := a) (xs := xs) h1 h2 h3 h4, hs, hz => by
    have hz' : (tupleText (PyData.shownAll xs)).length ≤ sizeLine := by simpa only [PyData.shown] using hz
    have r : Rx h (.ref a) (.tuple xs) := .tup h1 h2 h3 h4
    obtain ⟨bs, hb, hna, hk⟩ := shw_seq r (by simp only [PyData.depth]) (Rxs.shw h4 (by simpa [PyData.showable] using hs) fun t ht => Nat.le_trans (tupleText_mem_le ht) hz')
    obtain ⟨as, rr⟩ := r.reads
    refine ⟨a :: bs, ReadAtMost.cons rr (by simp only [PyData.depth]; omega) hb, ?_⟩
    simp only [PyData.depth, PyData.shown]
    exact ReprK.tuple h1 h2 h3 hna hk
  | _, _, .dct (a := a) (es := es) (kvs := kvs) h1 h2 h3 hx h4 h5, hs, hz => by
    have hz' : (dictText (PyData.shownKv kvs)).length ≤ sizeLine := by simpa only [PyData.shown] using hz
    obtain ⟨hs1, hs2⟩ := PyData.showableKv_split kvs (by simpa [PyData.showable] using hs)
    have r : Rx h (.ref a) (.dict kvs) := .dct h1 h2 h3 hx h4 h5
    obtain ⟨bs, hb, hna, hk⟩ := shw_dct r h3 (Rxs.shw h4 hs1 fun t ht => let ⟨p, hp, hl⟩ := PyData.shownKv_key_le kvs t ht; Nat.le_trans hl (Nat.le_trans (dictText_mem_le hp) hz'))
      (Rxs.shw h5 hs2 fun t ht => let ⟨p, hp, hl⟩ := PyData.shownKv_val_le kvs t ht; Nat.le_trans hl (Nat.le_trans (dictText_mem_le hp) hz'))
    obtain ⟨as, rr⟩ := r.reads
    refine ⟨a :: bs, ReadAtMost.cons rr (by simp only [PyData.depth]; omega) hb, ?_⟩
    simp only [PyData.depth, PyData.shown]
    exact ReprK.dict h1 h2 h3 hx hna hk
theorem Rxs.shw : ∀ {v : List Value} {d : List PyData}, Rxs h v d → PyData.showableAll d = true → (∀ t ∈ PyData.shownAll d, t.length ≤ sizeLine) → Shws P w h (PyData.depthAll d) v (PyData.shownAll d)
  | _, _, .nil, _, _ => ⟨[], (fun _ h => nomatch h), by simp only [PyData.shownAll]; exact .nil⟩
  | _, _, .cons (d := d) (ds := ds) r t, hs, hz => by
    have hs' : d.showable = true ∧ PyData.showableAll ds = true := by simpa [PyData.showableAll] using hs
    simp only [PyData.depthAll, PyData.shownAll] at hz ⊢
    exact Shws.cons (Rx.shw r hs'.1 (hz _ (List.mem_cons_self ..))) (Rxs.shw t hs'.2 fun t ht => hz t (List.mem_cons_of_mem _ ht))
end
/-- repr(x), x an object -/
theorem repr_rx {A : Around} {E Q : Value → Shared → Prop} {s : Shared} {a : Addr} {d : PyData} (r : Rx s.heap (.ref a) d) (hs : d.showable = true) (hg : A.guards = some []) (hu : A.units + (d.depth + 1) < cLine)
    (hQ : ∀ h' u tk, (∀ b o, s.heap.get? b = some o → h'.get? b = some o) → Q (.str d.shown u) { s with heap := h', toks := tk }) (hz : d.shown.length ≤ sizeLine) : wpAny (model P w) A (call (.builtin "repr") [.ref a]) Q E s := by
  have fin : ∀ {idr : String}, wpAny (model P w) A.in1 (call (.builtin idr) [.ref a]) (fun v s1 => ∃ h' u tk, (∀ b o, s.heap.get? b = some o → h'.get? b = some o) ∧ v = .str d.shown u ∧ s1 = { s with heap := h', toks := tk }) E s →
      wpAny (model P w) A.in1 (call (.builtin idr) [.ref a]) (fun r s₁ => ∃ x t, r = .str x t ∧ Q r s₁) E s := fun hc =>
    wpAny_mono hc (fun v s1 ⟨h', u, tk, k, e1, e2⟩ => ⟨_, _, e1, by rw [e1, e2]; exact hQ h' u tk k⟩) fun _ _ x => x
  have hu1 : A.in1.units = A.units + 1 := rfl
  cases r with
  | @lst _ o vs n xs h1 h2 h3 h4 =>
    have r : Rx s.heap (.ref a) (.list xs) := .lst h1 h2 h3 h4
    have hz' : (listText (PyData.shownAll xs)).length ≤ sizeLine := by simpa only [PyData.shown] using hz
    obtain ⟨bs, hb, hna, hk⟩ := shw_seq (P := P) (w := w) r (by simp only [PyData.depth]) (Rxs.shw h4 (by simpa [PyData.showable] using hs) fun t ht => Nat.le_trans (listText_mem_le ht) hz')
    simp only [PyData.depth] at hu
    simp only [PyData.shown] at fin
    refine call_repr_slot (by omega) ⟨o, h1, h2⟩ F.slot_list_repr.toG (fin ?_)
    obtain ⟨l⟩ := vs
    cases l with
    | nil =>
      have e : xs = [] := List.length_eq_zero_iff.mp h4.length.symm
      subst e
      refine call_list_repr_empty ⟨o, h1, h2⟩ h1 h3 ⟨s.heap, s.toks, s.toks + 1, fun _ _ e => e, ?_, rfl⟩
      simp only [PyData.shownAll, listText_nil]
    | cons x l => exact call_list_reprK h1 h2 h3 hna (by simpa using hk.length_eq) (fun i y e => hk.item i y (by simpa using e)) (g := []) hg (fun b _ => Clear.nil b) (by omega) (fun _ _ e => e) (fun h' u tk k => ⟨h', u, tk, k, rfl, rfl⟩) hz'
  | @tup _ o vs n xs h1 h2 h3 h4 =>
    have r : Rx s.heap (.ref a) (.tuple xs) := .tup h1 h2 h3 h4
    have hz' : (tupleText (PyData.shownAll xs)).length ≤ sizeLine := by simpa only [PyData.shown] using hz
    obtain ⟨bs, hb, hna, hk⟩ := shw_seq (P := P) (w := w) r (by simp only [PyData.depth]) (Rxs.shw h4 (by simpa [PyData.showable] using hs) fun t ht => Nat.le_trans (tupleText_mem_le ht) hz')
    simp only [PyData.depth] at hu
    simp only [PyData.shown] at fin
    refine call_repr_slot (by omega) ⟨o, h1, h2⟩ F.slot_tuple_repr (fin ?_)
    exact call_tuple_reprK h1 h2 h3 hna hk (g := []) hg (fun b _ => Clear.nil b) (by omega) (fun _ _ e => e) (fun h' u tk k => ⟨h', u, tk, k, rfl, rfl⟩) hz'
  | @dct _ o es n kvs h1 h2 h3 hx h4 h5 =>
    have r : Rx s.heap (.ref a) (.dict kvs) := .dct h1 h2 h3 hx h4 h5
    have hz' : (dictText (PyData.shownKv kvs)).length ≤ sizeLine := by simpa only [PyData.shown] using hz
    obtain ⟨hs1, hs2⟩ := PyData.showableKv_split kvs (by simpa [PyData.showable] using hs)
    obtain ⟨bs, hb, hna, hk⟩ := shw_dct (P := P) (w := w) r h3 (Rxs.shw h4 hs1 fun t ht => let ⟨p, hp, hl⟩ := PyData.shownKv_key_le kvs t ht; Nat.le_trans hl (Nat.le_trans (dictText_mem_le hp) hz'))
      (Rxs.shw h5 hs2 fun t ht => let ⟨p, hp, hl⟩ := PyData.shownKv_val_le kvs t ht; Nat.le_trans hl (Nat.le_trans (dictText_mem_le hp) hz'))
    simp only [PyData.depth] at hu
    simp only [PyData.shown] at fin
    refine call_repr_slot (by omega) ⟨o, h1, h2⟩ F.slot_dict_repr (fin ?_)
    exact call_dict_reprK h1 h2 h3 hx hna hk (g := []) hg (fun b _ => Clear.nil b) (by omega) (fun _ _ e => e) (fun h' u tk k => ⟨h', u, tk, k, rfl, rfl⟩) hz'
end
/-! ### .. at the level of tracked things -/
mutual
inductive Dx (K : PySem.W.Frag) (H : Hp) : V → PyData → Prop
  | non : Dx K H .non .none
  | bl (b : Bool) : Dx K H (.bl b) (.bool b)
  | int (i : Int) : Dx K H (.int i) (.int i)
  | str (x : Str) : Dx K H (.str x) (.str x)
  | lst {a : Addr} {xs : List V} {ds : List PyData} (h : SqL K H a xs) (t : Dxs K H xs ds) : Dx K H (.ref a) (.list ds)
  | tup {a : Addr} {xs : List V} {ds : List PyData} (h : SqT K H a xs) (t : Dxs K H xs ds) : Dx K H (.ref a) (.tuple ds)
  | dct {a : Addr} {xs : List (Key × V)} {ds : List (PyData × PyData)} (h : H a = some (.dK xs)) (t : Dxk K H xs ds) : Dx K H (.ref a) (.dict ds)
inductive Dxs (K : PySem.W.Frag) (H : Hp) : List V → List PyData → Prop
  | nil : Dxs K H [] []
  | cons {v : V} {vs : List V} {d : PyData} {ds : List PyData} (h : Dx K H v d) (t : Dxs K H vs ds) : Dxs K H (v :: vs) (d :: ds)
inductive Dxk (K : PySem.W.Frag) (H : Hp) : List (Key × V) → List (PyData × PyData) → Prop
  | nil : Dxk K H [] []
  | cons {k : Key} {v : V} {vs : List (Key × V)} {d : PyData} {ds : List (PyData × PyData)} (h : Dx K H v d) (t : Dxk K H vs ds) : Dxk K H ((k, v) :: vs) ((kP k, d) :: ds)
end
section
variable {X : Cx} {pins : List (Addr × Obj)} {σ : St} {H : Hp} {s : Shared}
theorem key_rx {h : Heap} {k : Key} {u : Value} (e : keyIs k u = true) : Rx h u (kP k) := by
  rcases keyIs_shape e with ⟨i, t, rfl, rfl⟩ | ⟨x, t, rfl, rfl⟩
  · exact .int i t
  · exact .str x t
mutual
theorem Dx.rx (I : Inv X pins σ H s) : ∀ {v : V} {d : PyData} {u : Value}, Dx X.K H v d → RelV v u → Rx s.heap u d
  | _, _, _, .non, r => by cases r; exact .non
  | _, _, _, .bl b, r => by cases r; exact .bl b
  | _, _, _, .int i, r => by obtain ⟨t, rfl⟩ := r; exact .int i t
  | _, _, _, .str x, r => by obtain ⟨t, rfl⟩ := r; exact .str x t
  | _, _, _, .lst h t, r => by
    cases r
    obtain ⟨its, rv, ⟨o, n, ho, hc, _, hd⟩, _⟩ := I.list h
    exact .lst ho hc hd (by simpa using Dxs.rx I t rv)
  | _, _, _, .tup h t, r => by
    cases r
    obtain ⟨its, rv, ⟨o, ho, hc, n, hd⟩, _⟩ := I.tuple h
    exact .tup ho hc hd (by simpa using Dxs.rx I t rv)
  | _, _, _, .dct (a := a) h t, r => by
    cases r
    obtain ⟨_, hs, vs, rv, o, es, ep, h1, h2, h3, _, h5, _⟩ := (show ObjOk X.prog X.w H s.heap a (.dK _) from I.hok a _ h)
    obtain ⟨k1, k2⟩ := Dxk.rx I t rv h5
    exact .dct h1 h2.1 h3 hs k1 k2
theorem Dxs.rx (I : Inv X pins σ H s) : ∀ {v : List V} {d : List PyData} {u : List Value}, Dxs X.K H v d → Vals v u → Rxs s.heap u d
  | _, _, _, .nil, r => by cases r; exact .nil
  | _, _, _, .cons h t, r => by
    cases r with
    | cons r1 r2 => exact .cons (Dx.rx I h r1) (Dxs.rx I t r2)
theorem Dxk.rx (I : Inv X pins σ H s) : ∀ {v : List (Key × V)} {d : List (PyData × PyData)} {u : List (Key × Value)} {es : List DictEntry}, Dxk X.K H v d → KV v u → Pairs (mixKind X.prog X.w) es u →
    Rxs s.heap (es.map (·.key)) (d.map (·.1)) ∧ Rxs s.heap (es.map (·.val)) (d.map (·.2))
  | _, _, _, _, .nil, r, p => by
    cases r
    cases p
    exact ⟨.nil, .nil⟩
  | _, _, _, _, .cons (k := k) h t, r, p => by
    cases r with
    | cons r1 r2 =>
      cases p with
      | cons p1 p2 p3 =>
        obtain ⟨q1, q2⟩ := Dxk.rx I t r2 p3
        obtain ⟨e1, e2⟩ := r1
        refine ⟨.cons (key_rx (k := k) ?_) q1, .cons ?_ q2⟩
        · have e1 : k = _ := e1
          rw [e1]
          exact p1
        · have q := Dx.rx I h e2
          rw [← p2] at q
          exact q
end
end
/-! ### repr and == of what a computation holds, cells looked through -/
def mapO {α β : Type} (f : α → Option β) : List α → Option (List β)
  | [] => some []
  | x :: xs => match f x with
    | some y => match mapO f xs with
      | some ys => some (y :: ys)
      | none => none
    | none => none
def toPyC : Nat → Cs → D → Option PyData
  | 0, _, _ => none
  | n + 1, c, d => match d with
    | .non => some .none
    | .bl b => some (.bool b)
    | .int i => some (.int i)
    | .str s => some (.str s)
    | .lst xs => (mapO (toPyC n c) xs).map .list
    | .ro xs => (mapO (toPyC n c) xs).map .list
    | .tup xs => (mapO (toPyC n c) xs).map .tuple
    | .dct kvs => (mapO (fun p => (toPyC n c p.2).map fun q => (kP p.1, q)) kvs).map .dict
    | .ref k => match c[k]? with
      | some (.lst xs) => (mapO (toPyC n c) xs).map .list
      | some (.dct kvs) => (mapO (fun p => (toPyC n c p.2).map fun q => (kP p.1, q)) kvs).map .dict
      | some (.frz d) => toPyC n c d
      | _ => none
    | _ => none
section
variable {K : PySem.W.Frag} {I H : Hp} {m : List Addr} {c : Cs}
theorem dxs_of {f : D → Option PyData} (hf : ∀ v d p, Rep K I m v d → f d = some p → Dx K H v p) : ∀ {vs : List V} {ds : List D} {ps : List PyData}, Reps K I m vs ds → mapO f ds = some ps → Dxs K H vs ps
  | _, _, _, .nil, e => by simp [mapO] at e; subst e; exact .nil
  | _, _, _, .cons (d := d) (ds := ds) h t, e => by
    unfold mapO at e
    cases q : f d with
    | none => rw [q] at e; cases e
    | some y =>
      cases q2 : mapO f ds with
      | none => rw [q, q2] at e; cases e
      | some ys => rw [q, q2] at e; cases e; exact .cons (hf _ _ _ h q) (dxs_of hf t q2)
theorem dxk_of {f : D → Option PyData} (hf : ∀ v d p, Rep K I m v d → f d = some p → Dx K H v p) : ∀ {vs : List (Key × V)} {ds : List (Key × D)} {ps : List (PyData × PyData)}, RepK K I m vs ds →
    mapO (fun p => (f p.2).map fun q => (kP p.1, q)) ds = some ps → Dxk K H vs ps
  | _, _, _, .nil, e => by simp [mapO] at e; subst e; exact .nil
  | _, _, _, .cons (k := k) (d := d) (ds := ds) h t, e => by
    unfold mapO at e
    cases q : f d with
    | none => simp only [q, Option.map_none] at e; cases e
    | some y =>
      cases q2 : mapO (fun p : Key × D => (f p.2).map fun q => (kP p.1, q)) ds with
      | none => simp only [q, q2, Option.map_some] at e; cases e
      | some ys => simp only [q, q2, Option.map_some] at e; cases e; exact .cons (hf _ _ _ h q) (dxk_of hf t q2)
theorem dx_of (R : Rel K I H m c) : ∀ (n : Nat) (v : V) (d : D) (p : PyData), Rep K I m v d → toPyC n c d = some p → Dx K H v p
  | 0, _, _, _, _, e => by cases e
  | n + 1, v, d, p, h, e => by
    have ih := dx_of R n
    cases h with
    | non => cases e; exact .non
    | bl b => cases e; exact .bl b
    | int i => cases e; exact .int i
    | str s => cases e; exact .str s
    | lst h r =>
      obtain ⟨ps, e1, rfl⟩ := Option.map_eq_some_iff.mp e
      exact .lst (.inl (.inl (R.same _ _ h))) (dxs_of ih r e1)
    | ro h r =>
      obtain ⟨ps, e1, rfl⟩ := Option.map_eq_some_iff.mp e
      exact .lst (R.same.seq h) (dxs_of ih r e1)
    | tup h r =>
      obtain ⟨ps, e1, rfl⟩ := Option.map_eq_some_iff.mp e
      exact .tup (sqT_same R.same h) (dxs_of ih r e1)
    | dct h r =>
      obtain ⟨ps, e1, rfl⟩ := Option.map_eq_some_iff.mp e
      exact .dct (R.same _ _ h) (dxk_of ih r e1)
    | @ref k a h =>
      have e : (match c[k]? with
        | some (.lst xs) => (mapO (toPyC n c) xs).map .list
        | some (.dct kvs) => (mapO (fun p => (toPyC n c p.2).map fun q => (kP p.1, q)) kvs).map .dict
        | some (.frz d) => toPyC n c d
        | _ => none) = some p := e
      cases q : c[k]? with
      | none => rw [q] at e; cases e
      | some x =>
        rw [q] at e
        have hc := R.cell k a x h q
        cases x with
        | lst xs =>
          obtain ⟨ps, e1, rfl⟩ := Option.map_eq_some_iff.mp e
          obtain ⟨_, vs, h1, h2⟩ := hc
          exact .lst (.inl (.inl h1)) (dxs_of ih h2 e1)
        | dct xs =>
          obtain ⟨ps, e1, rfl⟩ := Option.map_eq_some_iff.mp e
          obtain ⟨_, vs, h1, h2⟩ := hc
          exact .dct h1 (dxk_of ih h2 e1)
        | frz d => exact ih _ _ _ hc.2 e
        | _ => cases e
    | _ => cases e
def rReprX (K : PySem.W.Frag) : List V → Hp → VK → Prop := fun xs H Q => ∃ v d, xs = [v] ∧ Dx K H v d ∧ d.depth ≤ 60 ∧ d.showable = true ∧ d.shown.length ≤ sizeLine ∧ Q (.str d.shown) H
theorem call_reprX {X : Cx} (hg : X.A.guards = some []) (hu : X.A.units + 100 < cLine) : CallR X (.builtin "repr") (rReprX X.K) := fun pins s σ H xs us Q I r h => by
  obtain ⟨v, d, rfl, hd, hs, hw, hz, q⟩ := h
  obtain ⟨u, rfl, rx⟩ := vals1 r
  have hr := Dx.rx I hd rx
  have far : ∀ {a : Addr}, u = .ref a → wpAny (model X.prog X.w) X.A (call (.builtin "repr") [u]) (EP X pins σ Q) X.xe s := fun {a} e => by
    subst e
    exact repr_rx hr hw hg (by omega) (fun h' t tk k => ⟨.str _, H, I.kept k, ⟨t, rfl⟩, q⟩) hz
  cases hd with
  | non => cases (show u = Value.none from rx); exact PySem.P.repr_of_none ⟨.str _, H, I.tok _, ⟨_, rfl⟩, by simpa [PyData.shown] using q⟩
  | bl b => cases (show u = Value.bool b from rx); exact PySem.P.repr_of_bool ⟨.str _, H, I.tok _, ⟨_, rfl⟩, by simpa [PyData.shown] using q⟩
  | int i =>
    obtain ⟨t, rfl⟩ := rx
    exact PySem.P.repr_of_int (by simpa [PyData.showable] using hw) ⟨.str _, H, I.tok _, ⟨_, rfl⟩, by simpa [PyData.shown] using q⟩
  | str x =>
    obtain ⟨t, rfl⟩ := rx
    exact PySem.P.repr_of_str ⟨.str _, H, I.tok _, ⟨_, rfl⟩, by simpa [PyData.shown] using q⟩ (by simpa [PyData.shown] using hz)
  | lst h t => exact far rx
  | tup h t => exact far rx
  | dct h t => exact far rx
def okR (p : PyData) : Bool := decide (p.depth ≤ 60) && p.showable && decide (p.shown.length ≤ sizeLine)
def reprQ (d : D) (c : Cs) : R D := match toPyC 30 c d with
  | some p => if okR p = true then .ok (.str p.shown) c else .stuck
  | none => .stuck
def reprX : List D → Cs → R D := on1 reprQ
theorem cs_reprX : CallS K (rReprX K) reprX := fun I H m c vs ds W Q R p A => by
  obtain ⟨v, d, rfl, rfl, p, A⟩ := on1_arg p A
  unfold reprQ at A
  cases q : toPyC 30 c d with
  | none => rw [q] at A; exact A.elim
  | some y =>
    rw [q] at A
    by_cases h : okR y = true
    · have A2 : After (rD K) K I m H W Q (if okR y = true then .ok (.str y.shown) c else .stuck) := A
      rw [if_pos h] at A2
      simp only [okR, Bool.and_eq_true, decide_eq_true_eq] at h
      exact ⟨v, y, rfl, dx_of R 30 _ _ _ p q, h.1.1, h.1.2, h.2, A2.here R (.str _)⟩
    · have A2 : After (rD K) K I m H W Q (if okR y = true then .ok (.str y.shown) c else .stuck) := A
      rw [if_neg h] at A2
      exact A2.elim
/-- == of data that stands in cells, too -/
def rEqX (neg : Bool) (K : PySem.W.Frag) : R2 := fun x y H Q => ∃ d e, Dx K H x d ∧ Dx K H y e ∧ SeqAt.shaped d = true ∧ SeqAt.shaped e = true ∧ Q (.bl (if neg then !PyData.eqv d e else PyData.eqv d e)) H
theorem op_eqX {X : Cx} (hu : X.A.units + 64 < cLine) : OpR X (compareOp .Eq) (rEqX false X.K) := by
  intro pins s σ H x y v u Q I rx ry h
  obtain ⟨d, e, hd, he, sd, se, q⟩ := h
  obtain ⟨as, r1⟩ := (Dx.rx I hd rx).reads
  obtain ⟨bs, r2⟩ := (Dx.rx I he ry).reads
  exact SeqAt.compareEq_shaped r1 r2 sd se hu ⟨.bl _, H, I, rfl, q⟩
theorem op_neX {X : Cx} (hu : X.A.units + 64 < cLine) : OpR X (compareOp .NotEq) (rEqX true X.K) := by
  intro pins s σ H x y v u Q I rx ry h
  obtain ⟨d, e, hd, he, sd, se, q⟩ := h
  obtain ⟨as, r1⟩ := (Dx.rx I hd rx).reads
  obtain ⟨bs, r2⟩ := (Dx.rx I he ry).reads
  exact SeqAt.compareNe_shaped r1 r2 sd se hu ⟨.bl _, H, I, rfl, q⟩
def eqQ (neg : Bool) (d e : D) (c : Cs) : R D := match toPyC 30 c d with
  | some a => match toPyC 30 c e with
    | some b => if SeqAt.shaped a = true ∧ SeqAt.shaped b = true then .ok (.bl (if neg then !PyData.eqv a b else PyData.eqv a b)) c else .stuck
    | none => .stuck
  | none => .stuck
theorem eqQ_read {W : XK} {Q : VK} {v1 v2 : V} {d1 d2 : D} {neg : Bool} (R : Rel K I H m c) (p1 : Rep K I m v1 d1) (p2 : Rep K I m v2 d2) (A : After (rD K) K I m H W Q (eqQ neg d1 d2 c)) : rEqX neg K v1 v2 H Q := by
  unfold eqQ at A
  cases q1 : toPyC 30 c d1 with
  | none => rw [q1] at A; exact A.elim
  | some a =>
    cases q2 : toPyC 30 c d2 with
    | none => rw [q1, q2] at A; exact A.elim
    | some b =>
      rw [q1, q2] at A
      by_cases hs : SeqAt.shaped a = true ∧ SeqAt.shaped b = true
      · have A2 : After (rD K) K I m H W Q (if SeqAt.shaped a = true ∧ SeqAt.shaped b = true then .ok (.bl (if neg then !PyData.eqv a b else PyData.eqv a b)) c else .stuck) := A
        rw [if_pos hs] at A2
        exact ⟨a, b, dx_of R 30 _ _ _ p1 q1, dx_of R 30 _ _ _ p2 q2, hs.1, hs.2, A2.here R (.bl _)⟩
      · have A2 : After (rD K) K I m H W Q (if SeqAt.shaped a = true ∧ SeqAt.shaped b = true then .ok (.bl (if neg then !PyData.eqv a b else PyData.eqv a b)) c else .stuck) := A
        rw [if_neg hs] at A2
        exact A2.elim
/-- ==, !=: scalars and a dict against a text as before, all else by what the cells hold -/
def eqX : D → D → Cs → R D
  | .int i, .int j, c => .ok (.bl (decide (i = j))) c
  | .str i, .str j, c => .ok (.bl (decide (i = j))) c
  | .bl i, .bl j, c => .ok (.bl (decide (i = j))) c
  | .dct _, .str _, c => .ok (.bl false) c
  | d, e, c => eqQ false d e c
def neX : D → D → Cs → R D
  | .int i, .int j, c => .ok (.bl (!decide (i = j))) c
  | .str i, .str j, c => .ok (.bl (!decide (i = j))) c
  | .bl i, .bl j, c => .ok (.bl (!decide (i = j))) c
  | d, e, c => eqQ true d e c
def rEqY (K : PySem.W.Frag) : R2 := fun x y H Q => rEqB K x y H Q ∨ rEqX false K x y H Q
def rNeY (K : PySem.W.Frag) : R2 := fun x y H Q => rNeA K x y H Q ∨ rEqX true K x y H Q
theorem op_eqY {X : Cx} (hu : X.A.units + 64 < cLine) : OpR X (compareOp .Eq) (rEqY X.K) := (op_eqB hu).or (op_eqX hu)
theorem op_neY {X : Cx} (hu : X.A.units + 64 < cLine) : OpR X (compareOp .NotEq) (rNeY X.K) := (op_neA hu).or (op_neX hu)
theorem os_eqX : OpS K (rEqY K) eqX := fun I H m c v1 v2 d1 d2 W Q R p1 p2 A => by
  have gen : After (rD K) K I m H W Q (eqQ false d1 d2 c) → rEqY K v1 v2 H Q := fun A => .inr (eqQ_read R p1 p2 A)
  cases p1 with
  | int i => cases p2 with
    | int j => exact .inl (os_eqE I H m c _ _ _ _ W Q R (.int i) (.int j) A)
    | _ => exact gen A
  | str i => cases p2 with
    | str j => exact .inl (os_eqE I H m c _ _ _ _ W Q R (.str i) (.str j) A)
    | _ => exact gen A
  | bl i => cases p2 with
    | bl j => exact .inl (os_eqE I H m c _ _ _ _ W Q R (.bl i) (.bl j) A)
    | _ => exact gen A
  | dct h r => cases p2 with
    | str j => exact .inl (os_eqE I H m c _ _ _ _ W Q R (.dct h r) (.str j) A)
    | _ => exact gen A
  | _ => exact gen A
theorem os_neX : OpS K (rNeY K) neX := fun I H m c v1 v2 d1 d2 W Q R p1 p2 A => by
  have gen : After (rD K) K I m H W Q (eqQ true d1 d2 c) → rNeY K v1 v2 H Q := fun A => .inr (eqQ_read R p1 p2 A)
  cases p1 with
  | int i => cases p2 with
    | int j => exact .inl (os_ne I H m c _ _ _ _ W Q R (.int i) (.int j) A)
    | _ => exact gen A
  | str i => cases p2 with
    | str j => exact .inl (os_ne I H m c _ _ _ _ W Q R (.str i) (.str j) A)
    | _ => exact gen A
  | bl i => cases p2 with
    | bl j => exact .inl (os_ne I H m c _ _ _ _ W Q R (.bl i) (.bl j) A)
    | _ => exact gen A
  | _ => exact gen A
end
end L2.Mi

namespace L2.Mi
open PySem PySem.Spec PyProof.Rows L2

section
variable {K : PySem.W.Frag}
/-! ### in, of what stands in a cell -/
/-! ### s.split(sep): a list of its own -/
/-! ### methods of a list's cell -/
def isL (d : D) (c : Cs) : Bool := (lstOf d c).isSome
def mBM (g : D → List D → Cs → R D) (a : ME) (t : MA) : ME := fun l c => (a l c).bind fun x c1 => if isL x c1 = true then (t l c1).bind fun xs c2 => g x xs c2 else .stuck
def MethS (K : PySem.W.Frag) (r : V → List V → Hp → VK → Prop) (g : D → List D → Cs → R D) : Prop := ∀ (I H : Hp) (m : List Addr) (c : Cs) (v : V) (vs : List V) (d : D) (ds : List D) (W : XK) (Q : VK),
  Rel K I H m c → Rep K I m v d → Reps K I m vs ds → After (rD K) K I m H W Q (g d ds c) → r v vs H Q
theorem me_bm {X : Cx} {W : WX} {e : Expr} {fa : ME} {ga : MA} {r : V → List V → Hp → VK → Prop} {g : D → List D → Cs → R D} (h : PE X e (tBM X.K "list" r (rdE X.K W fa) (rdA X.K W ga))) (hs : MethS X.K r g) : PE X e (rdE X.K W (mBM g fa ga)) :=
  PEi h fun σ H Q ⟨I, m, l, c, R, L, A⟩ => ⟨I, m, l, c, R, L, After.mono (After.bind (rep := rD X.K) A) fun v1 H1 ⟨I1, m1, c1, d1, E1, R1, p1, A1⟩ => by
    have A1 : After (rD X.K) X.K I1 m1 H1 _ Q (if isL d1 c1 = true then (ga l c1).bind fun xs c2 => g d1 xs c2 else .stuck) := A1
    by_cases hl : isL d1 c1 = true
    · rw [if_pos hl] at A1
      obtain ⟨ds, hds⟩ := Option.isSome_iff_exists.mp hl
      obtain ⟨a, xs, e1, h1, _⟩ := lst_at R1 p1 hds
      subst e1
      refine ⟨.inl ⟨rfl, xs, h1⟩, I1, m1, l, c1, R1, L.ext E1, After.mono (After.bind (rep := rA X.K) A1) fun v2 H2 ⟨I2, m2, c2, d2, E2, R2, p2, A2⟩ => ?_⟩
      exact hs I2 H2 m2 c2 _ v2 d1 d2 _ Q R2 (Rep.ext p1 E2) p2 A2
    · rw [if_neg hl] at A1
      exact A1.elim⟩
def appendD : D → List D → Cs → R D := fun d ds c => match d, ds with
  | .ref k, [y] => match c[k]? with
    | some (.lst xs) => if xs.length < sizeLine then .ok .non (c.set k (.lst (xs ++ [y]))) else .stuck
    | _ => .stuck
  | _, _ => .stuck
theorem meth_append : MethS K rAppend appendD := fun I H m c v vs d ds W Q R p ps A => by
  cases d with
  | ref k =>
    cases ps with
    | nil => exact A.elim
    | @cons y ys dy dys h t =>
      cases t with
      | cons _ _ => exact A.elim
      | nil =>
        have A2 : After (rD K) K I m H W Q (match c[k]? with
          | some (.lst xs) => if xs.length < sizeLine then .ok .non (c.set k (.lst (xs ++ [dy]))) else .stuck
          | _ => .stuck) := A
        cases q : c[k]? with
        | none => rw [q] at A2; exact A2.elim
        | some x =>
          rw [q] at A2
          cases x with
          | lst xs =>
            cases p with
            | @ref _ a hm =>
              obtain ⟨_, ws, h1, h2⟩ := R.cell k a _ hm q
              by_cases hz : xs.length < sizeLine
              · have A3 : After (rD K) K I m H W Q (if xs.length < sizeLine then .ok .non (c.set k (.lst (xs ++ [dy]))) else .stuck) := A2
                rw [if_pos hz] at A3
                obtain ⟨R2, E2⟩ := R.put hm q (h2.append (.cons h .nil))
                exact ⟨a, ws, y, rfl, rfl, h1, by rw [h2.length]; exact hz, A3 _ _ _ _ E2 R2 .non⟩
              · have A3 : After (rD K) K I m H W Q (if xs.length < sizeLine then .ok .non (c.set k (.lst (xs ++ [dy]))) else .stuck) := A2
                rw [if_neg hz] at A3
                exact A3.elim
          | _ => exact A2.elim
  | _ => exact A.elim
end
/-! ### if (x := e) op f: -/
section
variable {X : Cx} {W : WX} {a b : Expr} {pos p p2 p3 : Pos} {f g : MS}
def sIfNm (i : Nat) (h : D → D → Cs → R D) (fa fb : ME) (f g : MS) : MS := fun l c => (fa l c).seq l fun x c1 => (fb (l.set i (some x)) c1).seq (l.set i (some x)) fun y c2 => (h x y c2).seq (l.set i (some x)) fun z c3 => match z with
  | .bl true => f (l.set i (some x)) c3
  | .bl false => g (l.set i (some x)) c3
  | _ => .stuck
theorem ms_ifNm {i : Nat} {x : Str} {op : CmpOp} {r : R2} {h : D → D → Cs → R D} {fa fb : ME} {sa sb : List Stmt} (hN : X.N.Nodup) (hi : X.N[i]? = some x) (hx : Loc X.env.scope x) (ho : OpR X (compareOp op) r) (hs : OpS X.K r h) (ha : PE X a (rdE X.K W fa)) (hb : PE X b (rdE X.K W fb))
    (hf : PSs X sa (rdS X.K W f)) (hg : PSs X sb (rdS X.K W g)) (hm : behindInMarks op b = false := by first | exact nomark _ | rfl) (hfn : X.fn x = true ∨ X.env.scope.names.lookup x = some .local := by first | exact .inl rfl | exact .inr rfl | assumption) :
    PS X (.If (.Compare (.NamedExpr (.Name x p) a p2) [op] [b] p3) sa sb pos) (rdS X.K W (sIfNm i h fa fb f g)) :=
  PSi (ps_ifW (ptw_cmp ho (pew_named hN hi hx (pew_of ha) hfn) hb hm) hf hg) fun D σ H ⟨I, m, l, c, R, L, A⟩ =>
    ⟨I, m, l, c, R, L, After.mono (AfterS.seq (rep := rD X.K) L A) fun v1 H1 ⟨I1, m1, c1, d1, E1, R1, p1, A1⟩ => by
      have L1 := (L.ext E1).set i p1
      refine ⟨I1, m1, _, c1, R1, L1, After.mono (AfterS.seq (rep := rD X.K) L1 A1) fun v2 H2 ⟨I2, m2, c2, d2, E2, R2, p2, A2⟩ => ?_⟩
      have L2 := L1.ext E2
      refine hs I2 H2 m2 c2 _ _ _ _ (fun cls dd H' => W cls dd (σ.set i (some v1)) H') _ R2 (Rep.ext p1 E2) p2 (After.mono (AfterS.seq (rep := rD X.K) L2 A2) fun v3 H3 ⟨I3, m3, c3, d3, E3, R3, p3, A3⟩ => ?_)
      cases p3 with
      | bl k =>
        refine ⟨k, rfl, ?_⟩
        cases k with
        | true => exact (if_pos rfl).mpr ⟨I3, m3, _, c3, R3, L2.ext E3, A3⟩
        | false => exact (if_neg Bool.false_ne_true).mpr ⟨I3, m3, _, c3, R3, L2.ext E3, A3⟩
      | _ => exact A3.elim⟩
end
/-! ### defs with defaults -/
section
variable {X : Cx} {W : WX} {k n : Nat} {f : Addr} {fd : FuncData} {ps ks : List Str} {g : List D → Cs → R D} {x : Str} {p pos : Pos} {e : Expr} {es : List Expr} {ga gk : MA}
/-- f(e, ..), defaults fill up -/
def mCBd (g : List D → Cs → R D) (n : Nat) (df : List D) (t : MA) : ME := fun l c => (t l c).bind fun xs c1 => if xs.length = n then g (xs ++ df) c1 else .stuck
/-- f(e, .., k = v, ..) -/
def mCBk (g : List D → Cs → R D) (gd : List D → List D → List D) (n j : Nat) (t tk : MA) : ME := fun l c => (t l c).bind fun xs c1 => (tk l c1).bind fun ys c2 => if xs.length = n ∧ ys.length = j then g (gd xs ys) c2 else .stuck
end
end L2.Mi
namespace L2.Mi
open PySem PySem.Spec PyProof.Rows L2
/-! ### s.index(y), found -/
section
variable {X : Cx} {K : PySem.W.Frag}
end
end L2.Mi

/-! own exceptions whose __init__ says super().__init__(text), self.f = p -/
namespace PySem.Mxe
open PySem PySem.W PySem.Calls PyProof.Rows PySem.Spec
open Builtin Builtin.ObjectAttr
section
variable {prog : Program} {w : World} {A : Around} {E : Value → Shared → Prop} {R : Result → Shared → Prop} {hp : Heap} {g : Array GenState} {d : Drawn} {t : Nat} {os : OsState}
theorem tail_ne {bmB : List Value} (hne : bmB.isEmpty = false) {l : List Value} (e : excTail bmB l = true) : l.isEmpty = false := by
  rcases excTail_cases l e with ⟨c, r, rfl, _⟩ | rfl
  · rfl
  · exact hne
theorem osa {K : W.Frag} {bmB : List Value} {name : Str} {tk : Tok} {v : Value} {x C : Addr} {fv : Array Value} {cd : ClassData} (hpass : ∀ self, refuseLoop self "__setattr__" bmB = pure ()) (hob : bmB.contains (.type "object") = true) (hbe : bmB.isEmpty = false)
    (X : K.In hp) (hx : hp.get? x = some { cls := .ref C, data := .fields fv }) (hcd : W.clsIn K C = some cd) (hm : excTail bmB cd.mro = true) (hh : cd.hasDict = true) (ha : W.findIn K (.ref C) name = some none)
    (hq : ∀ h' tk' dx, (∀ b o, b ≠ x → hp.get? b = some o → h'.get? b = some o) → hp.objs.size ≤ dx → dx ≠ x → h'.get? x = some { cls := .ref C, dict := some dx, data := .fields fv } →
      h'.Ns1 dx (fun y => if y = name then some v else none) → R (.ok (.ret .none)) ⟨h', g, d, tk', os⟩) :
    codeAny (model prog w) A (.call (.builtin "object.__setattr__") ⟨[.ref x, .str name tk, v], []⟩) R ⟨hp, g, d, t, os⟩ := by
  have I : W.InstAt hp x { cls := .ref C, data := .fields fv } C none := ⟨hx, rfl, rfl, trivial⟩
  have SF := PySem.F.store_object
  have ne := tail_ne hbe hm
  have hob : cd.mro.contains (.type "object") = true := (excTail_contains "object" _ hm).trans hob
  have hxs : x ≠ hp.objs.size := Nat.ne_of_lt (Heap.lt_size hx)
  have sub : W.Looks (model prog w) hp (isInstance (.ref x) (.type "object")) true := I.type.andThen (W.looks_mroIn X (by unfold W.mroIn; rw [hcd, Option.bind_some, if_neg (by rw [ne]; decide), hob]))
  refine codeAny_call_builtin SF.slot.plain SF.entry (@W.check_slot (model prog w) _ _ ⟨hp, g, d, t, os⟩ "object.__setattr__" "object" "__setattr__" (.ref x) [.str name tk, v] [] _ SF.kind SF.split sub (SF.args (.ref x) (.str name tk) v) ?_)
  have hmr : W.Looks (model prog w) hp (mroOf (.ref C)) cd.mro := (W.looks_clsIn X hcd).andThen .now
  have L3 : W.Looks (model prog w) hp (storeTaker? none) none := .now
  have hcls : W.Looks (model prog w) hp (classData C) cd := W.looks_clsIn X hcd
  rw [W.osa_eq, refuse_eq]
  refine wpAny_bind (wpAny_bind (I.type.at (wpAny_bind (hmr.at ?_))))
  rw [excTail_pass _ (hpass _) _ hm]
  refine wpAny_pure (wpAny_bind (I.type.at (wpAny_bind ((W.looks_findIn X ha).at (wpAny_bind (L3.at ?_))))))
  show wpAny _ _ (storeInOwnDict (.ref x) (.ref C) (.str name tk) name v false) _ _ _
  obtain ⟨nm, bs, mro, ns, qn, hd, sn, sb, ab, col, del⟩ := cd
  dsimp only at hh
  subst hh
  unfold storeInOwnDict ownDictForStores
  repeat (first | with_reducible refine HandSPX.store_in_new ?_ ?_ | with_reducible refine wpAny_loadPart_at hx ?_ | with_reducible refine hcls.at ?_ | wp_step)
  · exact ⟨_, #[], _, (Heap.get?_update_ne _ _ _ _ hxs.symm).trans (Heap.get?_push_at rfl rfl), rfl, fun e he => absurd he (by simp), fun _ => rfl⟩
  · intro h' tk' hn' hs
    have hx₁ : (hp.push { cls := .type "dict", data := .dict #[] }).get? x = some { cls := .ref C, data := .fields fv } := Heap.get?_push_of_some _ hx
    refine hq h' tk' hp.objs.size (fun b o hb ho => ?_) (Nat.le_refl _) hxs.symm ?_ hn'
    · exact (hs.2 b (Nat.ne_of_lt (Heap.lt_size ho))).trans ((Heap.get?_update_ne _ _ _ _ hb).trans (Heap.get?_push_of_some _ ho))
    · exact (hs.2 x hxs).trans (Heap.get?_update_self _ hx₁ rfl)

/-- what is known of such a class -/
structure XB (B newId i : String) (bmB : List Value) : Prop where
  FB : ExcBaseFacts B newId i bmB
  KF : KxsFacts B i
  pass : ∀ self, refuseLoop self "__setattr__" bmB = pure ()
  ob : bmB.contains (.type "object") = true
  ne : bmB.isEmpty = false
theorem xb_ValueError : XB "ValueError" "ValueError.__new__" "ValueError.__init__" [.type "ValueError", .type "Exception", .type "BaseException", .type "object"] := ⟨PySem.F.excBase_ValueError, kxs_ValueError, fun s => PySem.F.store_ValueError.passes s, by decide +kernel, rfl⟩
/-- the __init__'s text -/
structure XText (prog : Program) (scope : Scope) (par f msg : Str) (body : List Stmt) : Prop where
  kind : scope.kind = .function
  co : scope.isCoroutine = false
  gen : scope.isGenerator = false
  cell : ∀ x ∈ scope.names, x.2 ≠ .cell
  sup : scope.names.lookup ("super" : Str) = some .globalImplicit
  cls : scope.names.lookup ("__class__" : Str) = some .free
  self : scope.names.lookup ("self" : Str) = some .local
  par_ : scope.names.lookup par = some .local
  ne : (par == ("self" : Str)) = false
  dbg : (par == ("__debug__" : Str)) = false
  top : (prog.main.scope.names.lookup ("super" : Str)).isSome = false
  body : ∃ (p0 p1 p2 p3 p4 p5 p6 p7 p8 p9 : Pos) (j : Nat), (p2.endLine == p4.line) = true ∧ body = [.Expr (.Call (.Attribute (.Call (.Name "super" p0) [] [] p1) "__init__" p2) [.Constant (.str msg) j p3] [] p4) p5,
    .Assign [.Attribute (.Name "self" p6) f p7] (.Name par p8) p9]

theorem method_eq {o : Expr} {name msg : Str} {apos pos p : Pos} {j : Nat} {env : Env} (h : (apos.endLine == pos.line) = true) : eval (.Call (.Attribute o name apos) [.Constant (.str msg) j p] [] pos) env = (do
      let ov ← attributeBase o name env (eval o env)
      standAt apos.atName
      let (f, first) ← holding [ov] (getMethod ov name (do return (← importBound o env).getD true))
      callWith pos f first (backTo pos (starEach [.Constant (.str msg) j p] env)) []) := by
  show (do
    let ov ← attributeBase o name env (eval o env)
    standAt apos.atName
    methodCall o name apos pos env ov 1 (backTo pos (starEach [.Constant (.str msg) j p] env)) []) = _
  have e : ∀ ov, methodCall o name apos pos env ov 1 (backTo pos (starEach [.Constant (.str msg) j p] env)) [] = (do
      let (f, first) ← holding [ov] (getMethod ov name (do return (← importBound o env).getD true))
      callWith pos f first (backTo pos (starEach [.Constant (.str msg) j p] env)) []) := fun ov => by
    unfold methodCall methodCallPos
    rw [h, Bool.or_true]
    rfl
  simp only [e]

theorem not_interactive {env : Env} (h : env.scope.kind = .function) : interactive env = false := by unfold interactive; rw [h]; rfl

theorem init_call {K : Frag} {mg mb : Str → Option Value} {s : Shared} {B newId i : String} {bmB bm : List Value} {C e t0 fI cc cda N : Addr} {nm q qual par f msg file : Str} {tf : Tok} {bs : List Value} {sn : List Str} {sub : List Value} {ab : Bool} {col : Option Bool} {dd : Option Addr} {k0 k1 k2 k3 k5 : Option Value}
    {params : Arguments} {body : List Stmt} {scope : Scope} {dV kV doc pm ct oc ccl cl : Value} {an od cdd cld : Option Addr} {osl ccs csl : Array (Option Value)} {vs : Array Value} {ar : Arg} {v : Value}
    (XB : XB B newId i bmB) (XT : XText prog scope par f msg body)
    {hb : Heap} (Xb : K.In hb) (kb : ∀ b o, hb.get? b = some o → s.heap.get? b = some o) (neb : hb.get? e = none) (gl : s.heap.Ns mainGlobals mg) (hm : mg "super" = none) (bl : s.heap.Ns builtinsNs mb) (hmb : mb "super" = bootBuiltins "super") (lim : s.heap.NoLimit) (room : A.depth < recursionLimit)
    (hC : K.lookup C = some (excClassObj nm q C N bs bm true sn sub ab col dd k0 k1 k2 k3 k5 newId)) (ht : excTail bmB bm = true)
    (lf : K.lookup fI = some ⟨oc, od, .func (ksFn "__init__" qual params body scope dV kV doc pm an (.ref cda) ct cc), osl⟩) (hcd : codeIn K (.ref cda) qual = true)
    (lcode : K.lookup cda = some ⟨ccl, cdd, .fields vs, ccs⟩) (hvs : vs[2]? = some (.str file tf)) (hfile : ((prog.main.file : Str) == file) = true)
    (lcell : K.lookup cc = some ⟨cl, cld, .cell (some (.ref C)), csl⟩) (hsub : mroIn K C (.ref C) = some true) (hsup : ks_superIn K C C "__init__" = some (some (.builtin i))) (hB : subIn K (.ref C) (.type B) = some true)
    (noop : nsIn K cStatics "thirdparty.any" = some none) (sa : findIn K (.ref C) "__setattr__" = some (some (.builtin "object.__setattr__"))) (hno : findIn K (.ref C) f = some none)
    (hp : (params.posonlyargs ++ params.args).head? = some ar) (har : ar.arg = "self")
    (bind : BindsTo s (ksFn "__init__" qual params body scope dV kV doc pm an (.ref cda) ct cc) ⟨[.ref e, v], []⟩ [("self", .ref e), (par, v)])
    (he : s.heap.get? e = some (HandSPX.excO C t0))
    (hq : ∀ h' tk' dx t', (∀ b o, b ≠ e → s.heap.get? b = some o → h'.get? b = some o) → s.heap.objs.size ≤ dx → dx ≠ e → h'.get? e = some { HandSPX.excO C t' with dict := some dx } → h'.Ns1 dx (fun y => if y = f then some v else none) →
      R (.ok (.ret .none)) ⟨h', s.gens, s.drawn, tk', s.os⟩) :
    codeAny (model prog w) A (.call (.ref fI) ⟨[.ref e, v], []⟩) R s := by
  obtain ⟨p0, p1, p2, p3, p4, p5, p6, p7, p8, p9, j, hline, rfl⟩ := XT.body
  have X : K.In s.heap := Xb.keeps kb
  have hC1 := X _ _ hC
  have hcl : clsIn K C = some { name := nm, bases := bs, mro := .ref C :: bm, ns := N, qualname := q, hasDict := true, slotNames := sn, subclasses := sub, abstract := ab, collection := col, hasDel := false } := by unfold clsIn; rw [hC] <;> rfl
  have hbin : ∀ y ∈ [(("self" : Str), Value.ref e), (par, v)], scope.names.lookup y.1 = some .local := fun y hy => by
    rcases List.mem_cons.mp hy with rfl | hy
    · exact XT.self
    · rcases List.mem_singleton.mp hy with rfl
      exact XT.par_
  refine ks_codeAny_call_defAt room (X _ _ lf) rfl lim (codeRec_of X hcd) rfl bind XT.cell hbin (fun h1 hns k1 => ?_) XT.co XT.gen XT.kind
  have X1 : K.In h1 := X.keeps k1
  have ns_self : (fun x => List.lookup x [(("self" : Str), Value.ref e), (par, v)].reverse) ("self" : Str) = some (.ref e) := by
    show List.lookup ("self" : Str) [(par, v), (("self" : Str), Value.ref e)] = _
    have z : (("self" : Str) == par) = false := by rw [BEq.comm]; exact XT.ne
    rw [List.lookup_cons, z]
    rfl
  have ns_par : (fun x => List.lookup x [(("self" : Str), Value.ref e), (par, v)].reverse) par = some v := by
    show List.lookup par [(par, v), (("self" : Str), Value.ref e)] = _
    rw [List.lookup_cons, beq_self_eq_true]
  generalize hm0 : (fun x => List.lookup x [(("self" : Str), Value.ref e), (par, v)].reverse) = m0 at hns ns_self ns_par
  obtain ⟨h0, g, d, tk0, os⟩ := s
  dsimp only at X kb gl bl lim he hq hns k1 ⊢
  have he1 : h1.get? e = some (HandSPX.excO C t0) := k1 _ _ he
  refine ks_wpAt_execs_cons (ks_wpAt_Expr_any (ks_wpAt_MethodCall ?_ (method_eq hline)) (not_interactive XT.kind) rfl)
  refine ks_wpAt_super_base XT.sup XT.cls (by decide) rfl (X1 _ _ lf) rfl hp rfl (X1 _ _ lcode) rfl hvs hfile XT.top ?_
  refine ks_loadName_global XT.kind XT.sup (loadGlobal_builtin (gl.keeps k1) hm (bl.keeps k1) (hmb.trans (by decide +kernel : bootBuiltins "super" = some (.type "super"))) ⟨rfl, ?_⟩)
  refine wpAny_loadName_free XT.kind XT.cls rfl ⟨_, X1 _ _ lcell, rfl⟩ ?_
  rw [har]
  refine wpAny_loadName_local XT.kind XT.self hns ns_self ?_
  refine ks_wpAny_isType_cls (X1 _ _ hC) rfl ⟨rfl, ?_⟩
  refine ks_wpAny_call_super (X1 _ _ hC) rfl he1 rfl (fun c z => by cases z) (looks_mroIn X1 hsub) (fun h2 so k2 => ?_)
  have X2 : K.In h2 := X1.keeps k2
  have he2 : h2.get? e = some (HandSPX.excO C t0) := k2 _ _ he1
  have I2 : InstAt h2 e (HandSPX.excO C t0) C none := ⟨he2, rfl, rfl, trivial⟩
  have hI : Looks (model prog w) h2 (isInstance (.ref e) (.type B)) true := I2.type.andThen (looks_subIn X2 hB)
  have hal : alongIn K "__init__" (((Value.ref C :: bm).dropWhile (· != .ref C)).drop 1) = some (some (.builtin i)) := by
    unfold ks_superIn at hsup
    rw [hcl] at hsup
    exact hsup
  refine kxs_getMethod XB.KF so (looks_opaque X2 noop) (l₀ := .ref C :: bm) (fun A Q E s k q => wpAny_bind ((looks_clsIn X2 hcl) A _ E s k (wpAny_pure q))) rfl X2 hal hI (ks_ne X2 I2 hcl) (by decide) ?_
  have kp : ∀ b o, h2.get? b = some o → (h2.push (kxs_mw i e)).get? b = some o := fun b o z => Heap.get?_push_of_some _ z
  have hmw : (h2.push (kxs_mw i e)).get? h2.objs.size = some (kxs_mw i e) := Heap.get?_push_at rfl rfl
  refine kxs_callWith (i := i) (x := e) rfl (evalArgs_plain (spliced_cons (Constant_str (k := j) (pos := p3) (spliced_nil ⟨hmw, ?_⟩))))
  have X3 : K.In (h2.push (kxs_mw i e)) := X2.keeps kp
  have he3 : (h2.push (kxs_mw i e)).get? e = some (HandSPX.excO C t0) := kp _ _ he2
  refine wpAny_call (codeAny_of_tree ?_)
  show wpAny _ _ (callAny (.ref h2.objs.size) ⟨[.str msg _], []⟩) _ _ _
  simp only [callAny]
  refine wpAny_bind (wpAny_load hmw ?_)
  simp only [kxs_mw, show (Value.type "method-wrapper" == Value.type "method" || Value.type "method-wrapper" == Value.type "builtin_function_or_method" || Value.type "method-wrapper" == Value.type "method-wrapper") = true by decide, if_true]
  refine KFB.if_so (by decide) ?_
  refine wpAny_bind (check_bound_init XB.FB.toExcCallFacts (X3 _ _ hC) he3 rfl ?_)
  refine wpAny_bind (wpAny_pure (wpAny_pure ?_))
  refine ⟨plainId_quiet XB.FB.init.plain _, codeAny_builtin XB.FB.initEntry ?_⟩
  refine exc_init_tree (cls := .ref C) (t0 := t0) (dv := none) (c2 := .none) (c3 := .none) (b4 := .bool false) he3 (by rw [sizeLine_eq]; show 1 ≤ _; omega) (fun h4 k4 he4 _ => ?_)
  have kk : ∀ b o, b ≠ e → h0.get? b = some o → h4.get? b = some o := fun b o hb z => k4 b o hb (kp _ _ (k2 _ _ (k1 _ _ z)))
  have Ce : C ≠ e := fun z => by rw [z, he] at hC1; cases hC1
  have X4 : K.In h4 := Xb.keeps fun b o z => kk b o (fun y => by rw [y, neb] at z; cases z) (kb b o z)
  have hns4 : h4.Ns h0.objs.size m0 := by
    obtain ⟨oL, es, ep, hL, r⟩ := hns
    exact ⟨oL, es, ep, k4 _ _ (fun z => absurd (Heap.lt_size he) (by rw [z]; exact Nat.lt_irrefl _)) (kp _ _ (k2 _ _ hL)), r⟩
  refine ks_wpAt_execs_cons (ks_wpAt_Assign_Attr (wpAt_of_wpAny ?_))
  refine wpAny_Name ?_ XT.dbg
  refine wpAny_loadName_local ?kk1 ?kk2 hns4 ns_par ?_
  case kk1 => exact XT.kind
  case kk2 => exact XT.par_
  refine wpAny_Name ?_
  refine wpAny_loadName_local ?kl1 ?kl2 hns4 ns_self ?_
  case kl1 => exact XT.kind
  case kl2 => exact XT.self
  refine PySem.W.set_plain (od := none) X4 ⟨he4, rfl, rfl, trivial⟩ sa ?_
  refine osa XB.pass XB.ob XB.ne X4 he4 hcl (show excTail bmB (.ref C :: bm) = true from ht) rfl hno (fun h5 tk5 dx k5 dn dne hx hn => ?_)
  have hz : h0.objs.size ≤ h4.objs.size := by
    obtain ⟨oL, es, ep, hL, r⟩ := hns4
    exact Nat.le_of_lt (Heap.lt_size hL)
  refine wpAt_of_wpAny (wpAny_execs_nil ?_)
  exact hq h5 tk5 dx _ (fun b o hb z => k5 b o hb (kk b o hb z)) (Nat.le_trans hz dn) dne hx hn
end
end PySem.Mxe

namespace L2.Mi
open PySem PySem.Spec PyProof.Rows L2

/-! ### own exceptions: made and raised -/
/-- the class n has the field f, its __init__ says super().__init__(text); self.f = p -/
structure XOwn (P : Program) (K : PySem.W.Frag) (n f : Str) : Prop where
  ex : ∃ (C fI : Addr), PySem.W.nsIn K mainGlobals n = some (some (.ref C)) ∧
    (∃ (B newId i : String) (bmB bm : List Value) (N : Addr) (nm q : Str) (bs : List Value) (sn : List Str) (sub : List Value) (ab : Bool) (col : Option Bool) (dd : Option Addr) (k0 k1 k2 k3 k5 : Option Value),
      PySem.Mxe.XB B newId i bmB ∧ K.lookup C = some (excClassObj nm q C N bs bm true sn sub ab col dd k0 k1 k2 k3 k5 newId) ∧ PySem.W.excTail bmB bm = true ∧
      PySem.W.ks_superIn K C C "__init__" = some (some (.builtin i)) ∧ PySem.W.subIn K (.ref C) (.type B) = some true) ∧
    PySem.W.findIn K (.ref C) "__init__" = some (some (.ref fI)) ∧ PySem.W.typeIn K (.ref fI) = some (.type "function") ∧
    (∃ (cc cda : Addr) (qual par msg file : Str) (tf : Tok) (params : Arguments) (body : List Stmt) (scope : Scope) (dV kV doc pm ct oc ccl cl : Value) (an od cdd cld : Option Addr) (osl ccs csl : Array (Option Value)) (vs : Array Value) (ar : Arg),
      PySem.Mxe.XText P scope par f msg body ∧ K.lookup fI = some ⟨oc, od, .func (PySem.W.ksFn "__init__" qual params body scope dV kV doc pm an (.ref cda) ct cc), osl⟩ ∧ PySem.W.codeIn K (.ref cda) qual = true ∧
      K.lookup cda = some ⟨ccl, cdd, .fields vs, ccs⟩ ∧ vs[2]? = some (.str file tf) ∧ ((P.main.file : Str) == file) = true ∧ K.lookup cc = some ⟨cl, cld, .cell (some (.ref C)), csl⟩ ∧
      (params.posonlyargs ++ params.args).head? = some ar ∧ ar.arg = "self" ∧
      ∀ (s : Shared) (e v : Value), BindsTo s (PySem.W.ksFn "__init__" qual params body scope dV kV doc pm an (.ref cda) ct cc) ⟨[e, v], []⟩ [("self", e), (par, v)]) ∧
    PySem.W.mroIn K C (.ref C) = some true ∧ PySem.W.findIn K (.ref C) "__setattr__" = some (some (.builtin "object.__setattr__")) ∧ PySem.W.findIn K (.ref C) f = some none ∧
    PySem.W.subIn K (.ref C) (.type "BaseException") = some true ∧ PySem.W.typeIn K (.ref C) = some (.type "type") ∧ PySem.W.keepIn K (.ref C) = true ∧
    PySem.W.findIn K (.ref C) "__getattribute__" = some (some (.builtin "BaseException.__getattribute__")) ∧ PySem.W.findIn K (.ref C) "__getattr__" = some none ∧ PySem.W.hasDictIn K C = true
/-- the module's word for exceptions -/
structure XMod (K : PySem.W.Frag) (mg : Str → Option Value) : Prop where
  sup : mg "super" = none
  nop : PySem.W.nsIn K cStatics "thirdparty.any" = some none

def oneQ (F : V → Hp → Prop) : List V → Hp → Prop := fun ws H => match ws with
  | [v] => F v H
  | _ => False
section
variable {X : Cx} {W : WX} {n x f : Str} {e : Expr} {te : TE} {fa : ME} {p pos : Pos}
theorem pmk_x (T : XOwn X.prog X.K n f) (M : XMod X.K X.mg) (hr : Room 1 X.A) (hg : Gl X n) (hm : ∀ C, PySem.W.nsIn X.K mainGlobals n = some (some (.ref C)) → X.mg n = some (.ref C)) (hev : PE X e te)
    (hdb : (n == ("__debug__" : Str)) = false := by decide) (he : starEach [e] X.env = (false, eval e X.env) :: starEach [] X.env := by rfl) (hpl : (backTo pos (starEach [] X.env)).any (·.1) = false := by rfl) :
    PMk X (.Call (.Name n p) [e] [] pos) (fun σ H Q => te σ H fun v H1 => ∃ C, PySem.W.nsIn X.K mainGlobals n = some (some (.ref C)) ∧ ∀ d, H1 d = none → Q (.ref C) (some d) (upd H1 d (.xd [(f, v)]))) := by
  obtain ⟨C, fI, nC, ⟨B, newId, i, bmB, bm, N, nm, q, bs, sn, sub, ab, col, dd, k0, k1, k2, k3, k5, XB, hC, ht, hsup, hB⟩, iC, tI, ⟨cc, cda, qual, par, msg, file, tf, params, body, scope, dV, kV, doc, pm, ct, oc, ccl, cl, an, od, cdd, cld, osl, ccs, csl, vs, ar, XT, lf, hcd, lcode, hvs, hfile, lcell, hp, har, bind⟩, hsub, sa, hno, exC, tyC, kC, _⟩ := T.ex
  intro pins s σ H Q I h
  refine wpAny_Call_Name_kw (ld_glob I hg (hm C nC) ?_ hdb)
  refine PySem.W.callWith_K (h₀ := X.base) I.ok.mod.kin kC (thn ((pa_cons hev pa_nil he).run pos pins s σ H (oneQ fun v H1 => ∃ C, PySem.W.nsIn X.K mainGlobals n = some (some (.ref C)) ∧ ∀ d, H1 d = none → Q (.ref C) (some d) (upd H1 d (.xd [(f, v)]))) I h) fun us s1 ⟨ws, H1, I1, r1, q1⟩ => ⟨I1.kIn, ?_⟩) he hpl
  show wpAny _ _ (call (.ref C) us) _ _ _
  obtain ⟨v, rfl⟩ : ∃ v, ws = [v] := by
    match ws, q1 with
    | [v], _ => exact ⟨v, rfl⟩
  obtain ⟨u, rfl, rv⟩ := vals1 r1
  obtain ⟨C', nC', q2⟩ : ∃ C, PySem.W.nsIn X.K mainGlobals n = some (some (.ref C)) ∧ ∀ d, H1 d = none → Q (.ref C) (some d) (upd H1 d (.xd [(f, v)])) := q1
  obtain rfl : C' = C := by rw [nC] at nC'; cases nC'; rfl
  obtain ⟨hp1, g, dr, tk, os⟩ := s1
  have hT : ∀ Y : String, bm.contains (.type Y) = bmB.contains (.type Y) := fun Y => PySem.W.excTail_contains Y bm ht
  refine wpAny_call (PySem.HandSPX.call_own XB.FB hT (I1.kIn _ _ hC) (PySem.W.looks_findIn I1.kIn iC) (fun self => PySem.W.bind_fn I1.kIn self tI) (by rw [sizeLine_eq]; show 1 ≤ _; omega) ?_)
  have kk : ∀ b o, hp1.get? b = some o → ((hp1.push (PySem.W.kdv_tup [u])).push (PySem.HandSPX.excO C' hp1.objs.size)).get? b = some o := fun b o z => Heap.get?_push_of_some _ (Heap.get?_push_of_some _ z)
  have hsz : hp1.objs.size ≤ ((hp1.push (PySem.W.kdv_tup [u])).push (PySem.HandSPX.excO C' hp1.objs.size)).objs.size := by
    rw [Heap.size_push, Heap.size_push]
    exact Nat.le_succ_of_le (Nat.le_succ _)
  have hget : ((hp1.push (PySem.W.kdv_tup [u])).push (PySem.HandSPX.excO C' hp1.objs.size)).get? (hp1.objs.size + 1) = some (PySem.HandSPX.excO C' hp1.objs.size) := by heap_get
  have hbk : ∀ b o, X.base.get? b = some o → hp1.get? b = some o := I1.bk
  obtain ⟨mb, hmb, hmb2⟩ := I1.mod.blt
  have bsz : X.base.objs.size ≤ hp1.objs.size := Nat.le_trans I1.ok.bsz I1.sz
  have neb : X.base.get? (hp1.objs.size + 1) = none := Heap.get?_none_of_le (Nat.le_trans bsz (Nat.le_succ _))
  refine PySem.Mxe.init_call XB XT (s := ⟨(hp1.push (PySem.W.kdv_tup [u])).push (PySem.HandSPX.excO C' hp1.objs.size), g, dr, tk, os⟩) I1.mod.kin (fun b o z => kk b o (hbk b o z)) neb ((I1.mod.glob.keeps hbk).keeps kk) M.sup ((hmb.keeps hbk).keeps kk) (hmb2 "super" (by decide)) (I1.nolimit.keeps kk) ?_
    hC ht lf hcd lcode hvs hfile lcell hsub hsup hB M.nop sa hno hp har (bind _ _ _) hget ?_
  · exact (hr.make (k := 0) C' [u] []).depth
  · intro h' tk' dx t' k' dn dne he' hns
    refine ⟨rfl, ?_⟩
    have hn1 : H1 dx = none := I1.hok.fresh (Nat.le_trans hsz dn)
    obtain ⟨G, g1', g2'⟩ := restrict h' fun b => decide (b ≠ hp1.objs.size + 1)
    have gk : ∀ b, b ≠ hp1.objs.size + 1 → G.get? b = h'.get? b := fun b hb => g1' b (decide_eq_true hb)
    have ge : G.get? (hp1.objs.size + 1) = none := g2' _ (by simp)
    have kG : ∀ b o, hp1.get? b = some o → G.get? b = some o := fun b o z => by
      have hb : b ≠ hp1.objs.size + 1 := Nat.ne_of_lt (Nat.lt_succ_of_lt (Heap.lt_size z))
      rw [gk b hb]
      exact k' b o hb (kk b o z)
    have na : H1 (hp1.objs.size + 1) = none := I1.hok.fresh (Nat.le_succ _)
    have J : Inv X pins σ (upd H1 dx (.xd [(f, v)])) ⟨G, g, dr, tk', os⟩ := I1.laid (t' := tk') (a := dx) (o := .xd [(f, v)]) (h' := G) kG (Nat.le_trans hsz dn)
      ⟨_, hns.at fun o z => (gk dx dne).trans z, relO_put (fs := []) rv fun g => True.intro⟩
    refine ⟨hp1.objs.size + 1, _, _, ⟨G, g, dr, tk', os⟩, _, .ref C', some dx, rfl, J, fun b o z => ?_, ge, he', ⟨rfl, rfl⟩, rfl, rfl, ?_, rfl, J.bare, raises_own exC tyC, q2 dx hn1⟩
    · by_cases hb : b = hp1.objs.size + 1
      · rw [hb, ge] at z
        cases z
      · exact (gk b hb).symm.trans z
    · rw [upd_ne (Ne.symm dne)]
      exact na
/-- raise n(e) -/
def sRaise (n f : Str) (a : ME) : MS := fun l c => (a l c).seq l fun d c1 => .exc ⟨n, [(f, d)]⟩ l c1
theorem ms_raise {p2 : Pos} (hc : X.calm = true) (tk : Takes X W) (T : XOwn X.prog X.K n f) (M : XMod X.K X.mg) (hr : Room 1 X.A) (hg : Gl X n) (hm : ∀ C, PySem.W.nsIn X.K mainGlobals n = some (some (.ref C)) → X.mg n = some (.ref C)) (ha : PE X e (rdE X.K W fa))
    (hdb : (n == ("__debug__" : Str)) = false := by decide) (he : starEach [e] X.env = (false, eval e X.env) :: starEach [] X.env := by rfl) (hpl : (backTo pos (starEach [] X.env)).any (·.1) = false := by rfl) :
    PS X (.Raise (some (.Call (.Name n p) [e] [] pos)) none p2) (rdS X.K W (sRaise n f fa)) :=
  PSi (ps_raise hc tk (pmk_x T M hr hg hm ha hdb he hpl)) fun D σ H ⟨I, m, l, c, R, L, A⟩ => ⟨I, m, l, c, R, L, After.mono (AfterS.seq (rep := rD X.K) L A) fun v H1 ⟨I1, m1, c1, d1, E1, R1, p1, A1⟩ => by
    obtain ⟨C, _, nC, _⟩ := T.ex
    refine ⟨C, nC, fun d nd => ?_⟩
    obtain ⟨R2, E2⟩ := alloc (o := .xd [(f, v)]) R1 nd
    exact A1 _ _ _ σ (.ref C) (some d) E2 R2 ((L.ext E1).ext E2) ⟨.inl nC, .inr ⟨d, [(f, v)], rfl, upd_same, .cons (Rep.ext p1 E2) .nil⟩⟩⟩
end

/-! ### try: several clauses, with and without a name -/
inductive HdT where
  | cl (c : Value) (as : Option Nat) (ts : Addr → Value → Option Addr → TS)
  | stop
section
variable {X : Cx} {body : List Stmt} {h₀ : ExceptHandler} {hds : List ExceptHandler} {l : List HdT} {pos : Pos} {tb : WX → TS} {Wout : WX}
end

/-! ### try over values -/
inductive HE where
  | cl (c : Str) (as : Option Nat) (f : Ex → MS)
  | stop
def wipe (i : Nat) (r : RS) : RS := match r with
  | .go (.nx l) c => .go (.nx (l.set i none)) c
  | .go (.bk l) c => .go (.bk (l.set i none)) c
  | .go (.ct l) c => .go (.ct (l.set i none)) c
  | .go (.rt d) c => .go (.rt d) c
  | _ => .stuck
section
variable {X : Cx} {ns : List Str} {hds : List ExceptHandler} {hes : List HE}
end

/-! ### a field of the caught exception -/
theorem RepF.look {K : PySem.W.Frag} {I : Hp} {m : List Addr} {f : Str} {d : D} : ∀ {vs : List (Str × V)} {ds : List (Str × D)}, RepF K I m vs ds → ds.lookup f = some d → ∃ v, vs.lookup f = some v ∧ Rep K I m v d
  | _, _, .nil, e => by cases e
  | _, _, .cons (k := k) h t, e => by
    rw [List.lookup_cons] at e ⊢
    cases q : f == k with
    | true => rw [q] at e; cases e; exact ⟨_, rfl, h⟩
    | false => rw [q] at e; exact RepF.look t e
end L2.Mi

/-! instances: fields, making, methods, properties -/
namespace L2.Mi
open PySem PySem.Spec PyProof.Rows L2

def insOf (d : D) (c : Cs) : Option (Str × List (Str × D)) := match d with
  | .obj n fs => some (n, fs)
  | .ref k => match c[k]? with
    | some (.ins n fs) => some (n, fs)
    | some (.frz (.obj n fs)) => some (n, fs)
    | _ => none
  | _ => none
section
variable {K : PySem.W.Frag} {I H : Hp} {m : List Addr} {c : Cs}
theorem ins_at {v : V} {d : D} {n : Str} {fs : List (Str × D)} (R : Rel K I H m c) (p : Rep K I m v d) (e : insOf d c = some (n, fs)) : ∃ (a C dx : Addr) (vs : List (Str × V)), v = .ref a ∧ NamV K n (.ref C) ∧ H a = some (.ins C dx vs) ∧ RepF K I m vs fs := by
  cases p with
  | @obj a C dx n' vs ds hn h r => cases e; exact ⟨a, C, dx, vs, rfl, hn, R.same _ _ h, r⟩
  | @ref k a q =>
    have e : (match c[k]? with
      | some (.ins n fs) => some (n, fs)
      | some (.frz (.obj n fs)) => some (n, fs)
      | _ => none) = some (n, fs) := e
    cases z : c[k]? with
    | none => rw [z] at e; cases e
    | some x =>
      rw [z] at e
      have hc := R.cell k a x q z
      cases x with
      | ins n' ds =>
        cases e
        obtain ⟨_, dx, vs, _, _, _, ⟨C, hn, hH⟩, r⟩ := hc
        exact ⟨a, C, dx, vs, rfl, hn, hH, r⟩
      | frz d =>
        cases d with
        | obj n' ds =>
          cases e
          obtain ⟨_, hr⟩ := hc
          cases hr with
          | obj hn h r => exact ⟨a, _, _, _, rfl, hn, R.same _ _ h, r⟩
        | _ => cases e
      | _ => cases e
  | _ => cases e
theorem RepF.lookN {f : Str} : ∀ {vs : List (Str × V)} {ds : List (Str × D)}, RepF K I m vs ds → ds.lookup f = none → vs.lookup f = none
  | _, _, .nil, _ => rfl
  | _, _, .cons (k := k) h t, e => by
    rw [List.lookup_cons] at e ⊢
    cases q : f == k with
    | true => rw [q] at e; cases e
    | false => rw [q] at e; exact RepF.lookN t e
def putFD (f : Str) (d : D) : List (Str × D) → List (Str × D)
  | [] => [(f, d)]
  | (g, x) :: r => if g = f then (g, d) :: r else (g, x) :: putFD f d r
theorem RepF.put {f : Str} {v : V} {d : D} (p : Rep K I m v d) : ∀ {vs : List (Str × V)} {ds : List (Str × D)}, RepF K I m vs ds → RepF K I m (putF f v vs) (putFD f d ds)
  | _, _, .nil => .cons p .nil
  | _, _, .cons (k := k) h t => by
    unfold putF putFD
    by_cases e : k = f
    · rw [if_pos e, if_pos e]; exact .cons p t
    · rw [if_neg e, if_neg e]; exact .cons h (RepF.put p t)
theorem RepF.length : ∀ {vs : List (Str × V)} {ds : List (Str × D)}, RepF K I m vs ds → vs.length = ds.length
  | _, _, .nil => rfl
  | _, _, .cons _ t => congrArg (· + 1) (RepF.length t)
/-- a new cell of any kind -/
theorem Rel.pushC (r : Rel K I H m c) {p : Addr} (np : H p = none) {o : HO} {x : Cell} (q : CellAt K I (upd H p o) (m ++ [p]) p x) : Rel K I (upd H p o) (m ++ [p]) (c ++ [x]) ∧ Ext I m H I (m ++ [p]) (upd H p o) := by
  have sH : Same H (upd H p o) := fun b u e => by rw [upd_ne (ne_of_none e np)]; exact e
  have hp := pre_app m p
  have nm := r.fresh np
  refine ⟨⟨r.same.trans sH, by simp [r.len], fun i j a h1 h2 => ?_, fun k a x h1 h2 => ?_, r.tabs.upHm (nt_none np)⟩, Same.refl I, hp, fun b o h1 hT h2 h3 => ⟨sH _ _ h1, h2, ?_⟩⟩
  · rcases Nat.lt_or_ge i m.length with hi | hi
    · rcases Nat.lt_or_ge j m.length with hj | hj
      · rw [List.getElem?_append_left hi] at h1
        rw [List.getElem?_append_left hj] at h2
        exact r.nd i j a h1 h2
      · rw [List.getElem?_append_left hi] at h1
        rw [List.getElem?_append_right hj] at h2
        have e : a = p := by
          cases z : j - m.length with
          | zero => rw [z] at h2; simpa using h2.symm
          | succ n => rw [z] at h2; simp at h2
        exact absurd (List.mem_of_getElem? h1) (e ▸ nm)
    · rcases Nat.lt_or_ge j m.length with hj | hj
      · rw [List.getElem?_append_left hj] at h2
        rw [List.getElem?_append_right hi] at h1
        have e : a = p := by
          cases z : i - m.length with
          | zero => rw [z] at h1; simpa using h1.symm
          | succ n => rw [z] at h1; simp at h1
        exact absurd (List.mem_of_getElem? h2) (e ▸ nm)
      · have hi' := (List.getElem?_eq_some_iff.mp h1).1
        have hj' := (List.getElem?_eq_some_iff.mp h2).1
        simp at hi' hj'
        omega
  · rcases Nat.lt_or_ge k m.length with hk | hk
    · rw [List.getElem?_append_left hk] at h1
      rw [List.getElem?_append_left (by rw [← r.len]; exact hk)] at h2
      have q := r.cell k a x h1 h2
      cases x with
      | lst es =>
        obtain ⟨q1, ws, q2, q3⟩ := q
        exact ⟨q1, ws, sH _ _ q2, q3.mono (Same.refl I) hp⟩
      | dct es =>
        obtain ⟨q1, ws, q2, q3⟩ := q
        exact ⟨q1, ws, sH _ _ q2, q3.mono (Same.refl I) hp⟩
      | dT es =>
        obtain ⟨q1, ws, q2, q3⟩ := q
        exact ⟨q1, ws, sH _ _ q2, q3.mono (Same.refl I) hp⟩
      | dTz es => exact q.imp (fun _ y => y.imp fun _ y => ⟨y.1, y.2.mono (Same.refl I) hp⟩)
      | ins C es =>
        obtain ⟨q1, dx, ws, q2, q3, q4, q5, q6⟩ := q
        exact ⟨q1, dx, ws, q2, fun z => by
          rcases List.mem_append.mp z with z | z
          · exact q3 z
          · simp only [List.mem_singleton] at z
            exact ne_of_none q4 np z, sH _ _ q4, q5.imp fun _ z => ⟨z.1, sH _ _ z.2⟩, q6.mono (Same.refl I) hp⟩
      | frz d => exact ⟨q.1, q.2.mono (Same.refl I) hp⟩
    · have hk' := (List.getElem?_eq_some_iff.mp h1).1
      simp at hk'
      have e : k = m.length := by omega
      subst e
      rw [List.getElem?_append_right (Nat.le_refl _)] at h1
      rw [r.len, List.getElem?_append_right (Nat.le_refl _)] at h2
      simp at h1 h2
      subst h1; subst h2
      exact q
  · intro z
    rcases List.mem_append.mp z with z | z
    · exact h3 z
    · simp only [List.mem_singleton] at z
      exact ne_of_none h1 np z
/-- a new instance -/
theorem Rel.pushI (r : Rel K I H m c) {x dx C : Addr} {n : Str} (nx : H x = none) (nd : H dx = none) (ne : dx ≠ x) (hn : NamV K n (.ref C)) :
    Rel K I (upd (upd H dx (.own x)) x (.ins C dx [])) (m ++ [x]) (c ++ [.ins n []]) ∧ Ext I m H I (m ++ [x]) (upd (upd H dx (.own x)) x (.ins C dx [])) := by
  have r1 : Rel K I (upd H dx (.own x)) m c := r.sideO (fun y z => by rw [nd] at z; cases z) (fun o z => by rw [nd] at z; first | (cases z; done) | (cases z; exact ⟨(fun _ q => nomatch q), (fun _ q => nomatch q)⟩)) (r.same.free nd) (r.fresh nd)
  have nx1 : upd H dx (.own x) x = none := by rw [upd_ne (Ne.symm ne)]; exact nx
  have nxm := r.fresh nx
  obtain ⟨r2, e2⟩ := r1.pushC (o := .ins C dx []) (x := .ins n []) nx1 ⟨r.same.free nx, dx, [], r.same.free nd, fun z => by
    rcases List.mem_append.mp z with z | z
    · exact r.fresh nd z
    · simp only [List.mem_singleton] at z; exact ne z, by rw [upd_ne ne, upd_same], ⟨C, hn, upd_same⟩, .nil⟩
  refine ⟨r2, (Ext.trans ⟨Same.refl I, Pre.refl m, fun b o h1 hT h2 h3 => ⟨by rw [upd_ne (ne_of_none h1 nd)]; exact h1, h2, h3⟩⟩ e2)⟩
/-- a field is stored -/
theorem Rel.putI (r : Rel K I H m c) {k : Nat} {a C dx : Addr} {n : Str} {vs0 vs : List (Str × V)} {fs0 fs : List (Str × D)} (hm : m[k]? = some a) (hc : c[k]? = some (.ins n fs0)) (hH : H a = some (.ins C dx vs0)) (q : RepF K I m vs fs) :
    Rel K I (upd H a (.ins C dx vs)) m (c.set k (.ins n fs)) ∧ Ext I m H I m (upd H a (.ins C dx vs)) := by
  obtain ⟨n1, dx', ws, d1, d2, d3, ⟨C', hn, hH'⟩, n3⟩ := r.cell k a _ hm hc
  rw [hH] at hH'
  cases hH'
  have da : dx ≠ a := fun z => by rw [z, hH] at d3; cases d3
  refine ⟨⟨fun b o e => ?_, by simp [r.len], r.nd, fun j b x h1 h2 => ?_, r.tabs.upH (nt_some hH ⟨(fun _ z => nomatch z), (fun _ z => nomatch z)⟩)⟩, Same.refl I, Pre.refl m, fun b o h1 hT h2 h3 => ⟨?_, h2, h3⟩⟩
  · rw [upd_ne (ne_of_none e n1)]
    exact r.same _ _ e
  · by_cases hj : k = j
    · subst hj
      rw [List.getElem?_set_self (List.getElem?_eq_some_iff.mp hc).1] at h2
      rw [hm] at h1
      cases h1; cases h2
      exact ⟨n1, dx, vs, d1, d2, by rw [upd_ne da]; exact d3, ⟨C, hn, upd_same⟩, q⟩
    · rw [List.getElem?_set_ne hj] at h2
      have nb : b ≠ a := fun e => hj (r.nd k j a hm (e ▸ h1))
      have q := r.cell j b x h1 h2
      cases x with
      | lst es =>
        obtain ⟨q1, ws, q2, q3⟩ := q
        exact ⟨q1, ws, by rw [upd_ne nb]; exact q2, q3⟩
      | dct es =>
        obtain ⟨q1, ws, q2, q3⟩ := q
        exact ⟨q1, ws, by rw [upd_ne nb]; exact q2, q3⟩
      | dT es =>
        obtain ⟨q1, ws, q2, q3⟩ := q
        exact ⟨q1, ws, by rw [upd_ne nb]; exact q2, q3⟩
      | dTz es => exact q
      | ins C2 es =>
        obtain ⟨q1, dx2, ws, q2, q3, q4, q5, q6⟩ := q
        exact ⟨q1, dx2, ws, q2, q3, by rw [upd_ne (ne_of q4 hH (by intro z; cases z))]; exact q4, q5.imp fun _ z => ⟨z.1, by rw [upd_ne nb]; exact z.2⟩, q6⟩
      | frz d => exact q
  · rw [upd_ne (fun (e : b = a) => h3 (by rw [e]; exact List.mem_of_getElem? hm))]
    exact h1
/-- an instance does not change any more -/
theorem Rel.freezeI (r : Rel K I H m c) {k : Nat} {a : Addr} {n : Str} {fs : List (Str × D)} (hm : m[k]? = some a) (hc : c[k]? = some (.ins n fs)) : ∃ I' : Hp, Rel K I' H m (c.set k (.frz (.obj n fs))) ∧ Ext I m H I' m H ∧ Rep K I' m (.ref a) (.obj n fs) := by
  obtain ⟨n1, dx, ws, d1, d2, d3, ⟨C, hn, hH⟩, n3⟩ := r.cell k a _ hm hc
  have sI : Same I (upd I a (.ins C dx ws)) := fun b o e => by rw [upd_ne (ne_of_none e n1)]; exact e
  refine ⟨upd I a (.ins C dx ws), ⟨fun b o e => ?_, by simp [r.len], r.nd, fun j b x h1 h2 => ?_, r.tabs.upI (nt_some hH ⟨(fun _ z => nomatch z), (fun _ z => nomatch z)⟩)⟩, ⟨sI, Pre.refl m, fun b o h1 hT h2 h3 => ⟨h1, ?_, h3⟩⟩, .obj hn upd_same (n3.mono sI (Pre.refl m))⟩
  · by_cases hb : b = a
    · subst hb
      rw [upd_same] at e
      cases e
      exact hH
    · rw [upd_ne hb] at e
      exact r.same _ _ e
  · by_cases hj : k = j
    · subst hj
      rw [List.getElem?_set_self (List.getElem?_eq_some_iff.mp hc).1] at h2
      rw [hm] at h1
      cases h1; cases h2
      exact ⟨by rw [upd_same]; exact nofun, .obj hn upd_same (n3.mono sI (Pre.refl m))⟩
    · rw [List.getElem?_set_ne hj] at h2
      have nb : b ≠ a := fun e => hj (r.nd k j a hm (e ▸ h1))
      have q := r.cell j b x h1 h2
      cases x with
      | lst es =>
        obtain ⟨q1, ws, q2, q3⟩ := q
        exact ⟨by rw [upd_ne nb]; exact q1, ws, q2, q3.mono sI (Pre.refl m)⟩
      | dct es =>
        obtain ⟨q1, ws, q2, q3⟩ := q
        exact ⟨by rw [upd_ne nb]; exact q1, ws, q2, q3.mono sI (Pre.refl m)⟩
      | dT es =>
        obtain ⟨q1, ws, q2, q3⟩ := q
        exact ⟨by rw [upd_ne nb]; exact q1, ws, q2, q3.mono sI (Pre.refl m)⟩
      | dTz es => exact q.imp (fun _ y => y.imp fun _ y => ⟨sI _ _ y.1, y.2.mono sI (Pre.refl m)⟩)
      | ins C2 es =>
        obtain ⟨q1, dx2, ws, q2, q3, q4, q5, q6⟩ := q
        exact ⟨by rw [upd_ne nb]; exact q1, dx2, ws, by rw [upd_ne (ne_of q4 hH (by intro z; cases z))]; exact q2, q3, q4, q5, q6.mono sI (Pre.refl m)⟩
      | frz d => exact ⟨by rw [upd_ne nb]; exact q.1, q.2.mono sI (Pre.refl m)⟩
  · rw [upd_ne (fun (e : b = a) => h3 (by rw [e]; exact List.mem_of_getElem? hm))]
    exact h2
end

/-! ### fields -/
def FldK (K : PySem.W.Frag) (n f : Str) : Prop := ∃ C, NamV K n (.ref C) ∧ Cls K C ∧ NoAttr K C f
def fldO (ns : List Str) (f : Str) (n : Str) (fs : List (Str × D)) (c : Cs) : R D := if n ∈ ns then (match fs.lookup f with
    | some d => .ok d c
    | none => .stuck) else .stuck
def fldR (ns : List Str) (f : Str) (x : D) (c : Cs) : R D := match insOf x c with
  | some (n, fs) => fldO ns f n fs c
  | none => .stuck
def mFld (ns : List Str) (f : Str) (a : ME) : ME := fun l c => (a l c).bind fun x c1 => fldR ns f x c1
section
variable {X : Cx} {W : WX} {e o : Expr} {es : List Expr} {f : Str} {fa fo : ME} {ga : MA} {ns : List Str} {pos p p' apos : Pos}
theorem me_fld (hT : ∀ n ∈ ns, FldK X.K n f) (ha : PE X e (rdE X.K W fa)) (hb : attributeBase e f X.env (eval e X.env) = eval e X.env := by rfl) : PE X (.Attribute e f pos) (rdE X.K W (mFld ns f fa)) :=
  PEi (pe_fld ha hb) fun σ H Q ⟨I, m, l, c, R, L, A⟩ => ⟨I, m, l, c, R, L, After.mono (After.bind (rep := rD X.K) A) fun v1 H1 ⟨I1, m1, c1, d1, E1, R1, p1, A1⟩ => by
    have A1 : After (rD X.K) X.K I1 m1 H1 (fun cls dd H' => W cls dd σ H') Q (fldR ns f d1 c1) := A1
    unfold fldR at A1
    cases q : insOf d1 c1 with
    | none => rw [q] at A1; exact A1.elim
    | some nf =>
      obtain ⟨n, fs⟩ := nf
      rw [q] at A1
      have A1 : After (rD X.K) X.K I1 m1 H1 (fun cls dd H' => W cls dd σ H') Q (fldO ns f n fs c1) := A1
      unfold fldO at A1
      by_cases hn : n ∈ ns
      · rw [if_pos hn] at A1
        cases z : fs.lookup f with
        | none => rw [z] at A1; exact A1.elim
        | some d =>
          rw [z] at A1
          obtain ⟨a, C, dx, vs, rfl, h1, h2, h3⟩ := ins_at R1 p1 q
          obtain ⟨C', k1, k2, k3⟩ := hT n hn
          cases h1.one k1
          obtain ⟨v, e1, e2⟩ := h3.look z
          exact ⟨a, C, dx, vs, v, rfl, h2, k2, k3, e1, A1.here R1 e2⟩
      · rw [if_neg hn] at A1
        exact A1.elim⟩
/-- o.f = e -/
def fldS (ns : List Str) (f : Str) (d x : D) (l : Ls) (c : Cs) : RS := match x with
  | .ref k => match c[k]? with
    | some (.ins n fs) => if n ∈ ns ∧ fs.length < 900 then .go (.nx l) (c.set k (.ins n (putFD f d fs))) else .stuck
    | _ => .stuck
  | _ => .stuck
def sFldM (ns : List Str) (f : Str) (o a : ME) : MS := fun l c => (a l c).seq l fun d c1 => (o l c1).seq l fun x c2 => fldS ns f d x l c2
theorem ms_fld (hT : ∀ n ∈ ns, FldK X.K n f) (ho : PE X o (rdE X.K W fo)) (hv : PE X e (rdE X.K W fa)) (hs : swapsWith e (some (.Attribute o f p')) pos.line X.env = pure false := by rfl) : PS X (.Assign [.Attribute o f p'] e pos) (rdS X.K W (sFldM ns f fo fa)) :=
  PSi (ps_fld ho hv hs) fun D σ H ⟨I, m, l, c, R, L, A⟩ => ⟨I, m, l, c, R, L, After.mono (AfterS.seq (rep := rD X.K) L A) fun v1 H1 ⟨I1, m1, c1, d1, E1, R1, p1, A1⟩ =>
    ⟨I1, m1, l, c1, R1, L.ext E1, After.mono (AfterS.seq (rep := rD X.K) (L.ext E1) A1) fun v2 H2 ⟨I2, m2, c2, d2, E2, R2, p2, A2⟩ => by
      have L2 := (L.ext E1).ext E2
      cases p2 with
      | @ref k a hk =>
        have A2 : AfterS X.K I2 m2 H2 W D (match c2[k]? with
          | some (.ins n fs) => if n ∈ ns ∧ fs.length < 900 then .go (.nx l) (c2.set k (.ins n (putFD f d1 fs))) else .stuck
          | _ => .stuck) := A2
        cases q : c2[k]? with
        | none => rw [q] at A2; exact A2.elim
        | some x =>
          rw [q] at A2
          cases x with
          | ins n fs =>
            have A2 : AfterS X.K I2 m2 H2 W D (if n ∈ ns ∧ fs.length < 900 then .go (.nx l) (c2.set k (.ins n (putFD f d1 fs))) else .stuck) := A2
            by_cases hn : n ∈ ns ∧ fs.length < 900
            · rw [if_pos hn] at A2
              obtain ⟨_, dx, vs, _, _, _, ⟨C, h1, h2⟩, h3⟩ := R2.cell k a _ hk q
              obtain ⟨C', k1, k2, k3⟩ := hT n hn.1
              cases h1.one k1
              refine ⟨a, C, dx, vs, rfl, h2, k2, k3, by rw [h3.length]; omega, ?_⟩
              obtain ⟨R3, E3⟩ := R2.putI hk q h2 (h3.put (f := f) (Rep.ext p1 E2))
              exact A2 I2 m2 _ σ E3 R3 (L2.ext E3)
            · rw [if_neg hn] at A2; exact A2.elim
          | _ => exact A2.elim
      | _ => exact A2.elim⟩⟩
end

/-! ### making -/
structure MakK (P : Program) (w : World) (K : PySem.W.Frag) (mg : Str → Option Value) (base : Heap) (n : Str) (g : List D → Cs → R D) (k : Nat) : Prop where
  ex : ∃ (C f : Addr) (fd : FuncData) (ps : List Str), PySem.W.nsIn K mainGlobals n = some (some (.ref C)) ∧ mg n = some (.ref C) ∧ Mk K C f ∧ GFn P w K mg base k f fd ps g ∧ Binds K fd ps []
def mkR (n : Str) (g : List D → Cs → R D) (ds : List D) (c : Cs) : R D := (g (.ref c.length :: ds) (c ++ [.ins n []])).bind fun r c2 => match r with
  | .non => .ok (.ref c.length) c2
  | _ => .stuck
theorem make_guards {A : Around} {C : Addr} {us : List Value} {kw : List (Str × Value)} (h : A.guards = some []) : (A.under (.builtin "type.__call__" ⟨.ref C :: us, kw⟩)).guards = some [] := by
  first | exact h | simpa [Around.under, Code.guards, pushGuards, Code.isGuard, guardIds] using h
section
variable {X : Cx} {W : WX} {e o : Expr} {es : List Expr} {f n x mm : Str} {fa fo : ME} {ga : MA} {g : List D → Cs → R D} {k : Nat} {pos p p' apos : Pos}
theorem run_makeG {pins : List (Addr × Obj)} {σ : St} {H : Hp} {s : Shared} {Q : VK} {us : List Value} {vs : List V} {I : Hp} {m : List Addr} {c : Cs} {ds : List D} {C fi : Addr} {fd : FuncData} {ps : List Str} (M : Mk X.K C fi) (hn : NamV X.K n (.ref C)) (F : GFn X.prog X.w X.K X.mg X.base k fi fd ps g)
    (hr : Room (k + 1) X.A) (hgd : X.A.guards = some []) (hb : Binds X.K fd ps []) (tk : Takes X W) (J : Inv X pins σ H s) (r : Vals vs us) (R : Rel X.K I H m c) (p : Reps X.K I m vs ds) (a : After (rD X.K) X.K I m H (fun cls d H' => W cls d σ H') Q (mkR n g ds c)) :
    wpAny (model X.prog X.w) X.A (call (.ref C) us) (EP X pins σ Q) X.xe s := by
  have nx := J.hok.fresh (Nat.le_succ s.heap.objs.size)
  have ndx := J.hok.fresh (Nat.le_refl s.heap.objs.size)
  have J2 := Inv.made (C := C) J
  obtain ⟨R2, E2⟩ := R.pushI nx ndx (Nat.ne_of_lt (Nat.lt_succ_self _)) hn
  have hx : (m ++ [s.heap.objs.size + 1])[c.length]? = some (s.heap.objs.size + 1) := by
    rw [← R.len, List.getElem?_append_right (Nat.le_refl _), Nat.sub_self]
    rfl
  have p2 : Reps X.K I (m ++ [s.heap.objs.size + 1]) (V.ref (s.heap.objs.size + 1) :: vs) (.ref c.length :: ds) := .cons (.ref hx) (p.ext E2)
  have r2 : Vals (V.ref (s.heap.objs.size + 1) :: vs) (Value.ref (s.heap.objs.size + 1) :: us) := .cons rfl r
  have a1 : After (rD X.K) X.K I (m ++ [s.heap.objs.size + 1]) (upd (upd H s.heap.objs.size (.own (s.heap.objs.size + 1))) (s.heap.objs.size + 1) (.ins C s.heap.objs.size [])) (fun cls d H' => W cls d σ H') (fun v H' => v = .non ∧ Q (.ref (s.heap.objs.size + 1)) H') (g (.ref c.length :: ds) (c ++ [.ins n []])) :=
    After.mono (After.bind (rep := rD X.K) (After.ext E2 a)) fun v1 H1 ⟨I1, m1, c1, d1, E1, R1, p1, A1⟩ => by
      cases p1 with
      | non => exact ⟨rfl, A1.here R1 (.ref (E1.pre _ _ hx))⟩
      | _ => exact A1.elim
  have hl0 := F.len _ _ (after_nonstuck a1)
  have hl : (Value.ref (s.heap.objs.size + 1) :: us).length = ps.length := by
    rw [← r2.length, p2.length]; exact hl0
  have hb2 : ∀ s', X.K.In s'.heap → BindsTo s' fd ⟨Value.ref (s.heap.objs.size + 1) :: us, []⟩ (ps.zip (Value.ref (s.heap.objs.size + 1) :: us)) := fun s' kin => by
    have z := hb s' (Value.ref (s.heap.objs.size + 1) :: us) kin (by rw [List.append_nil]; exact hl)
    rw [List.append_nil] at z
    exact z
  refine wpAny_call (make_map (f := fi) J.kIn M.makes M.init (beq_iff_eq.mp M.fn) (codeAny_mono (F.run _ X.stack _ _ ⟨Value.ref (s.heap.objs.size + 1) :: us, []⟩ (Value.ref (s.heap.objs.size + 1) :: us) _ _ (fun cls d H' => W cls d σ H') I _ _ _ (hr.make C us []) (make_guards hgd)
    (J2.env0.make C us []) (hb2 _ J2.kIn) r2 R2 p2 a1) fun r s' hq' => ?_))
  cases r with
  | error e => exact tk e s' (XE.of_call J2 (fun _ _ _ h => h) hq')
  | ok fl =>
    cases fl with
    | ret u =>
      obtain ⟨v, H', J3, rv, ev, q3⟩ := J2.after hq'
      subst ev
      exact ⟨rv, ⟨V.ref (s.heap.objs.size + 1), H', J3, rfl, q3⟩⟩
    | next => exact False.elim hq'
    | brk => exact False.elim hq'
    | cont => exact False.elim hq'
/-- n(e, ..) -/
def mMake (n : Str) (g : List D → Cs → R D) (t : MA) : ME := fun l c => (t l c).bind fun xs c1 => mkR n g xs c1
theorem me_make (T : MakK X.prog X.w X.K X.mg X.base n g k) (hr : Room (k + 1) X.A) (hgd : X.A.guards = some []) (hg : Gl X n) (tk : Takes X W) (ha : PA X (e :: es) (rdA X.K W ga))
    (hdb : (n == ("__debug__" : Str)) = false := by decide) (he : starEach (e :: es) X.env = (false, eval e X.env) :: starEach es X.env := by rfl) (hpl : (backTo pos (starEach es X.env)).any (·.1) = false := by rfl) :
    PE X (.Call (.Name n p) (e :: es) [] pos) (rdE X.K W (mMake n g ga)) := by
  obtain ⟨C, fi, fd, ps, nC, hm, M, F, hb⟩ := T.ex
  refine ⟨fun pins s σ H Q J ⟨I, m, l, c, R, L, A⟩ => ?_⟩
  refine wpAny_Call_Name_kw (ld_glob J hg hm ?_ hdb)
  refine PySem.W.callWith_K (h₀ := X.base) J.ok.mod.kin M.kp (thn (ha.run pos pins s σ H _ J ⟨I, m, l, c, R, L, After.bind (rep := rA X.K) A⟩) fun us s1 ⟨vs, H1, J1, r, I1, m1, c1, ds, E1, R1, p1, A1⟩ => ⟨J1.kIn, ?_⟩) he hpl
  exact run_makeG M (.inl nC) F hr hgd hb tk J1 r R1 p1 A1
/-- an instance that does not change from here on -/
def frzI (d : D) (c : Cs) : R D := match d with
  | .ref k => match c[k]? with
    | some (.ins n fs) => .ok (.obj n fs) (c.set k (.frz (.obj n fs)))
    | _ => .stuck
  | _ => .stuck
def mFrzI (a : ME) : ME := fun l c => (a l c).bind fun d c1 => frzI d c1
theorem me_frzI (h : PE X e (rdE X.K W fa)) : PE X e (rdE X.K W (mFrzI fa)) := PEi h fun σ H Q ⟨I, m, l, c, R, L, A⟩ =>
  ⟨I, m, l, c, R, L, After.mono (After.bind (rep := rD X.K) A) fun v1 H1 ⟨I1, m1, c1, d1, E1, R1, p1, A1⟩ => by
    cases p1 with
    | @ref k a hk =>
      have A2 : After (rD X.K) X.K I1 m1 H1 (fun cls dd H' => W cls dd σ H') Q (match c1[k]? with
        | some (.ins n fs) => .ok (.obj n fs) (c1.set k (.frz (.obj n fs)))
        | _ => .stuck) := A1
      cases q : c1[k]? with
      | none => rw [q] at A2; exact A2.elim
      | some x =>
        rw [q] at A2
        cases x with
        | ins n fs =>
          obtain ⟨I2, R2, E2, p2⟩ := R1.freezeI hk q
          exact A2 I2 m1 H1 _ E2 R2 p2
        | _ => exact A2.elim
    | _ => exact A1.elim⟩

/-! ### methods -/
structure MthK (P : Program) (w : World) (K : PySem.W.Frag) (mg : Str → Option Value) (base : Heap) (n mm : Str) (g : List D → Cs → R D) (k : Nat) : Prop where
  ex : ∃ (C f : Addr) (fd : FuncData) (ps : List Str), NamV K n (.ref C) ∧ Cls K C ∧ Meth K C mm f ∧ GFn P w K mg base k f fd ps g ∧ Binds K fd ps []
abbrev Tbl := List (Str × (List D → Cs → R D))
theorem tbl_mem {β : Type} {n : Str} {g : β} : ∀ {t : List (Str × β)}, t.lookup n = some g → (n, g) ∈ t
  | (a, b) :: t, h => by
    rw [List.lookup_cons] at h
    cases q : n == a with
    | true => rw [q] at h; cases h; rw [beq_iff_eq.mp q]; exact List.mem_cons_self
    | false => rw [q] at h; exact List.mem_cons_of_mem _ (tbl_mem h)
/-- the method of the receiver's class -/
def viaT {α : Type} (tbl : Tbl) (x : D) (c : Cs) (r : (List D → Cs → R D) → List (Str × D) → R α) : R α := match insOf x c with
  | some (n, fs) => match tbl.lookup n with
    | some g => r g fs
    | none => .stuck
  | none => .stuck
theorem via_read {α β : Type} {rep : Hp → List Addr → β → α → Prop} {K : PySem.W.Frag} {I H : Hp} {m : List Addr} {c : Cs} {W : XK} {Q : β → Hp → Prop} {tbl : Tbl} {d : D} {v : V} {r : (List D → Cs → R D) → List (Str × D) → R α} (R : Rel K I H m c) (p : Rep K I m v d)
    (A : After rep K I m H W Q (viaT tbl d c r)) : ∃ (a C dx : Addr) (vs : List (Str × V)) (n : Str) (fs : List (Str × D)) (g : List D → Cs → Mi.R D), v = .ref a ∧ NamV K n (.ref C) ∧ H a = some (.ins C dx vs) ∧ RepF K I m vs fs ∧ (n, g) ∈ tbl ∧ After rep K I m H W Q (r g fs) := by
  unfold viaT at A
  cases q : insOf d c with
  | none => rw [q] at A; exact A.elim
  | some nf =>
    obtain ⟨n, fs⟩ := nf
    rw [q] at A
    have A : After rep K I m H W Q (match tbl.lookup n with
      | some g => r g fs
      | none => .stuck) := A
    cases z : tbl.lookup n with
    | none => rw [z] at A; exact A.elim
    | some g =>
      rw [z] at A
      obtain ⟨a, C, dx, vs, e, h1, h2, h3⟩ := ins_at R p q
      exact ⟨a, C, dx, vs, n, fs, g, e, h1, h2, h3, tbl_mem z, A⟩
def mMeth (tbl : Tbl) (mm : Str) (o : ME) (t : MA) : ME := fun l c => (o l c).bind fun x c1 => viaT tbl x c1 fun g fs => match fs.lookup mm with
  | none => (t l c1).bind fun xs c2 => g (x :: xs) c2
  | some _ => .stuck
theorem me_meth {tbl : Tbl} {pl : Sem Bool} (hT : ∀ q ∈ tbl, MthK X.prog X.w X.K X.mg X.base q.1 mm q.2 k) (hr : Room k X.A) (hgd : X.A.guards = some []) (tk : Takes X W) (ho : PE X o (rdE X.K W fo)) (ha : PA X (e :: es) (rdA X.K W ga))
    (hst : starEach (e :: es) X.env = (false, eval e X.env) :: starEach es X.env := by rfl) (hpl : (backTo pos (starEach es X.env)).any (·.1) = false := by rfl)
    (ht : eval (.Call (.Attribute o mm apos) (e :: es) [] pos) X.env = (do
      let ov ← eval o X.env
      standAt apos.atName
      let (f, first) ← holding [ov] (getMethod ov mm pl)
      callWith pos f first (backTo pos (starEach (e :: es) X.env)) (backToKw pos (keywordEach [] X.env))) := by rfl) :
    PE X (.Call (.Attribute o mm apos) (e :: es) [] pos) (rdE X.K W (mMeth tbl mm fo ga)) := by
  refine ⟨fun pins s σ H Q J ⟨I, m, l, c, R, L, A⟩ => ?_⟩
  refine PySem.W.methodCall_KW (pl := pl) (thn (ho.run pins s σ H _ J ⟨I, m, l, c, R, L, After.bind (rep := rD X.K) A⟩) fun u s1 ⟨v, H1, J1, rv, I1, m1, c1, d1, E1, R1, p1, A1⟩ => ?_) ht
  obtain ⟨a, C, dx, vs, n, fs, g, rfl, h1, h2, h3, h4, A2⟩ := via_read R1 p1 A1
  obtain rfl : u = Value.ref a := rv
  obtain ⟨C', f', fd, ps, k1, k2, k3, F, hb⟩ := (hT _ h4).ex
  cases h1.one k1
  cases z : fs.lookup mm with
  | some d => rw [z] at A2; exact A2.elim
  | none =>
    rw [z] at A2
    refine getmeth_ok J1 h2 k2 k3 (h3.lookN z) ?_
    refine PySem.W.callWith_K (first := [.ref a]) (h₀ := X.base) J.ok.mod.kin k3.kp (thn (ha.run pos pins s1 σ H1 _ J1 ⟨I1, m1, l, c1, R1, L.ext E1, After.bind (rep := rA X.K) A2⟩) fun us s2 ⟨ws, H2, J2, r, I2, m2, c2, ds, E2, R2, p2, A3⟩ => ⟨J2.kIn, ?_⟩) hst hpl
    exact run_g (us := .ref a :: us) (vs := .ref a :: ws) F hr hgd hb tk J2 (.cons rfl r) R2 (.cons (Rep.ext p1 E2) p2) A3
theorem me_meth0 {tbl : Tbl} {pl : Sem Bool} (hT : ∀ q ∈ tbl, MthK X.prog X.w X.K X.mg X.base q.1 mm q.2 k) (hr : Room k X.A) (hgd : X.A.guards = some []) (tk : Takes X W) (ho : PE X o (rdE X.K W fo))
    (ht : eval (.Call (.Attribute o mm apos) [] [] pos) X.env = (do
      let ov ← eval o X.env
      standAt apos.atName
      let (f, first) ← holding [ov] (getMethod ov mm pl)
      callWith pos f first (backTo pos (starEach [] X.env)) (backToKw pos (keywordEach [] X.env))) := by rfl) :
    PE X (.Call (.Attribute o mm apos) [] [] pos) (rdE X.K W (mMeth tbl mm fo aNil)) := by
  refine ⟨fun pins s σ H Q J ⟨I, m, l, c, R, L, A⟩ => ?_⟩
  refine PySem.W.methodCall_KW (pl := pl) (thn (ho.run pins s σ H _ J ⟨I, m, l, c, R, L, After.bind (rep := rD X.K) A⟩) fun u s1 ⟨v, H1, J1, rv, I1, m1, c1, d1, E1, R1, p1, A1⟩ => ?_) ht
  obtain ⟨a, C, dx, vs, n, fs, g, rfl, h1, h2, h3, h4, A2⟩ := via_read R1 p1 A1
  obtain rfl : u = Value.ref a := rv
  obtain ⟨C', f', fd, ps, k1, k2, k3, F, hb⟩ := (hT _ h4).ex
  cases h1.one k1
  cases z : fs.lookup mm with
  | some d => rw [z] at A2; exact A2.elim
  | none =>
    rw [z] at A2
    refine getmeth_ok J1 h2 k2 k3 (h3.lookN z) ?_
    exact PySem.W.callWith_K0 (first := [.ref a]) J1.kIn k3.kp (run_g (us := [.ref a]) (vs := [.ref a]) F hr hgd hb tk J1 (.cons rfl .nil) R1 (.cons p1 .nil) A2)

/-! ### properties -/
end
end L2.Mi

/-! f-strings, dict cells, a written tuple's index -/
namespace L2.Mi
open PySem PySem.Spec PyProof.Rows L2
section
variable {X : Cx} {W : WX} {e o : Expr} {es : List Expr} {fa fo fi : ME} {pos p : Pos}
/-! ### f-strings -/
/-! ### index of a text in a written tuple of texts -/
/-! ### dicts as cells -/
theorem Rel.adoptC {K : PySem.W.Frag} {I H : Hp} {m : List Addr} {c : Cs} (r : Rel K I H m c) {p : Addr} (hm : p ∉ m) (hI : I p = none) (ho : ∀ x, H p ≠ some (.own x)) (hT : Nt H p) {x : Cell} (q : CellAt K I H (m ++ [p]) p x) : Rel K I H (m ++ [p]) (c ++ [x]) := by
  have hp := pre_app m p
  refine ⟨r.same, by simp [r.len], fun i j a h1 h2 => ?_, fun k a x h1 h2 => ?_, r.tabs.upm hT⟩
  · rcases Nat.lt_or_ge i m.length with hi | hi
    · rcases Nat.lt_or_ge j m.length with hj | hj
      · rw [List.getElem?_append_left hi] at h1
        rw [List.getElem?_append_left hj] at h2
        exact r.nd i j a h1 h2
      · rw [List.getElem?_append_left hi] at h1
        rw [List.getElem?_append_right hj] at h2
        have e : a = p := by
          cases z : j - m.length with
          | zero => rw [z] at h2; simpa using h2.symm
          | succ n => rw [z] at h2; simp at h2
        exact absurd (List.mem_of_getElem? h1) (e ▸ hm)
    · rcases Nat.lt_or_ge j m.length with hj | hj
      · rw [List.getElem?_append_left hj] at h2
        rw [List.getElem?_append_right hi] at h1
        have e : a = p := by
          cases z : i - m.length with
          | zero => rw [z] at h1; simpa using h1.symm
          | succ n => rw [z] at h1; simp at h1
        exact absurd (List.mem_of_getElem? h2) (e ▸ hm)
      · have hi' := (List.getElem?_eq_some_iff.mp h1).1
        have hj' := (List.getElem?_eq_some_iff.mp h2).1
        simp at hi' hj'
        omega
  · rcases Nat.lt_or_ge k m.length with hk | hk
    · rw [List.getElem?_append_left hk] at h1
      rw [List.getElem?_append_left (by rw [← r.len]; exact hk)] at h2
      have q := r.cell k a x h1 h2
      cases x with
      | lst es =>
        obtain ⟨q1, ws, q2, q3⟩ := q
        exact ⟨q1, ws, q2, q3.mono (Same.refl I) hp⟩
      | dct es =>
        obtain ⟨q1, ws, q2, q3⟩ := q
        exact ⟨q1, ws, q2, q3.mono (Same.refl I) hp⟩
      | dT es =>
        obtain ⟨q1, ws, q2, q3⟩ := q
        exact ⟨q1, ws, q2, q3.mono (Same.refl I) hp⟩
      | dTz es => exact q.imp (fun _ y => y.imp fun _ y => ⟨y.1, y.2.mono (Same.refl I) hp⟩)
      | ins C es =>
        obtain ⟨q1, dx, ws, q2, q3, q4, q5, q6⟩ := q
        exact ⟨q1, dx, ws, q2, fun z => by
          rcases List.mem_append.mp z with z | z
          · exact q3 z
          · simp only [List.mem_singleton] at z
            exact ho _ (z ▸ q4), q4, q5, q6.mono (Same.refl I) hp⟩
      | frz d => exact ⟨q.1, q.2.mono (Same.refl I) hp⟩
    · have hk' := (List.getElem?_eq_some_iff.mp h1).1
      simp at hk'
      have e : k = m.length := by omega
      subst e
      rw [List.getElem?_append_right (Nat.le_refl _)] at h1
      rw [r.len, List.getElem?_append_right (Nat.le_refl _)] at h2
      simp at h1 h2
      subst h1; subst h2
      exact q
theorem RepK.any {K : PySem.W.Frag} {I : Hp} {m : List Addr} {k : Key} : ∀ {vs : List (Key × V)} {ds : List (Key × D)}, RepK K I m vs ds → (vs.any fun kv => decide (kv.1 = k)) = (ds.any fun kv => decide (kv.1 = k))
  | _, _, .nil => rfl
  | _, _, .cons _ t => by simp only [List.any_cons, RepK.any t]
def putKD (kvs : List (Key × D)) (k : Key) (d : D) : List (Key × D) :=
  if (kvs.any fun kv => decide (kv.1 = k)) = true then kvs.map (fun kv => if kv.1 = k then (kv.1, d) else kv) else kvs ++ [(k, d)]
theorem RepK.put {K : PySem.W.Frag} {I : Hp} {m : List Addr} {k : Key} {v : V} {d : D} (p : Rep K I m v d) {vs : List (Key × V)} {ds : List (Key × D)} (r : RepK K I m vs ds) : RepK K I m (putK vs k v) (putKD ds k d) := by
  have app : ∀ {vs : List (Key × V)} {ds : List (Key × D)}, RepK K I m vs ds → RepK K I m (vs ++ [(k, v)]) (ds ++ [(k, d)]) := by
    intro vs ds r
    induction vs generalizing ds with
    | nil => cases r; exact .cons p .nil
    | cons x vs ih => cases r with | cons h t => exact .cons h (ih t)
  have mp : ∀ {vs : List (Key × V)} {ds : List (Key × D)}, RepK K I m vs ds → RepK K I m (vs.map fun kv => if kv.1 = k then (kv.1, v) else kv) (ds.map fun kv => if kv.1 = k then (kv.1, d) else kv) := by
    intro vs ds r
    induction vs generalizing ds with
    | nil => cases r; exact .nil
    | cons x vs ih =>
      cases r with
      | @cons k' _ _ _ _ h t =>
        simp only [List.map_cons]
        by_cases e : k' = k
        · rw [if_pos e, if_pos e]; exact .cons p (ih t)
        · rw [if_neg e, if_neg e]; exact .cons h (ih t)
  unfold putK putKD
  rw [r.any]
  by_cases h : (ds.any fun kv => decide (kv.1 = k)) = true
  · rw [if_pos h, if_pos h]; exact mp r
  · rw [if_neg h, if_neg h]; exact app r
theorem RepK.length {K : PySem.W.Frag} {I : Hp} {m : List Addr} : ∀ {vs : List (Key × V)} {ds : List (Key × D)}, RepK K I m vs ds → vs.length = ds.length
  | _, _, .nil => rfl
  | _, _, .cons _ t => congrArg (· + 1) (RepK.length t)
theorem Rel.putD {K : PySem.W.Frag} {I H : Hp} {m : List Addr} {c : Cs} (r : Rel K I H m c) {k : Nat} {a : Addr} {vs : List (Key × V)} {ds ds0 : List (Key × D)} (hm : m[k]? = some a) (hc : c[k]? = some (.dct ds0)) (q : RepK K I m vs ds) : Rel K I (upd H a (.dK vs)) m (c.set k (.dct ds)) ∧ Ext I m H I m (upd H a (.dK vs)) := by
  obtain ⟨n1, ws, n2, n3⟩ := r.cell k a _ hm hc
  refine ⟨⟨fun b o e => ?_, by simp [r.len], r.nd, fun j b x h1 h2 => ?_, r.tabs.upH (nt_some n2 ⟨(fun _ z => nomatch z), (fun _ z => nomatch z)⟩)⟩, Same.refl I, Pre.refl m, fun b o h1 hT h2 h3 => ⟨?_, h2, h3⟩⟩
  · rw [upd_ne (ne_of_none e n1)]
    exact r.same _ _ e
  · by_cases hj : k = j
    · subst hj
      rw [List.getElem?_set_self (List.getElem?_eq_some_iff.mp hc).1] at h2
      rw [hm] at h1
      cases h1; cases h2
      exact ⟨n1, vs, upd_same, q⟩
    · rw [List.getElem?_set_ne hj] at h2
      have nb : b ≠ a := fun e => hj (r.nd k j a hm (e ▸ h1))
      have q := r.cell j b x h1 h2
      cases x with
      | lst es =>
        obtain ⟨q1, ws, q2, q3⟩ := q
        exact ⟨q1, ws, by rw [upd_ne nb]; exact q2, q3⟩
      | dct es =>
        obtain ⟨q1, ws, q2, q3⟩ := q
        exact ⟨q1, ws, by rw [upd_ne nb]; exact q2, q3⟩
      | dT es =>
        obtain ⟨q1, ws, q2, q3⟩ := q
        exact ⟨q1, ws, by rw [upd_ne nb]; exact q2, q3⟩
      | dTz es => exact q
      | ins C es =>
        obtain ⟨q1, dx, ws, q2, q3, q4, q5, q6⟩ := q
        exact ⟨q1, dx, ws, q2, q3, by rw [upd_ne (ne_of q4 n2 (by intro z; cases z))]; exact q4, q5.imp fun _ z => ⟨z.1, by rw [upd_ne nb]; exact z.2⟩, q6⟩
      | frz d => exact q
  · rw [upd_ne (fun (e : b = a) => h3 (by rw [e]; exact List.mem_of_getElem? hm))]
    exact h1
end
end L2.Mi
namespace L2.Mi
open PySem PySem.Spec PyProof.Rows L2
/-! ### + of lists that stand in cells -/
def lstC (d : D) (c : Cs) : Option (List D) := match d with
  | .lst xs => some xs
  | .ref k => match c[k]? with
    | some (.lst xs) => some xs
    | some (.frz (.lst xs)) => some xs
    | _ => none
  | _ => none
theorem lstC_at {K : PySem.W.Frag} {I H : Hp} {m : List Addr} {c : Cs} {v : V} {d : D} {ds : List D} (R : Rel K I H m c) (p : Rep K I m v d) (h : lstC d c = some ds) : ∃ a vs, v = .ref a ∧ H a = some (.lst vs) ∧ Reps K I m vs ds := by
  cases p with
  | lst q r => cases h; exact ⟨_, _, rfl, R.same _ _ q, r⟩
  | @ref k a q =>
    have h : (match c[k]? with
      | some (.lst xs) => some xs
      | some (.frz (.lst xs)) => some xs
      | _ => none) = some ds := h
    cases e : c[k]? with
    | none => rw [e] at h; cases h
    | some x =>
      rw [e] at h
      have hc := R.cell k a x q e
      cases x with
      | lst xs => cases h; obtain ⟨_, vs, h1, h2⟩ := hc; exact ⟨a, vs, rfl, h1, h2⟩
      | frz d =>
        cases d with
        | lst xs =>
          cases h
          obtain ⟨_, hr⟩ := hc
          cases hr with
          | lst h1 h2 => exact ⟨a, _, rfl, R.same _ _ h1, h2⟩
        | _ => cases h
      | _ => cases h
  | _ => cases h
/-! ### words for the printed text -/
theorem all0 {α : Type} {P : α → Prop} : ∀ n ∈ ([] : List α), P n := fun _ h => absurd h List.not_mem_nil
theorem allc {α : Type} {P : α → Prop} {a : α} {l : List α} (h : P a) (t : ∀ n ∈ l, P n) : ∀ n ∈ a :: l, P n := fun n hn => by
  rcases List.mem_cons.mp hn with rfl | hn
  · exact h
  · exact t n hn
end L2.Mi
namespace L2.Mi
open PySem PySem.Spec PyProof.Rows L2
/-- a method's def, as it stands behind the top -/
def OwnF (K : PySem.W.Frag) (x qual : Str) (st : Stmt) (ps : List Str) (f : Addr) : Prop := ∃ fd, Fun K x qual st f fd ∧ Binds K fd ps []
end L2.Mi
namespace L2.Mi
open PySem PySem.Spec PyProof.Rows L2
end L2.Mi

/-! walking whatever stands there: a tree, a text, a cell as it stands at each turn -/
namespace L2.Mi
open PySem PySem.Spec PyProof.Rows L2
abbrev Wk := Nat → Cs → Option (Option D)
abbrev MK := Ls → Cs → R Wk
def fixW (ds : List D) : Wk := fun i _ => some ds[i]?
def cellL (k : Nat) (c : Cs) : Option (List D) := match c[k]? with
  | some (.lst ds) => some ds
  | some (.frz (.lst ds)) => some ds
  | _ => none
def cellW (k : Nat) : Wk := fun i c => match cellL k c with
  | some ds => some ds[i]?
  | none => none
def WalksW (K : PySem.W.Frag) (I : Hp) (m : List Addr) (J : It) (w : Wk) : Prop := ∀ (i : Nat) (I' H : Hp) (m' : List Addr) (c : Cs), Same I I' → Pre m m' → Rel K I' H m' c →
  (∀ d, w i c = some (some d) → J.go i H ∧ ∀ x H', J.yld i H x H' → ∃ I'', Ext I' m' H I'' m' H' ∧ Rel K I'' H' m' c ∧ Rep K I'' m' x d) ∧ (w i c = some none → J.stop i H)
theorem WalksW.ext {K : PySem.W.Frag} {I I1 H H1 : Hp} {m m1 : List Addr} {J : It} {w : Wk} (h : WalksW K I m J w) (e : Ext I m H I1 m1 H1) : WalksW K I1 m1 J w := fun i I' H m' c s p => h i I' H m' c (e.same.trans s) (e.pre.trans p)
def rW (K : PySem.W.Frag) : Hp → List Addr → It → Wk → Prop := fun I m J w => WalksW K I m J w
def rdK (K : PySem.W.Frag) (W : WX) (f : MK) : TI := rd (rW K) K W f
theorem walks_fix {K : PySem.W.Frag} {I : Hp} {m : List Addr} {J : It} {ds : List D} (h : Walks K I m J ds) : WalksW K I m J (fixW ds) := fun i I' H m' c s p R => by
  obtain ⟨h1, h2⟩ := h i I' H m' c s p R
  refine ⟨fun d e => h1 d (Option.some.inj e), fun e => h2 (List.getElem?_eq_none_iff.mp (Option.some.inj e))⟩
/-- a list of items told beforehand -/
def kFix (it : MI) : MK := fun l c => (it l c).bind fun ds c1 => .ok (fixW ds) c1
theorem mk_fix {X : Cx} {W : WX} {tg it : Expr} {fi : MI} (h : PI X tg it (rdI X.K W fi)) : PI X tg it (rdK X.K W (kFix fi)) := PIi h fun σ H Q ⟨I, m, l, c, R, L, A⟩ =>
  ⟨I, m, l, c, R, L, After.mono (After.bind (rep := rI' X.K) A) fun J H1 ⟨I1, m1, c1, ds, E1, R1, w1, A1⟩ => A1.here R1 (walks_fix w1)⟩
theorem walks_cell {K : PySem.W.Frag} {I : Hp} {m : List Addr} {k : Nat} {a : Addr} (hk : m[k]? = some a) : WalksW K I m (Itl K a) (cellW k) := fun i I' H m' c s p R => by
  have hk' := p _ _ hk
  have one : ∀ ds, cellL k c = some ds → ∃ vs, SqL K H a vs ∧ Reps K I' m' vs ds := fun ds e => by
    unfold cellL at e
    cases q : c[k]? with
    | none => rw [q] at e; cases e
    | some x =>
      rw [q] at e
      have hc := R.cell k a x hk' q
      cases x with
      | lst xs => cases e; obtain ⟨_, vs, h1, h2⟩ := hc; exact ⟨vs, SqL.of h1, h2⟩
      | frz d =>
        cases d with
        | lst xs =>
          cases e
          obtain ⟨_, hr⟩ := hc
          cases hr with
          | lst h1 h2 => exact ⟨_, SqL.of (R.same _ _ h1), h2⟩
        | _ => cases e
      | _ => cases e
  unfold cellW
  cases q : cellL k c with
  | none => exact ⟨fun d e => by simp at e, fun e => by simp at e⟩
  | some ds =>
    obtain ⟨vs, hs, hr⟩ := one ds q
    refine ⟨fun d e => ?_, fun e => ⟨vs, hs, ?_⟩⟩
    · have e : ds[i]? = some d := Option.some.inj e
      obtain ⟨v, hv, pv⟩ := hr.get e
      refine ⟨⟨vs, v, hs, hv⟩, fun x H' y => ?_⟩
      obtain ⟨e2, y⟩ := y
      subst e2
      have ev : x = v := by
        have z := y vs hs
        rw [hv] at z
        exact (Option.some.inj z).symm
      subst ev
      exact ⟨I', Ext.refl _ _ _, R, pv⟩
    · have e : ds[i]? = none := Option.some.inj e
      rw [hr.length]
      exact List.getElem?_eq_none_iff.mp e
def wAny (x : D) (c : Cs) : R Wk := match x with
  | .lst ds => .ok (fixW ds) c
  | .ro ds => .ok (fixW ds) c
  | .tup ds => .ok (fixW ds) c
  | .str s => .ok (fixW (chrs s)) c
  | .ref k => match cellL k c with
    | some _ => .ok (cellW k) c
    | none => .stuck
  | _ => .stuck
def kAny (a : ME) : MK := fun l c => (a l c).bind fun x c1 => wAny x c1
def iSeq (K : PySem.W.Frag) (tl : TE) : TI := fun σ H R => tl σ H fun x H1 => (∃ a, x = .ref a ∧ (∃ xs, SqL K H1 a xs) ∧ R (Itl K a) H1) ∨ (∃ a, x = .ref a ∧ (∃ xs, SqT K H1 a xs) ∧ R (Itt K a) H1) ∨ ∃ y, x = .str y ∧ R (Its y) H1
theorem pi_seq {X : Cx} {tg l : Expr} {tl : TE} (hl : PE X l tl) : PI X tg l (iSeq X.K tl) := by
  refine ⟨fun pins s σ H R I h => ?_⟩
  refine thn (hl.run pins s σ H _ I h) fun v s1 ⟨x, H1, I1, r1, q1⟩ => ?_
  rcases q1 with ⟨a, e, ⟨xs, hq⟩, q⟩ | ⟨a, e, ⟨xs, hq⟩, q⟩ | ⟨y, e, q⟩
  · subst e
    cases r1
    obtain ⟨its, rv, p, hz⟩ := I1.list hq
    refine wpAny_pyIter_list p.isList ?_
    refine ⟨s1.heap.objs.size, [s1.heap.objs.size], _, _, H1, rfl, I1.kept (t' := s1.toks) fun b o e => Heap.get?_push_of_some _ e, turn_list a _, ⟨_, Heap.get?_push_size _ rfl, rfl, rfl⟩, fun b hb => ?_, q⟩
    have e : b = s1.heap.objs.size := by simpa using hb
    subst e
    exact I1.fpOk (Nat.le_refl _) (I1.hok.fresh (Nat.le_refl _))
  · subst e
    cases r1
    obtain ⟨its, rv, p, hz⟩ := I1.tuple hq
    refine wpAny_pyIter_tuple (show s1.heap.IsTuple a its.toArray from p) ?_
    refine ⟨s1.heap.objs.size, [s1.heap.objs.size], _, _, H1, rfl, I1.kept (t' := s1.toks) fun b o e => Heap.get?_push_of_some _ e, turn_tuple a _, ⟨_, Heap.get?_push_size _ rfl, rfl, rfl⟩, fun b hb => ?_, q⟩
    have e : b = s1.heap.objs.size := by simpa using hb
    subst e
    exact I1.fpOk (Nat.le_refl _) (I1.hok.fresh (Nat.le_refl _))
  · subst e
    obtain ⟨t, rfl⟩ := r1
    cases ha : y.cps.all (· < 128)
    · exact wpAny_pyIter_wide ha (pi_one (tk := s1.toks) I1 _ (turn_str _ y t "str_iterator" (.inr rfl)) ⟨_, Heap.get?_push_size _ rfl, rfl, rfl⟩ q)
    · exact wpAny_pyIter_ascii ha (pi_one (tk := s1.toks) I1 _ (turn_str _ y t "str_ascii_iterator" (.inl rfl)) ⟨_, Heap.get?_push_size _ rfl, rfl, rfl⟩ q)
theorem mk_any {X : Cx} {W : WX} {tg e : Expr} {fa : ME} (h : PE X e (rdE X.K W fa)) : PI X tg e (rdK X.K W (kAny fa)) := PIi (pi_seq h) fun σ H Q ⟨I, m, l, c, R, L, A⟩ =>
  ⟨I, m, l, c, R, L, After.mono (After.bind (rep := rD X.K) A) fun v1 H1 ⟨I1, m1, c1, d1, E1, R1, p1, A1⟩ => by
    cases p1 with
    | @lst a vs ds h r => exact .inl ⟨a, rfl, ⟨vs, SqL.of (R1.same _ _ h)⟩, A1.here R1 (walks_fix (walks_list (SqL.of h) r))⟩
    | @ro a vs ds h r => exact .inl ⟨a, rfl, ⟨vs, R1.same.seq h⟩, A1.here R1 (walks_fix (walks_list h r))⟩
    | @tup a vs ds h r => exact .inr (.inl ⟨a, rfl, ⟨vs, sqT_same R1.same h⟩, A1.here R1 (walks_fix (walks_tup h r))⟩)
    | str s => exact .inr (.inr ⟨s, rfl, A1.here R1 (walks_fix walks_str)⟩)
    | @ref k a hk =>
      have A2 : After (rW X.K) X.K I1 m1 H1 (fun cls dd H' => W cls dd σ H') Q (match cellL k c1 with
        | some _ => .ok (cellW k) c1
        | none => .stuck) := A1
      cases q : cellL k c1 with
      | none => rw [q] at A2; exact A2.elim
      | some ds =>
        rw [q] at A2
        refine .inl ⟨a, rfl, ?_, A2.here R1 (walks_cell hk)⟩
        have q0 := q
        unfold cellL at q
        cases z : c1[k]? with
        | none => rw [z] at q; cases q
        | some x =>
          rw [z] at q
          have hc := R1.cell k a x hk z
          cases x with
          | lst xs => obtain ⟨_, vs, h1, h2⟩ := hc; exact ⟨vs, SqL.of h1⟩
          | frz d =>
            cases d with
            | lst xs =>
              obtain ⟨_, hr⟩ := hc
              cases hr with
              | lst h1 h2 => exact ⟨_, SqL.of (R1.same _ _ h1)⟩
            | _ => cases q
          | _ => cases q
    | _ => exact A1.elim⟩

/-! ### for -/
def forW (g : MG) (f : MS) (w : Wk) : Nat → Nat → Ls → Cs → RS
  | 0, _, _, _ => .stuck
  | n + 1, i, l, c => match w i c with
    | none => .stuck
    | some none => .go (.nx l) c
    | some (some d) => (g d l c).seq l fun l1 c1 => match f l1 c1 with
      | .go (.nx l2) c2 => forW g f w n (i + 1) l2 c2
      | .go (.ct l2) c2 => forW g f w n (i + 1) l2 c2
      | .go (.bk l2) c2 => .go (.nx l2) c2
      | r => r
def fuelW : Nat := 20000000
def sForW (it : MK) (g : MG) (f : MS) : MS := fun l c => (it l c).seq l fun w c1 => forW g f w fuelW 0 l c1
theorem ms_forW {X : Cx} {W : WX} {tg iter : Expr} {body : List Stmt} {pos : Pos} {fi : MK} {g : MG} {f : MS} (hp : PassesOwn (model X.prog X.w) X.A X.env X.xe) (hc : X.calm = true) (hi : PI X tg iter (rdK X.K W fi)) (hg : PG X tg (rdG X.K W g)) (hb : PSs X body (rdS X.K W f))
    (hs : ∀ x, foldedSetIterable iter X.env x = pure x := by intro _; rfl) : PS X (.For tg iter body [] pos) (rdS X.K W (sForW fi g f)) := PSi (ps_for hp hc hi hg hb hs) fun D σ H ⟨I, m, l, c, R, L, A⟩ => by
  refine ⟨I, m, l, c, R, L, After.mono (AfterS.seq (rep := rW X.K) L A) fun J H1 ⟨I1, m1, c1, w, E1, R1, w1, A1⟩ => ?_⟩
  refine ⟨fun i n σ H => ∃ I' m' l' c', Ext I1 m1 H1 I' m' H ∧ Rel X.K I' H m' c' ∧ Locs X.K I' m' σ l' ∧ AfterS X.K I' m' H W D (forW g f w n i l' c'), ⟨_, I1, m1, l, c1, Ext.refl _ _ _, R1, L.ext E1, A1⟩, ?_⟩
  rintro i n σ' H' ⟨I', m', l', c', E', R', L', A'⟩
  obtain ⟨wg, ws⟩ := w1 i I' H' m' c' E'.same E'.pre R'
  cases n with
  | zero => exact A'.elim
  | succ n =>
    have A' : AfterS X.K I' m' H' W D (match w i c' with
      | none => .stuck
      | some none => .go (.nx l') c'
      | some (some d) => (g d l' c').seq l' fun l1 c1 => match f l1 c1 with
        | .go (.nx l2) c2 => forW g f w n (i + 1) l2 c2
        | .go (.ct l2) c2 => forW g f w n (i + 1) l2 c2
        | .go (.bk l2) c2 => .go (.nx l2) c2
        | r => r) := A'
    cases q : w i c' with
    | none => rw [q] at A'; exact A'.elim
    | some od =>
      rw [q] at A'
      cases od with
      | none => exact .inl ⟨ws q, A' I' m' H' σ' (Ext.refl _ _ _) R' L'⟩
      | some d =>
        obtain ⟨go, yl⟩ := wg d q
        refine .inr ⟨go, fun σ2 H2 => ∃ I2 m2 l2 c2, Ext I1 m1 H1 I2 m2 H2 ∧ Rel X.K I2 H2 m2 c2 ∧ Locs X.K I2 m2 σ2 l2 ∧ AfterS X.K I2 m2 H2 W D (forW g f w n (i + 1) l2 c2),
          fun σ2 H2 ⟨I2, m2, l2, c2, e2, r2, L2, a2⟩ => ⟨n, Nat.lt_succ_self n, I2, m2, l2, c2, e2, r2, L2, a2⟩, fun x H3 y => ?_⟩
        obtain ⟨I3, E3, R3, p3⟩ := yl x H3 y
        have A3 := AfterS.ext E3 A'
        refine ⟨I3, m', l', c', d, R3, L'.ext E3, p3, After.mono (AfterS.seq (rep := rL X.K) (L'.ext E3) A3) fun σ4 H4 ⟨I4, m4, c4, l4, E4, R4, L4, A4⟩ => ?_⟩
        refine ⟨I4, m4, l4, c4, R4, L4, ?_⟩
        have EE := (E'.trans E3).trans E4
        have A5 : AfterS X.K I4 m4 H4 W D (match f l4 c4 with
          | .go (.nx l2) c2 => forW g f w n (i + 1) l2 c2
          | .go (.ct l2) c2 => forW g f w n (i + 1) l2 c2
          | .go (.bk l2) c2 => .go (.nx l2) c2
          | r => r) := A4
        cases qf : f l4 c4 with
        | stuck => rw [qf] at A5; exact A5
        | exc x l' c' => rw [qf] at A5; exact A5
        | go fl c5 =>
          rw [qf] at A5
          cases fl with
          | nx l5 => exact fun I6 m6 H6 σ6 e6 r6 L6 => ⟨I6, m6, l5, c5, EE.trans e6, r6, L6, AfterS.ext e6 A5⟩
          | ct l5 => exact fun I6 m6 H6 σ6 e6 r6 L6 => ⟨I6, m6, l5, c5, EE.trans e6, r6, L6, AfterS.ext e6 A5⟩
          | bk l5 => exact A5
          | rt d => exact A5

/-! ### comprehensions -/
def compW (g : MG) (t : MT) (e : ME) (lw : Ls) (w : Wk) : Nat → Nat → List D → Cs → R (List D)
  | 0, _, _, _ => .stuck
  | n + 1, i, acc, c => match w i c with
    | none => .stuck
    | some none => .ok acc c
    | some (some d) => (g d lw c).nox.bind fun l1 c1 => (t l1 c1).nox.bind fun k c2 => match k with
      | true => (e l1 c2).nox.bind fun x c3 => if acc.length < sizeLine then compW g t e lw w n (i + 1) (acc ++ [x]) c3 else .stuck
      | false => compW g t e lw w n (i + 1) acc c2
def mLcW (it : MK) (js : List Nat) (g : MG) (t : MT) (e : ME) : ME := fun l c => (it l c).bind fun w c1 => (compW g t e (wipeL l js) w fuelW 0 [] c1).bind fun xs c2 => .ok (.lst xs) c2
theorem lc_readW {K : PySem.W.Frag} {W : WX} {fi : MK} {g : MG} {ft : MT} {fe : ME} {js : List Nat} {g0 : TG} (good : Good g0 js) (rg : ∀ v σ H Q, rdG K W0 g v σ H Q → g0 v σ H Q) {σ : St} {H : Hp} {Q : VK} (h : rdE K W (mLcW fi js g ft fe) σ H Q) :
    tLc (rdK K W fi) g0 (rdT K W0 ft) (rdE K W0 fe) js σ H Q := by
  obtain ⟨I, m, l, c, R, L, A⟩ := h
  refine ⟨I, m, l, c, R, L, After.mono (After.bind (rep := rW K) A) fun J H1 ⟨I1, m1, c1, w, E1, R1, w1, A1⟩ => ?_⟩
  intro Dn hD
  have nI := R1.same.free hD
  have nm := R1.fresh hD
  refine ⟨fun i n H => ∃ I' m' c' acc vs, Ext I1 m1 H1 I' m' H ∧ Rel K I' H m' c' ∧ Reps K I' m' vs acc ∧ H Dn = some (.lst vs) ∧ I' Dn = none ∧ Dn ∉ m' ∧
    After (rD K) K I1 m1 H1 (fun cls dd H' => W cls dd σ H') Q ((compW g ft fe (wipeL l js) w n i acc c').bind fun xs c2 => .ok (.lst xs) c2),
    ⟨_, I1, m1, c1, [], [], ⟨Same.refl _, Pre.refl _, fun b o h1 hT h2 h3 => ⟨by rw [upd_ne (ne_of_none h1 hD)]; exact h1, h2, h3⟩⟩, R1.side (vs := []) (.inl hD) nI nm, .nil, upd_same, nI, nm, A1⟩, ?_⟩
  rintro i n H' ⟨I', m', c', acc, vs, E', R', p', hH', hI', hm', A'⟩
  obtain ⟨wg, ws⟩ := w1 i I' H' m' c' E'.same E'.pre R'
  have asc : ∀ {α β γ : Type} (r : Mi.R α) (f : α → Cs → Mi.R β) (h : β → Cs → Mi.R γ), (r.bind f).bind h = r.bind fun a c => (f a c).bind h := fun r f h => by cases r <;> rfl
  cases n with
  | zero => exact A'.elim
  | succ n =>
    have A' : After (rD K) K I1 m1 H1 (fun cls dd H' => W cls dd σ H') Q ((match w i c' with
      | none => .stuck
      | some none => .ok acc c'
      | some (some d) => (g d (wipeL l js) c').nox.bind fun l1 c1 => (ft l1 c1).nox.bind fun k c2 => match k with
        | true => (fe l1 c2).nox.bind fun x c3 => if acc.length < sizeLine then compW g ft fe (wipeL l js) w n (i + 1) (acc ++ [x]) c3 else .stuck
        | false => compW g ft fe (wipeL l js) w n (i + 1) acc c2 : Mi.R (List D)).bind fun xs c2 => .ok (.lst xs) c2) := A'
    cases q : w i c' with
    | none => rw [q] at A'; exact A'.elim
    | some od =>
      rw [q] at A'
      cases od with
      | none =>
        refine .inl ⟨ws q, ?_⟩
        have sI : Same I' (upd I' Dn (.lst vs)) := fun b o e => by rw [upd_ne (ne_of_none e hI')]; exact e
        refine A' (upd I' Dn (.lst vs)) m' H' (.ref Dn) ⟨E'.same.trans sI, E'.pre, fun b o h1 hT h2 h3 => ?_⟩ (R'.adopt hH' hI' hm') (.lst upd_same (p'.mono sI (Pre.refl _)))
        obtain ⟨q1, q2, q3⟩ := E'.fr b o h1 hT h2 h3
        exact ⟨q1, by rw [upd_ne (ne_of_none h1 hD)]; exact q2, q3⟩
      | some d =>
        obtain ⟨go, yl⟩ := wg d q
        refine .inr ⟨go, fun H2 => ∃ I2 m2 c2 acc2 vs2, Ext I1 m1 H1 I2 m2 H2 ∧ Rel K I2 H2 m2 c2 ∧ Reps K I2 m2 vs2 acc2 ∧ H2 Dn = some (.lst vs2) ∧ I2 Dn = none ∧ Dn ∉ m2 ∧
          After (rD K) K I1 m1 H1 (fun cls dd H' => W cls dd σ H') Q ((compW g ft fe (wipeL l js) w n (i + 1) acc2 c2).bind fun xs c2 => .ok (.lst xs) c2),
          fun H2 ⟨I2, m2, c2, acc2, vs2, e2, r2, pp2, h2, i2, n2, a2⟩ => ⟨n, Nat.lt_succ_self n, I2, m2, c2, acc2, vs2, e2, r2, pp2, h2, i2, n2, a2⟩, fun x H3 y => ?_⟩
        obtain ⟨I3, E3, R3, p3⟩ := yl x H3 y
        have Lw := ((locs_wipe L js).ext E1).ext (E'.trans E3)
        have A3 : After (rD K) K I1 m1 H1 (fun cls dd H' => W cls dd σ H') Q (((g d (wipeL l js) c').nox.bind fun l1 c1 => (ft l1 c1).nox.bind fun k c2 => match k with
          | true => (fe l1 c2).nox.bind fun x c3 => if acc.length < sizeLine then compW g ft fe (wipeL l js) w n (i + 1) (acc ++ [x]) c3 else .stuck
          | false => compW g ft fe (wipeL l js) w n (i + 1) acc c2).bind fun xs c2 => .ok (.lst xs) c2) := A'
        rw [asc] at A3
        refine good x σ H3 _ (rg _ _ _ _ ⟨I3, m', wipeL l js, c', d, R3, Lw, p3, After.mono (After.nox (After.bindAt (rep := rL K) A3 (E'.trans E3))) fun σ4 H4 ⟨I4, m4, c4, l4, E4, R4, L4, A4⟩ => ?_⟩)
        rw [asc] at A4
        have EE := (E'.trans E3).trans E4
        refine ⟨I4, m4, l4, c4, R4, L4, After.mono (After.nox (After.bindAt (rep := rB) A4 EE)) fun b H5 ⟨I5, m5, c5, b5, E5, R5, p5, A5⟩ => ?_⟩
        cases (show b = b5 from p5)
        have F5 := (E3.trans E4).trans E5
        cases b with
        | false =>
          obtain ⟨f1, f2, f3⟩ := F5.fr _ _ hH' ⟨⟨(fun _ z => nomatch z), (fun _ z => nomatch z)⟩, (fun _ z => nomatch z)⟩ hI' hm'
          exact iteF ⟨I5, m5, c5, acc, vs, EE.trans E5, R5, p'.ext F5, f1, f2, f3, A5⟩
        | true =>
          have A6 : After (rD K) K I1 m1 H1 (fun cls dd H' => W cls dd σ H') Q (((fe l4 c5).nox.bind fun x c3 => if acc.length < sizeLine then compW g ft fe (wipeL l js) w n (i + 1) (acc ++ [x]) c3 else .stuck).bind fun xs c2 => .ok (.lst xs) c2) := A5
          rw [asc] at A6
          have L4' : Locs K I4 m4 σ4 l4 := L4
          refine iteT ⟨I5, m5, l4, c5, R5, L4'.ext E5, After.mono (After.nox (After.bindAt (rep := rD K) A6 (EE.trans E5))) fun z H7 ⟨I7, m7, c7, d7, E7, R7, p7, A7⟩ => ?_⟩
          have F7 := F5.trans E7
          obtain ⟨f1, f2, f3⟩ := F7.fr _ _ hH' ⟨⟨(fun _ z => nomatch z), (fun _ z => nomatch z)⟩, (fun _ z => nomatch z)⟩ hI' hm'
          by_cases hz : acc.length < sizeLine
          · have A8 : After (rD K) K I1 m1 H1 (fun cls dd H' => W cls dd σ H') Q ((if acc.length < sizeLine then compW g ft fe (wipeL l js) w n (i + 1) (acc ++ [d7]) c7 else .stuck).bind fun xs c2 => .ok (.lst xs) c2) := A7
            rw [if_pos hz] at A8
            refine ⟨vs, f1, by rw [p'.length]; exact hz, I7, m7, c7, acc ++ [d7], vs ++ [z], ?_, R7.side (.inr f1) f2 f3, (p'.ext F7).append (.cons p7 .nil), upd_same, f2, f3, A8⟩
            have G := (EE.trans E5).trans E7
            refine ⟨G.same, G.pre, fun b o h1 hT h2 h3 => ?_⟩
            obtain ⟨q1, q2, q3⟩ := G.fr b o h1 hT h2 h3
            exact ⟨by rw [upd_ne (ne_of_none h1 hD)]; exact q1, q2, q3⟩
          · have A8 : After (rD K) K I1 m1 H1 (fun cls dd H' => W cls dd σ H') Q ((if acc.length < sizeLine then compW g ft fe (wipeL l js) w n (i + 1) (acc ++ [d7]) c7 else .stuck).bind fun xs c2 => .ok (.lst xs) c2) := A7
            rw [if_neg hz] at A8
            exact A8.elim
end L2.Mi

/-! operations of own classes -/
namespace L2.Mi
open PySem PySem.Spec PyProof.Rows L2
section
variable {X : Cx} {W : WX} {e o a b : Expr} {es : List Expr} {fa fb fo : ME} {ga : MA} {ns : List Str} {pos p : Pos} {k : Nat} {tbl : Tbl} {mm : Str} {g0 : D → D → Cs → R D}
/-! ### two operands -/
def rX (K : PySem.W.Frag) (W : WX) (σ : St) (g : D → D → Cs → R D) (x y : V) (H : Hp) (Q : VK) : Prop := ∃ I m c d e, Rel K I H m c ∧ Rep K I m x d ∧ Rep K I m y e ∧ After (rD K) K I m H (fun cls dd H' => W cls dd σ H') Q (g d e c)
def OpX (X : Cx) (W : WX) (f : Value → Value → Sem Value) (g : D → D → Cs → R D) : Prop := ∀ (pins : List (Addr × Obj)) (s : Shared) (σ : St) (H : Hp) (x y : V) (v u : Value) (Q : VK), Inv X pins σ H s → RelV x v → RelV y u → rX X.K W σ g x y H Q →
  wpAny (model X.prog X.w) X.A (f v u) (EP X pins σ Q) X.xe s
theorem OpX.of {f : Value → Value → Sem Value} {r : R2} (ho : OpR X f r) (hs : OpS X.K r g0) : OpX X W f g0 := fun pins s σ H x y v u Q J rx ry ⟨I, m, c, d, e, R, p, q, A⟩ => ho pins s σ H x y v u Q J rx ry (hs _ _ _ _ _ _ _ _ _ _ R p q A)
end
end L2.Mi

/-! lists and texts once more: *, join, count, and results that stand in cells -/
namespace L2.Mi
open PySem PySem.Spec PyProof.Rows L2
section
variable {K : PySem.W.Frag} {I H : Hp} {m : List Addr} {c : Cs}
theorem After.cell {W : XK} {Q : VK} {p : Addr} {vs : List V} {ds : List D} (A : After (rD K) K I m H W Q (.ok (.ref c.length) (c ++ [.lst ds]))) (R : Rel K I H m c) (np : H p = none) (r : Reps K I m vs ds) : Q (.ref p) (upd H p (.lst vs)) := by
  obtain ⟨R2, E2⟩ := R.push np r
  refine A _ _ _ _ E2 R2 (Rep.ref ?_)
  rw [← R.len, List.getElem?_append_right (Nat.le_refl _), Nat.sub_self]
  rfl
/-- a + b, the result a new cell -/
def addM (x y : D) (c : Cs) : R D := match lstC x c with
  | some a => match lstC y c with
    | some b => if a.length + b.length ≤ sizeLine then .ok (.ref c.length) (c ++ [.lst (a ++ b)]) else .stuck
    | none => .stuck
  | none => .stuck
theorem os_addM : OpS K (rAddA K) addM := fun I H m c v1 v2 d1 d2 W Q R p1 p2 A => by
  unfold addM at A
  cases q : lstC d1 c with
  | none => rw [q] at A; exact A.elim
  | some a =>
    rw [q] at A
    have A : After (rD K) K I m H W Q (match lstC d2 c with
      | some b => if a.length + b.length ≤ sizeLine then .ok (.ref c.length) (c ++ [.lst (a ++ b)]) else .stuck
      | none => .stuck) := A
    cases q2 : lstC d2 c with
    | none => rw [q2] at A; exact A.elim
    | some b =>
      rw [q2] at A
      have A : After (rD K) K I m H W Q (if a.length + b.length ≤ sizeLine then .ok (.ref c.length) (c ++ [.lst (a ++ b)]) else .stuck) := A
      by_cases z : a.length + b.length ≤ sizeLine
      · rw [if_pos z] at A
        obtain ⟨a1, vs1, rfl, h1, r1⟩ := lstC_at R p1 q
        obtain ⟨a2, vs2, rfl, h2, r2⟩ := lstC_at R p2 q2
        rw [← r1.length, ← r2.length] at z
        exact .inr (.inr (.inl ⟨_, _, _, _, rfl, rfl, h1, h2, z, fun p np => A.cell R np (r1.append r2)⟩))
      · rw [if_neg z] at A; exact A.elim
/-! ### * -/
def repL {α : Type} (xs : List α) (k : Int) : List α := (List.replicate k.toNat xs).flatten
theorem Reps.rep {vs : List V} {ds : List D} (r : Reps K I m vs ds) : ∀ n : Nat, Reps K I m (List.replicate n vs).flatten (List.replicate n ds).flatten
  | 0 => .nil
  | n + 1 => by
    rw [List.replicate_succ, List.replicate_succ, List.flatten_cons, List.flatten_cons]
    exact r.append (Reps.rep r n)
def mulLim (n : Nat) (k : Int) : Prop := n * k.toNat ≤ 100000 ∧ -1000 ≤ k ∧ k ≤ 100000
instance (n : Nat) (k : Int) : Decidable (mulLim n k) := inferInstanceAs (Decidable (n * k.toNat ≤ 100000 ∧ -1000 ≤ k ∧ k ≤ 100000))
def mulT (xs : List D) (k : Int) (c : Cs) : R D := if xs.length ≠ 0 ∧ 2 ≤ k ∧ k ≤ 1000 ∧ xs.length ≤ 1000 then .ok (.tup (repL xs k)) c else .stuck
def mulL (cell : Bool) (x : D) (k : Int) (c : Cs) : R D := match lstC x c with
  | some xs => if mulLim xs.length k then (if cell then .ok (.ref c.length) (c ++ [.lst (repL xs k)]) else .ok (.lst (repL xs k)) c) else .stuck
  | none => .stuck
def mulX (cell : Bool) (x y : D) (c : Cs) : R D := match y with
  | .int k => match x with
    | .int i => mulI (.int i) (.int k) c
    | .str s => if mulLim s.length k then .ok (.str (Txt.mul s k)) c else .stuck
    | .tup xs => mulT xs k c
    | x => mulL cell x k c
  | _ => .stuck
def rMulS : R2 := fun x y H Q => ∃ s k, x = .str s ∧ y = .int k ∧ MulOk s k ∧ Q (.str (Txt.mul s k)) H
theorem op_mulS {X : Cx} : OpR X (binaryOp .Mult) rMulS := by
  intro pins s σ H x y v u Q J rx ry h
  obtain ⟨z, k, rfl, rfl, hz, q⟩ := h
  obtain ⟨t, rfl⟩ := rx
  obtain ⟨t2, rfl⟩ := ry
  exact PySem.SB.mul hz fun t' k' => ⟨.str _, H, J.tok _, ⟨t', rfl⟩, q⟩
theorem mulOk {s : Str} {k : Int} (h : mulLim s.length k) : MulOk s k := by
  obtain ⟨h1, h2, h3⟩ := h
  refine ⟨?_, fun a b => ?_, fun a b => PyProof.Rows.short24 (by omega)⟩
  · rw [Bool.or_eq_false_iff]
    exact ⟨decide_eq_false (by omega), decide_eq_false (by omega)⟩
  · have a1 : 1 ≤ k := by omega
    have hs : s.length ≤ 100000 := by
      have : s.length * 1 ≤ s.length * k.toNat := Nat.mul_le_mul_left _ (by omega)
      omega
    have : (100000 : Int) ≤ (2 ^ 63 - 1) / k := Int.le_ediv_of_mul_le (by omega) (by omega)
    omega
def rMulX (K : PySem.W.Frag) : R2 := fun x y H Q => (rI CMul fun i j => .int (i * j)) x y H Q ∨ rMulS x y H Q ∨ rRepT K x y H Q ∨ rRep x y H Q
theorem op_mulXX {X : Cx} : OpR X (binaryOp .Mult) (rMulX X.K) := op_mul.or (op_mulS.or (op_repT.or op_rep))
theorem os_mulX {cell : Bool} : OpS K (rMulX K) (mulX cell) := fun I H m c v1 v2 d1 d2 W Q R p1 p2 A => by
  have lst : ∀ k : Int, v2 = .int k → After (rD K) K I m H W Q (mulL cell d1 k c) → rMulX K v1 v2 H Q := fun k e A => by
    subst e
    unfold mulL at A
    cases q : lstC d1 c with
    | none => rw [q] at A; exact A.elim
    | some xs =>
      rw [q] at A
      have A : After (rD K) K I m H W Q (if mulLim xs.length k then (if cell = true then .ok (.ref c.length) (c ++ [.lst (repL xs k)]) else .ok (.lst (repL xs k)) c) else .stuck) := A
      by_cases z : mulLim xs.length k
      · rw [if_pos z] at A
        obtain ⟨a1, vs1, rfl, h1, r1⟩ := lstC_at R p1 q
        have z2 := z
        rw [← r1.length] at z2
        obtain ⟨z1, z3, z4⟩ := z2
        have hz : sizeLine = 16777216 := sizeLine_eq
        refine .inr (.inr (.inr ⟨_, _, _, rfl, rfl, h1, by omega, by omega, by omega, fun p np => ?_⟩))
        cases cell with
        | true => exact After.cell (show After (rD K) K I m H W Q (.ok (.ref c.length) (c ++ [.lst (repL xs k)])) from A) R np (r1.rep _)
        | false =>
          have A : After (rD K) K I m H W Q (.ok (.lst (repL xs k)) c) := A
          exact A.new R np (.lst upd_same ((r1.rep _).mono (same_upd R.same np) (Pre.refl _)))
      · rw [if_neg z] at A; exact A.elim
  cases p2 with
  | int k =>
    cases p1 with
    | int i => exact .inl (os_mulI I H m c _ _ _ _ W Q R (.int i) (.int k) A)
    | str s =>
      have A : After (rD K) K I m H W Q (if mulLim s.length k then .ok (.str (Txt.mul s k)) c else .stuck) := A
      by_cases z : mulLim s.length k
      · rw [if_pos z] at A
        exact .inr (.inl ⟨s, k, rfl, rfl, mulOk z, A.here R (.str _)⟩)
      · rw [if_neg z] at A; exact A.elim
    | @tup a vs ds h r =>
      have A : After (rD K) K I m H W Q (if ds.length ≠ 0 ∧ 2 ≤ k ∧ k ≤ 1000 ∧ ds.length ≤ 1000 then .ok (.tup (repL ds k)) c else .stuck) := A
      by_cases z : ds.length ≠ 0 ∧ 2 ≤ k ∧ k ≤ 1000 ∧ ds.length ≤ 1000
      · rw [if_pos z] at A
        obtain ⟨z1, z2, z3, z4⟩ := z
        refine .inr (.inr (.inl ⟨a, k, vs, rfl, rfl, sqT_same R.same h, fun e => ?_, z2, z3, by rw [r.length]; exact z4, fun p np => A.new R np (.tup ?_ ((r.rep _).mono (same_upd R.same np) (Pre.refl _)) (.inl ?_))⟩))
        · have := r.length
          rw [e] at this
          exact z1 this.symm
        · exact .inl (.inl upd_same)
        · exact upd_same
      · rw [if_neg z] at A; exact A.elim
    | lst h r => exact lst k rfl A
    | ref h => exact lst k rfl A
    | _ => exact lst k rfl A
  | _ => exact A.elim
/-! ### sep.join of what stands in a cell too -/
def joinX (x y : D) (c : Cs) : R D := match y with
  | .ref k => match x with
    | .str a => match lstC (.ref k) c with
      | some ds => joinL a ds c
      | none => .stuck
    | _ => .stuck
  | y => joinD x y c
theorem m1_joinX : M1S K (fun x xs H Q => ∃ a p, ∃ ys : List Str, x = .str a ∧ xs = [.ref p] ∧ (SqL K H p (ys.map V.str) ∨ SqT K H p (ys.map V.str)) ∧ (ys.map (·.length)).sum + ys.length * a.length ≤ 16777216 ∧ Q (.str (Txt.join a ys)) H) joinX :=
  fun I H m c v1 v2 d1 d2 W Q R p1 p2 A => by
    have old : After (rD K) K I m H W Q (joinD d1 d2 c) → _ := fun A => m1_join I H m c v1 v2 d1 d2 W Q R p1 p2 A
    cases d2 with
    | ref k =>
      cases p1 with
      | str a =>
        have A : After (rD K) K I m H W Q (match lstC (.ref k) c with
          | some ds => joinL a ds c
          | none => .stuck) := A
        cases e : lstC (.ref k) c with
        | none => rw [e] at A; exact A.elim
        | some ds =>
          rw [e] at A
          obtain ⟨p, vs, rfl, h1, r⟩ := lstC_at R p2 e
          have A : After (rD K) K I m H W Q (joinL a ds c) := A
          unfold joinL at A
          cases q : strsOf ds with
          | none => rw [q] at A; exact A.elim
          | some ys =>
            rw [q] at A
            have A : After (rD K) K I m H W Q (if (ys.map (·.length)).sum + ys.length * a.length ≤ 16777216 then .ok (.str (Txt.join a ys)) c else .stuck) := A
            by_cases hz : (ys.map (·.length)).sum + ys.length * a.length ≤ 16777216
            · rw [if_pos hz] at A
              refine ⟨a, p, ys, rfl, rfl, .inl ?_, hz, A.here R (.str _)⟩
              rw [← strs_reps r q]
              exact SqL.of h1
            · rw [if_neg hz] at A; exact A.elim
      | _ => exact A.elim
    | _ => exact old A
/-! ### s.count(t) -/
def countD (x y : D) (c : Cs) : R D := match x, y with
  | .str a, .str b => .ok (.int (Txt.count a b)) c
  | _, _ => .stuck
theorem m1_count : M1S K (fun x xs H Q => ∃ a b, x = .str a ∧ xs = [.str b] ∧ Q (.int (Txt.count a b)) H) countD := fun I H m c v1 v2 d1 d2 W Q R p1 p2 A => by
  cases p1 with
  | str a => cases p2 with
    | str b => exact ⟨a, b, rfl, rfl, A.here R (.int _)⟩
    | _ => exact A.elim
  | _ => cases p2 <;> exact A.elim
/-! ### list(x), the list a cell -/
end
/-! ### a class's constant, isinstance of an own class -/
section
variable {X : Cx} {W : WX} {e o : Expr} {es : List Expr} {f n : Str} {fa fo : ME} {ga : MA} {ns : List Str} {pos p p2 : Pos}
end
end L2.Mi
namespace L2.Mi
open PySem PySem.Spec PyProof.Rows L2
end L2.Mi

/-! the classmethod of(cls, *rows): return cls(rows); one-operand operations of own classes -/
namespace L2.Mi
open PySem PySem.Spec PyProof.Rows L2
def OfRun (P : Program) (w : World) (K : PySem.W.Frag) (mg : Str → Option Value) (base : Heap) (n : Str) (C f : Addr) (g : List D → Cs → R D) (k : Nat) : Prop :=
  ∀ (A : Around) (outer : List Env) (s : Shared) (H : Hp) (us : List Value) (vs : List V) (Q : VK) (E : XK) (I : Hp) (m : List Addr) (c : Cs) (ds : List D), Room k A → A.guards = some [] → Env0 P w K mg base A outer s H → Vals vs us → Rel K I H m c → Reps K I m vs ds → ds.length ≤ sizeLine →
    After (rD K) K I m H E Q (mkR n g [.tup ds] c) → codeAny (model P w) A (.call (.ref f) ⟨.ref C :: us, []⟩) (CR (CX P w) outer P w H s Q E) s
def ofR (n : Str) (g : List D → Cs → R D) (xs : List D) (c : Cs) : R D := if xs.length ≤ sizeLine then mkR n g [.tup xs] c else .stuck
section
variable {X : Cx} {W : WX} {n : Str} {g : List D → Cs → R D} {k : Nat} {e : Expr} {es : List Expr} {ga : MA} {p0 apos pos : Pos} {pl : Sem Bool}
theorem of_call {pins : List (Addr × Obj)} {σ : St} {H : Hp} {s : Shared} {Q : VK} {q C f : Addr} {us : List Value} {vs : List V} {I : Hp} {m : List Addr} {c : Cs} {ds : List D} (O : OfRun X.prog X.w X.K X.mg X.base n C f g k) (hr : Room k X.A) (hgd : X.A.guards = some []) (tk : Takes X W)
    (J : Inv X ((q, PySem.W.methodObj (.ref f) (.ref C)) :: pins) σ H s) (r : Vals vs us) (R : Rel X.K I H m c) (p : Reps X.K I m vs ds) (a : After (rD X.K) X.K I m H (fun cls dd H' => W cls dd σ H') Q (ofR n g ds c)) : wpAny (model X.prog X.w) X.A (call (.ref q) us) (EP X pins σ Q) X.xe s := by
  unfold ofR at a
  by_cases hz : ds.length ≤ sizeLine
  · rw [if_pos hz] at a
    have z : wpAny (model X.prog X.w) X.A (call (.ref q) us) (EP X ((q, PySem.W.methodObj (.ref f) (.ref C)) :: pins) σ Q) X.xe s := by
      refine wpAny_call (PySem.W.method_call (ClX.pin_at J) (codeAny_mono (O X.A X.stack s H us vs Q (fun cls d H' => W cls d σ H') I m c ds hr hgd J.env0 r R p hz a) fun res s' hq => ?_))
      cases res with
      | error e => exact tk e s' (XE.of_call J (fun _ _ _ h => h) hq)
      | ok fl =>
        cases fl with
        | ret u => exact J.after hq
        | next => exact False.elim hq
        | brk => exact False.elim hq
        | cont => exact False.elim hq
    exact thn z fun _ _ y => ClX.unpinE y
  · rw [if_neg hz] at a; exact a.elim
end
/-! ### one operand -/
section
variable {X : Cx} {W : WX} {a b e : Expr} {fa fb : ME} {ga : MA} {pos p : Pos} {k : Nat} {tbl : Tbl}
end
end L2.Mi
namespace L2.Mi
open PySem PySem.Spec PyProof.Rows L2
/-! ### x == [], x != [] -/
def e0 (neg : Bool) (x y : D) (c : Cs) : R D := match y with
  | .lst [] => match lstC x c with
    | some xs => .ok (.bl (sgn neg xs.isEmpty)) c
    | none => .stuck
  | _ => .stuck
end L2.Mi

namespace L2.Mi
open PySem PySem.Spec PyProof.Rows L2

/-! ### what a computation comes to -/
def Ok {α : Type} (r : R α) (Q : α → Cs → Prop) : Prop := ∃ a c, r = .ok a c ∧ Q a c
theorem Ok.bind {α β : Type} {r : R α} {f : α → Cs → R β} {Q : β → Cs → Prop} (h : Ok r fun a c => Ok (f a c) Q) : Ok (r.bind f) Q := by
  obtain ⟨a, c, rfl, h⟩ := h
  exact h
theorem Ok.mono {α : Type} {r : R α} {Q Q' : α → Cs → Prop} (h : Ok r Q) (w : ∀ a c, Q a c → Q' a c) : Ok r Q' := by
  obtain ⟨a, c, e, h⟩ := h
  exact ⟨a, c, e, w a c h⟩
theorem Ok.of {α : Type} {r : R α} {Q : α → Cs → Prop} {a : α} {c : Cs} (e : r = .ok a c) (h : Q a c) : Ok r Q := ⟨a, c, e, h⟩
def OkS (r : RS) (Q : Fl → Cs → Prop) : Prop := ∃ f c, r = .go f c ∧ Q f c
theorem OkS.seq {α : Type} {r : R α} {l : Ls} {f : α → Cs → RS} {Q : Fl → Cs → Prop} (h : Ok r fun a c => OkS (f a c) Q) : OkS (r.seq l f) Q := by
  obtain ⟨a, c, rfl, h⟩ := h
  exact h
theorem OkS.mono {r : RS} {Q Q' : Fl → Cs → Prop} (h : OkS r Q) (w : ∀ a c, Q a c → Q' a c) : OkS r Q' := by
  obtain ⟨a, c, e, h⟩ := h
  exact ⟨a, c, e, w a c h⟩
theorem OkS.next {r : RS} {g : Ls → Cs → RS} {Q : Fl → Cs → Prop} (h : OkS r fun f c => match f with
  | .nx l => OkS (g l c) Q
  | f => Q f c) : OkS (r.next g) Q := by
  obtain ⟨f, c, rfl, h⟩ := h
  cases f with
  | nx l => exact h
  | rt d => exact ⟨_, _, rfl, h⟩
  | bk l => exact ⟨_, _, rfl, h⟩
  | ct l => exact ⟨_, _, rfl, h⟩
/-- a loop, by what holds between its turns -/
theorem OkS.for {g : MG} {f : MS} {Q : Fl → Cs → Prop} (P : List D → Ls → Cs → Prop) (hd : ∀ l c, P [] l c → Q (.nx l) c)
    (ht : ∀ d ds l c, P (d :: ds) l c → Ok (g d l c) fun l1 c1 => OkS (f l1 c1) fun fl c2 => match fl with
      | .nx l2 => P ds l2 c2
      | .ct l2 => P ds l2 c2
      | .bk l2 => Q (.nx l2) c2
      | .rt d => Q (.rt d) c2) : ∀ ds l c, P ds l c → OkS (forD g f ds l c) Q
  | [], l, c, h => ⟨_, _, rfl, hd l c h⟩
  | d :: ds, l, c, h => by
    obtain ⟨l1, c1, e1, fl, c2, e2, q⟩ := ht d ds l c h
    unfold forD
    rw [e1]
    simp only [R.seq_ok]
    rw [e2]
    cases fl with
    | nx l2 => exact OkS.for P hd ht ds l2 c2 q
    | ct l2 => exact OkS.for P hd ht ds l2 c2 q
    | bk l2 => exact ⟨_, _, rfl, q⟩
    | rt d => exact ⟨_, _, rfl, q⟩
theorem Ok.fun {n a : Nat} {b : MS} {ds : List D} {c : Cs} {Q : D → Cs → Prop} (hl : ds.length = a) (h : OkS (b (ds.map some ++ List.replicate (n - a) none) c) fun f c => match f with
  | .rt d => Q d c
  | .nx _ => Q .non c
  | _ => False) : Ok (mFun n a b ds c) Q := by
  obtain ⟨f, c', e, h⟩ := h
  unfold mFun
  rw [if_pos hl, e]
  cases f with
  | nx l => exact ⟨_, _, rfl, h⟩
  | rt d => exact ⟨_, _, rfl, h⟩
  | bk l => exact h.elim
  | ct l => exact h.elim

/-! ### rules, by combinator -/
section
variable {l : Ls} {c : Cs} {Q : D → Cs → Prop} {a b e : ME} {t : MA} {QS : Fl → Cs → Prop}
theorem ok_ret {α : Type} {d : α} {Q : α → Cs → Prop} (h : Q d c) : Ok (.ok d c) Q := ⟨_, _, rfl, h⟩
theorem ok_var {i : Nat} {d : D} (e : l[i]? = some (some d)) (h : Q d c) : Ok (mVar i l c) Q := ⟨d, c, by unfold mVar; rw [e], h⟩
theorem ok_c {d : D} (h : Q d c) : Ok (mC d l c) Q := ⟨d, c, rfl, h⟩
theorem ok_op {g : D → D → Cs → R D} (h : Ok (a l c) fun x c1 => Ok (b l c1) fun y c2 => Ok (g x y c2) Q) : Ok (mOp g a b l c) Q := Ok.bind (h.mono fun _ _ h => Ok.bind h)
theorem ok_un {g : D → Cs → R D} (h : Ok (a l c) fun x c1 => Ok (g x c1) Q) : Ok (mUn g a l c) Q := Ok.bind h
theorem ok_cb {g : List D → Cs → R D} (h : Ok (t l c) fun xs c1 => Ok (g xs c1) Q) : Ok (mCB g t l c) Q := Ok.bind h
theorem ok_anil {Q : List D → Cs → Prop} (h : Q [] c) : Ok (aNil l c) Q := ⟨_, _, rfl, h⟩
theorem ok_acons {Q : List D → Cs → Prop} (h : Ok (a l c) fun x c1 => Ok (t l c1) fun xs c2 => Q (x :: xs) c2) : Ok (aCons a t l c) Q := Ok.bind (h.mono fun _ _ h => Ok.bind (h.mono fun _ _ h => ⟨_, _, rfl, h⟩))
theorem ok_fits {α : Type} {n : Nat} {r : R α} {Q : α → Cs → Prop} (hn : n ≤ sizeLine) (h : Ok r Q) : Ok (fits n r) Q := by
  unfold fits
  rw [if_pos hn]
  exact h
theorem ok_lst (h : Ok (t l c) fun xs c1 => xs.length ≤ sizeLine ∧ Q (.lst xs) c1) : Ok (mLst t l c) Q := Ok.bind (h.mono fun _ _ h => ok_fits h.1 ⟨_, _, rfl, h.2⟩)
theorem ok_tup (h : Ok (t l c) fun xs c1 => xs.length ≤ sizeLine ∧ Q (.tup xs) c1) : Ok (mTup t l c) Q := Ok.bind (h.mono fun _ _ h => ok_fits h.1 ⟨_, _, rfl, h.2⟩)
theorem ok_lstM (h : Ok (t l c) fun xs c1 => xs.length ≤ sizeLine ∧ Q (.ref c1.length) (c1 ++ [.lst xs])) : Ok (mLstM t l c) Q := Ok.bind (h.mono fun _ _ h => ok_fits h.1 ⟨_, _, rfl, h.2⟩)
theorem ok_dict1 {k : Key} (h : Ok (a l c) fun d c1 => Q (.dct [(k, d)]) c1) : Ok (mDict1 k a l c) Q := Ok.bind (h.mono fun _ _ h => ⟨_, _, rfl, h⟩)
theorem ok_and (h : Ok (a l c) fun x c1 => ∃ k, x = .bl k ∧ (k = true → Ok (b l c1) Q) ∧ (k = false → Q (.bl false) c1)) : Ok (mAnd a b l c) Q := Ok.bind (h.mono fun x c1 ⟨k, e, h1, h2⟩ => by
  subst e
  cases k with
  | true => exact h1 rfl
  | false => exact ⟨_, _, rfl, h2 rfl⟩)
theorem ok_or (h : Ok (a l c) fun x c1 => ∃ k, x = .bl k ∧ (k = true → Q (.bl true) c1) ∧ (k = false → Ok (b l c1) Q)) : Ok (mOr a b l c) Q := Ok.bind (h.mono fun x c1 ⟨k, e, h1, h2⟩ => by
  subst e
  cases k with
  | true => exact ⟨_, _, rfl, h1 rfl⟩
  | false => exact h2 rfl)
theorem ok_not (h : Ok (a l c) fun x c1 => ∃ k, x = .bl k ∧ Q (.bl (!k)) c1) : Ok (mNot a l c) Q := Ok.bind (h.mono fun x c1 ⟨k, e, h⟩ => by subst e; exact ⟨_, _, rfl, h⟩)
theorem ok_chain {f g : D → D → Cs → R D} {d : ME} (h : Ok (a l c) fun x c1 => Ok (b l c1) fun y c2 => Ok (f x y c2) fun z c3 => ∃ k, z = .bl k ∧ (k = true → Ok (d l c3) fun w c4 => Ok (g y w c4) Q) ∧ (k = false → Q (.bl false) c3)) : Ok (mChain f g a b d l c) Q :=
  Ok.bind (h.mono fun x c1 h => Ok.bind (h.mono fun y c2 h => Ok.bind (h.mono fun z c3 ⟨k, e, h1, h2⟩ => by
    subst e
    cases k with
    | true => exact Ok.bind (h1 rfl)
    | false => exact ⟨_, _, rfl, h2 rfl⟩)))
theorem ok_t {Q : Bool → Cs → Prop} (h : Ok (a l c) fun x c1 => ∃ k, x = .bl k ∧ Q k c1) : Ok (mT a l c) Q := Ok.bind (h.mono fun x c1 ⟨k, e, h⟩ => by subst e; exact ⟨_, _, rfl, h⟩)
theorem ok_tnot {p : MT} {Q : Bool → Cs → Prop} (h : Ok (p l c) fun k c1 => Q (!k) c1) : Ok (tNotM p l c) Q := Ok.bind (h.mono fun _ _ h => ⟨_, _, rfl, h⟩)
theorem ok_tand {p q : MT} {Q : Bool → Cs → Prop} (h : Ok (p l c) fun k c1 => (k = true → Ok (q l c1) Q) ∧ (k = false → Q false c1)) : Ok (tAndM p q l c) Q := Ok.bind (h.mono fun k c1 ⟨h1, h2⟩ => by
  cases k with
  | true => exact h1 rfl
  | false => exact ⟨_, _, rfl, h2 rfl⟩)
theorem ok_tor {p q : MT} {Q : Bool → Cs → Prop} (h : Ok (p l c) fun k c1 => (k = true → Q true c1) ∧ (k = false → Ok (q l c1) Q)) : Ok (tOrM p q l c) Q := Ok.bind (h.mono fun k c1 ⟨h1, h2⟩ => by
  cases k with
  | true => exact ⟨_, _, rfl, h1 rfl⟩
  | false => exact h2 rfl)
theorem ok_if {p : MT} (h : Ok (p l c) fun k c1 => (k = true → Ok (a l c1) Q) ∧ (k = false → Ok (b l c1) Q)) : Ok (mIf p a b l c) Q := Ok.bind (h.mono fun k c1 ⟨h1, h2⟩ => by
  cases k with
  | true => exact h1 rfl
  | false => exact h2 rfl)
theorem ok_onone {Q : Option Int → Cs → Prop} (h : Q none c) : Ok (oNone l c) Q := ⟨_, _, rfl, h⟩
theorem ok_osome {Q : Option Int → Cs → Prop} (h : Ok (a l c) fun x c1 => ∃ i, x = .int i ∧ Q (some i) c1) : Ok (oSome a l c) Q := Ok.bind (h.mono fun x c1 ⟨k, e, h⟩ => by subst e; exact ⟨_, _, rfl, h⟩)
theorem ok_slice {p q : MO} (h : Ok (a l c) fun x c1 => Ok (p l c1) fun i c2 => Ok (q l c2) fun j c3 => Ok (sliceD x i j c3) Q) : Ok (mSlice a p q l c) Q := Ok.bind (h.mono fun _ _ h => Ok.bind (h.mono fun _ _ h => Ok.bind h))
theorem ok_m1 {g : D → D → Cs → R D} (h : Ok (a l c) fun x c1 => ∃ s, x = .str s ∧ Ok (b l c1) fun y c2 => Ok (g (.str s) y c2) Q) : Ok (mM1 g a b l c) Q := Ok.bind (h.mono fun x c1 ⟨s, e, h⟩ => by subst e; exact Ok.bind h)
theorem ok_frz (h : Ok (a l c) fun x c1 => ∃ k ds, x = .ref k ∧ c1[k]? = some (.lst ds) ∧ Q (.lst ds) (c1.set k (.frz (.lst ds)))) : Ok (mFrz a l c) Q := Ok.bind (h.mono fun x c1 ⟨k, ds, e, e2, h⟩ => by
  subst e
  refine ⟨_, _, ?_, h⟩
  simp only [frzD, e2])
theorem ok_ilst {Q : List D → Cs → Prop} (h : Ok (a l c) fun x c1 => (∃ ds, x = .lst ds ∧ Q ds c1) ∨ ∃ ds, x = .ro ds ∧ Q ds c1) : Ok (iLst a l c) Q := Ok.bind (h.mono fun x c1 h => by
  rcases h with ⟨ds, e, h⟩ | ⟨ds, e, h⟩ <;> (subst e; exact ⟨_, _, rfl, h⟩))
theorem ok_itup {Q : List D → Cs → Prop} (h : Ok (a l c) fun x c1 => ∃ ds, x = .tup ds ∧ Q ds c1) : Ok (iTup' a l c) Q := Ok.bind (h.mono fun x c1 ⟨s, e, h⟩ => by subst e; exact ⟨_, _, rfl, h⟩)
theorem ok_istr {Q : List D → Cs → Prop} (h : Ok (a l c) fun x c1 => ∃ s, x = .str s ∧ Q (chrs s) c1) : Ok (iStr' a l c) Q := Ok.bind (h.mono fun x c1 ⟨s, e, h⟩ => by subst e; exact ⟨_, _, rfl, h⟩)
theorem ok_r1 {Q : List D → Cs → Prop} (h : Ok (t l c) fun xs c1 => ∃ j, xs = [.int j] ∧ small62 j ∧ Q (rangeL 0 j.toNat) c1) : Ok (iR1 t l c) Q := Ok.bind (h.mono fun x c1 ⟨j, e, hj, h⟩ => by subst e; exact ⟨_, _, if_pos hj, h⟩)
theorem ok_r2 {Q : List D → Cs → Prop} (h : Ok (t l c) fun xs c1 => ∃ i j, xs = [.int i, .int j] ∧ small62 i ∧ small62 j ∧ Q (rangeL i (j - i).toNat) c1) : Ok (iR2 t l c) Q := Ok.bind (h.mono fun x c1 ⟨i, j, e, hi, hj, h⟩ => by subst e; exact ⟨_, _, if_pos ⟨hi, hj⟩, h⟩)
theorem ok_intC {C : Int → Int → Prop} [∀ i j, Decidable (C i j)] {g : Int → Int → Int} {i j : Int} (hc : C i j) (h : Q (.int (g i j)) c) : Ok (intC C g (.int i) (.int j) c) Q := ⟨_, _, if_pos hc, h⟩
/-- statements -/
theorem os_nil (h : QS (.nx l) c) : OkS (sNil l c) QS := ⟨_, _, rfl, h⟩
theorem os_brk (h : QS (.bk l) c) : OkS (sBreak l c) QS := ⟨_, _, rfl, h⟩
theorem os_cnt (h : QS (.ct l) c) : OkS (sCont l c) QS := ⟨_, _, rfl, h⟩
theorem os_seq {f g : MS} (h : OkS (f l c) fun fl c1 => match fl with
  | .nx l1 => OkS (g l1 c1) QS
  | fl => QS fl c1) : OkS (sSeq f g l c) QS := OkS.next h
theorem os_expr (h : Ok (a l c) fun _ c1 => QS (.nx l) c1) : OkS (sExpr a l c) QS := OkS.seq (h.mono fun _ _ h => ⟨_, _, rfl, h⟩)
theorem os_ret (h : Ok (a l c) fun d c1 => QS (.rt d) c1) : OkS (sRet a l c) QS := OkS.seq (h.mono fun _ _ h => ⟨_, _, rfl, h⟩)
theorem os_retn (h : QS (.rt .non) c) : OkS (sRetN l c) QS := ⟨_, _, rfl, h⟩
theorem os_if {p : MT} {f g : MS} (h : Ok (p l c) fun k c1 => (k = true → OkS (f l c1) QS) ∧ (k = false → OkS (g l c1) QS)) : OkS (sIf p f g l c) QS := OkS.seq (h.mono fun k c1 ⟨h1, h2⟩ => by
  cases k with
  | true => exact h1 rfl
  | false => exact h2 rfl)
theorem os_set {i : Nat} (h : Ok (a l c) fun d c1 => QS (.nx (l.set i (some d))) c1) : OkS (sSet i a l c) QS := OkS.seq (h.mono fun _ _ h => ⟨_, _, rfl, h⟩)
theorem os_asg {g : MG} (h : Ok (a l c) fun d c1 => Ok (g d l c1) fun l2 c2 => QS (.nx l2) c2) : OkS (sAsg a g l c) QS := OkS.seq (h.mono fun _ _ h => OkS.seq (h.mono fun _ _ h => ⟨_, _, rfl, h⟩))
theorem os_par {js : List Nat} (h : Ok (t l c) fun ds c1 => Ok (gNs js ds l c1) fun l2 c2 => QS (.nx l2) c2) : OkS (sPar js t l c) QS := OkS.seq (h.mono fun _ _ h => OkS.seq (h.mono fun _ _ h => ⟨_, _, rfl, h⟩))
theorem os_for {it : MI} {g : MG} {f : MS} (h : Ok (it l c) fun ds c1 => OkS (forD g f ds l c1) QS) : OkS (sFor it g f l c) QS := OkS.seq h
theorem ok_gn {i : Nat} {d : D} {Q : Ls → Cs → Prop} (h : Q (l.set i (some d)) c) : Ok (gN i d l c) Q := ⟨_, _, rfl, h⟩
/-- a comprehension, by its loop -/
theorem ok_lc {it : MI} {js : List Nat} {g : MG} {p : MT} (h : Ok (it l c) fun ds c1 => Ok (compD g p e (wipeL l js) ds [] c1) fun xs c2 => Q (.lst xs) c2) : Ok (mLc it js g p e l c) Q := Ok.bind (h.mono fun _ _ h => Ok.bind (h.mono fun _ _ h => ⟨_, _, rfl, h⟩))
/-- .. by what holds between its turns -/
theorem comp_ok {g : MG} {p : MT} {lw : Ls} {Q : List D → Cs → Prop} (I : List D → List D → Cs → Prop) (hd : ∀ acc c, I [] acc c → Q acc c)
    (ht : ∀ d ds acc c, I (d :: ds) acc c → Ok (g d lw c) fun l1 c1 => Ok (p l1 c1) fun k c2 => match k with
      | true => Ok (e l1 c2) fun x c3 => acc.length < sizeLine ∧ I ds (acc ++ [x]) c3
      | false => I ds acc c2) : ∀ ds acc c, I ds acc c → Ok (compD g p e lw ds acc c) Q
  | [], acc, c, h => ⟨_, _, rfl, hd acc c h⟩
  | d :: ds, acc, c, h => by
    obtain ⟨l1, c1, e1, k, c2, e2, q⟩ := ht d ds acc c h
    unfold compD
    rw [e1]
    simp only [R.nox_ok, R.bind_ok]
    rw [e2]
    simp only [R.nox_ok, R.bind_ok]
    cases k with
    | true =>
      obtain ⟨x, c3, e3, hz, q⟩ := q
      simp only []
      rw [e3]
      simp only [R.nox_ok, R.bind_ok]
      rw [if_pos hz]
      exact comp_ok I hd ht ds _ _ q
    | false => exact comp_ok I hd ht ds _ _ q
end

/-! ### the box that a law draws from -/
def Bx (c : Cs) (k : Nat) (n : Int) : Prop := ∃ a b z : Int, c[k]? = some (.lst [.int a, .int b, .int z]) ∧ 0 ≤ a ∧ 0 ≤ b ∧ b < 2147483629 ∧ 0 ≤ z ∧ z ≤ n

theorem ok_il {l : Ls} {c : Cs} {a : ME} {Q : List D → Cs → Prop} (h : Ok (a l c) fun x c1 => ∃ ds, x = .lst ds ∧ Q ds c1) : Ok (iLst a l c) Q := ok_ilst (h.mono fun _ _ h => Or.inl h)
theorem os_fcons {g : MG} {f : MS} {d : D} {ds : List D} {l : Ls} {c : Cs} {Q : Fl → Cs → Prop} (h : Ok (g d l c) fun l1 c1 => OkS (f l1 c1) fun fl c2 => match fl with
    | .nx l2 => OkS (forD g f ds l2 c2) Q
    | .ct l2 => OkS (forD g f ds l2 c2) Q
    | .bk l2 => Q (.nx l2) c2
    | .rt d => Q (.rt d) c2) : OkS (forD g f (d :: ds) l c) Q := by
  obtain ⟨l1, c1, e1, fl, c2, e2, q⟩ := h
  unfold forD
  rw [e1]
  simp only [R.seq_ok]
  rw [e2]
  cases fl with
  | nx l2 => exact q
  | ct l2 => exact q
  | bk l2 => exact ⟨_, _, rfl, q⟩
  | rt d => exact ⟨_, _, rfl, q⟩
theorem os_fnil {g : MG} {f : MS} {l : Ls} {c : Cs} {Q : Fl → Cs → Prop} (h : Q (.nx l) c) : OkS (forD g f [] l c) Q := ⟨_, _, rfl, h⟩
theorem rangeL_mem {lo : Int} {n : Nat} {d : D} (h : d ∈ rangeL lo n) : ∃ i : Nat, i < n ∧ d = .int (lo + i) := by
  obtain ⟨i, h1, rfl⟩ := List.mem_map.mp h
  exact ⟨i, List.mem_range.mp h1, rfl⟩
theorem rangeL_len {lo : Int} {n : Nat} : (rangeL lo n).length = n := by simp [rangeL]
/-! ### texts: their lengths, their signs -/
def SB (n : Nat) (s : Str) : Prop := s.length ≤ n ∧ ∀ k ∈ s.cps.toList, k < 1114112
theorem SB.mono {n m : Nat} {s : Str} (h : SB n s) (hm : n ≤ m) : SB m s := ⟨Nat.le_trans h.1 hm, h.2⟩
theorem SB.app {n m : Nat} {s t : Str} (h : SB n s) (g : SB m t) : SB (n + m) (s ++ t) := by
  refine ⟨?_, fun k hk => ?_⟩
  · rw [Str.length_append]
    exact Nat.add_le_add h.1 g.1
  · have e : (s ++ t).cps.toList = s.cps.toList ++ t.cps.toList := Array.toList_append
    rw [e] at hk
    rcases List.mem_append.mp hk with q | q
    · exact h.2 k q
    · exact g.2 k q
theorem SB.one {k : Nat} (h : k < 1114112) : SB 1 ⟨#[k]⟩ := ⟨Nat.le_refl _, fun x hx => by simp at hx; omega⟩
theorem ok_add_lst {s t : List D} {c : Cs} {Q : D → Cs → Prop} (h : s.length + t.length ≤ sizeLine) (q : Q (.lst (s ++ t)) c) : Ok (addD (.lst s) (.lst t) c) Q := ⟨_, _, if_pos h, q⟩
theorem ok_item_lst {xs : List D} {i : Int} {c : Cs} {Q : D → Cs → Prop} (h0 : 0 ≤ i) (h : i < xs.length) (q : ∀ d, xs[i.toNat]? = some d → Q d c) : Ok (itemD (.lst xs) (.int i) c) Q := by
  have hl : i.toNat < xs.length := by omega
  refine ⟨xs[i.toNat], c, ?_, q _ (List.getElem?_eq_getElem hl)⟩
  simp [itemD, itL, atI, ixN, h0, h, List.getElem?_eq_getElem hl]
theorem ok_item_mem {xs : List D} {i : Int} {c : Cs} {Q : D → Cs → Prop} (h0 : 0 ≤ i) (h : i < xs.length) (q : ∀ d ∈ xs, Q d c) : Ok (itemD (.lst xs) (.int i) c) Q := ok_item_lst h0 h fun d hd => q d (List.mem_of_getElem? hd)
theorem ok_len_str {s : Str} {c : Cs} {Q : D → Cs → Prop} (h : s.length ≤ sizeLine) (q : Q (.int s.length) c) : Ok (lenD [.str s] c) Q := ⟨_, _, by simp [lenD, lenC, h], q⟩
theorem strs_ones : ∀ ks : List Nat, strsOf (ks.map fun k => .str ⟨#[k]⟩) = some (ks.map fun k => ⟨#[k]⟩)
  | [] => rfl
  | k :: ks => by simp [strsOf, strs_ones ks]
theorem join_ones' (ks : List Nat) : Txt.join ("" : Str) (ks.map fun k => (⟨#[k]⟩ : Str)) = ⟨ks.toArray⟩ := by
  show Builtin.Str.glued _ _ = _
  rw [StrLaws.glued_eq_join]
  exact join_ones ks
section
variable {l : Ls} {c : Cs} {Q : D → Cs → Prop} {a b e : ME} {t tk : MA} {QS : Fl → Cs → Prop}
theorem ok_bm {g : D → List D → Cs → R D} (h : Ok (a l c) fun x c1 => isL x c1 = true ∧ Ok (t l c1) fun xs c2 => Ok (g x xs c2) Q) : Ok (mBM g a t l c) Q := Ok.bind (h.mono fun x c1 ⟨h1, h2⟩ => by
  rw [if_pos h1]
  exact Ok.bind h2)
theorem ok_gs {o i : ME} {d : D} {Q : Ls → Cs → Prop} (h : Ok (o l c) fun x c1 => Ok (i l c1) fun y c2 => Ok (putD x y d c2) fun _ c3 => Q l c3) : Ok (gS o i d l c) Q := Ok.bind (h.mono fun _ _ h => Ok.bind (h.mono fun _ _ h => Ok.bind (h.mono fun _ _ h => ⟨_, _, rfl, h⟩)))
theorem ok_cbd {g : List D → Cs → R D} {n : Nat} {df : List D} (h : Ok (t l c) fun xs c1 => xs.length = n ∧ Ok (g (xs ++ df) c1) Q) : Ok (mCBd g n df t l c) Q := Ok.bind (h.mono fun x c1 ⟨h1, h2⟩ => by
  rw [if_pos h1]
  exact h2)
theorem ok_cbk {g : List D → Cs → R D} {gd : List D → List D → List D} {n j : Nat} (h : Ok (t l c) fun xs c1 => Ok (tk l c1) fun ys c2 => (xs.length = n ∧ ys.length = j) ∧ Ok (g (gd xs ys) c2) Q) : Ok (mCBk g gd n j t tk l c) Q :=
  Ok.bind (h.mono fun x c1 h => Ok.bind (h.mono fun y c2 ⟨h1, h2⟩ => by
    rw [if_pos h1]
    exact h2))
theorem os_ifNm {i : Nat} {h : D → D → Cs → R D} {f g : MS} (q : Ok (a l c) fun x c1 => Ok (b (l.set i (some x)) c1) fun y c2 => Ok (h x y c2) fun z c3 => ∃ k, z = .bl k ∧ (k = true → OkS (f (l.set i (some x)) c3) QS) ∧ (k = false → OkS (g (l.set i (some x)) c3) QS)) :
    OkS (sIfNm i h a b f g l c) QS := OkS.seq (q.mono fun x c1 q => OkS.seq (q.mono fun y c2 q => OkS.seq (q.mono fun z c3 ⟨k, e, h1, h2⟩ => by
  subst e
  cases k with
  | true => exact h1 rfl
  | false => exact h2 rfl)))
theorem isL_ref {k : Nat} {xs : List D} (h : c[k]? = some (.lst xs)) : isL (.ref k) c = true := by
  have e : lstOf (.ref k) c = (match c[k]? with
    | some (.lst xs) => some xs
    | _ => none) := rfl
  unfold isL
  rw [e, h]
  rfl
theorem ok_append {k : Nat} {xs : List D} {y : D} (h : c[k]? = some (.lst xs)) (hz : xs.length < sizeLine) (q : Q .non (c.set k (.lst (xs ++ [y])))) : Ok (appendD (.ref k) [y] c) Q := by
  have e : appendD (.ref k) [y] c = (match c[k]? with
    | some (.lst xs) => if xs.length < sizeLine then .ok .non (c.set k (.lst (xs ++ [y]))) else .stuck
    | _ => .stuck) := rfl
  refine ⟨_, _, ?_, q⟩
  rw [e, h]
  exact if_pos hz
end
end L2.Mi

namespace L2.Mi
open PySem PySem.Spec PyProof.Rows L2
/-! ### how long a shown value is -/
mutual
def wP : PyData → Nat
  | .none => 4
  | .bool _ => 5
  | .int _ => 45
  | .str s => 10 * s.length + 2
  | .list xs => wPs xs + 2
  | .tuple xs => wPs xs + 3
  | .dict kvs => wPk kvs + 2
def wPs : List PyData → Nat
  | [] => 0
  | x :: xs => wP x + 2 + wPs xs
def wPk : List (PyData × PyData) → Nat
  | [] => 0
  | (k, v) :: r => wP k + wP v + 4 + wPk r
end
mutual
def bP : PyData → Bool
  | .none => true
  | .bool _ => true
  | .int i => decide (i.natAbs < 10 ^ 40)
  | .str s => s.cps.toList.all fun k => decide (k < 1114112)
  | .list xs => bPs xs
  | .tuple xs => bPs xs
  | .dict kvs => bPk kvs
def bPs : List PyData → Bool
  | [] => true
  | x :: xs => bP x && bPs xs
def bPk : List (PyData × PyData) → Bool
  | [] => true
  | (k, v) :: r => bP k && bP v && bPk r
end
theorem join_le : ∀ ts : List Str, (Str.join ", " ts).length ≤ piled ts
  | [] => Nat.zero_le _
  | t :: ts => by have := join_length_add (t :: ts) (by simp); omega
theorem textFrom_pile : ∀ (ts : List Str) (k : Nat) (acc : Str), (textFrom k acc ts).length ≤ acc.length + piled ts
  | [], k, acc => by simp [textFrom]
  | t :: ts, k, acc => by
    have ih := textFrom_pile ts (k + 1) (acc ++ (if k > 0 then ", " else "" : String) ++ t)
    have e : (acc ++ (if k > 0 then ", " else "" : String) ++ t).length = acc.length + (if k > 0 then 2 else 0) + t.length := by
      rw [strLen_append, strLen_append]
      split <;> rfl
    rw [e] at ih
    have e3 : textFrom k acc (t :: ts) = textFrom (k + 1) (acc ++ (if k > 0 then ", " else "" : String) ++ t) ts := rfl
    rw [e3, piled_cons]
    have e4 : (if k > 0 then 2 else 0) ≤ 2 := by split <;> omega
    omega
mutual
theorem shown_w : ∀ p : PyData, bP p = true → p.showable = true ∧ p.shown.length ≤ wP p
  | .none, _ => ⟨rfl, by decide +kernel⟩
  | .bool b, _ => ⟨rfl, by cases b <;> decide +kernel⟩
  | .int i, h => by
    have h : i.natAbs < 10 ^ 40 := of_decide_eq_true h
    have h3 : (10 : Nat) ^ 40 < 2 ^ 1920 := by decide +kernel
    refine ⟨?_, ?_⟩
    · show decide (i.natAbs.log2 < 1920) = true
      by_cases h0 : i.natAbs = 0
      · rw [h0]; decide
      · exact decide_eq_true ((Nat.log2_lt h0).mpr (by omega))
    · have hl := int_text_length_le10 (k := 40) (by decide) h
      show (Str.ofString (toString i)).length ≤ 45
      have e : (Str.ofString (toString i)).cps.toList = (toString i).toList.map Char.toNat := by first | exact signs_ofString _ | exact PyProof.Rows.signs_ofString _ | exact PySem.signs_ofString _ | exact PySem.W.signs_ofString _
      have e2 : (Str.ofString (toString i)).length = (Str.ofString (toString i)).cps.toList.length := Array.length_toList.symm
      rw [e2, e, List.length_map, String.length_toList]
      omega
  | .str s, h => by
    refine ⟨rfl, ?_⟩
    have r := StrLaws.reprText_len s fun k hk => by
      have := of_decide_eq_true (List.all_eq_true.mp h k (by simpa using hk))
      omega
    show (reprText s).length ≤ 10 * s.length + 2
    omega
  | .list xs, h => by
    obtain ⟨h1, h2⟩ := shown_ws xs h
    refine ⟨h1, ?_⟩
    show (listText (PyData.shownAll xs)).length ≤ wPs xs + 2
    unfold listText
    rw [strLen_append]
    have q := textFrom_pile (PyData.shownAll xs) 0 "["
    have a : ("[" : Str).length = 1 := rfl
    have b : ("]" : Str).length = 1 := rfl
    omega
  | .tuple xs, h => by
    obtain ⟨h1, h2⟩ := shown_ws xs h
    refine ⟨h1, ?_⟩
    show (tupleText (PyData.shownAll xs)).length ≤ wPs xs + 3
    unfold tupleText
    rw [strLen_append, strLen_append]
    have q := join_le (PyData.shownAll xs)
    have a : ("(" : Str).length = 1 := rfl
    have b : (if (PyData.shownAll xs).length == 1 then ",)" else ")" : String).length ≤ 2 := by split <;> decide
    have b2 : (Str.ofString (if (PyData.shownAll xs).length == 1 then ",)" else ")" : String)).length ≤ 2 := by split <;> decide
    omega
  | .dict kvs, h => by
    obtain ⟨h1, h2⟩ := shown_wk kvs h
    refine ⟨h1, ?_⟩
    show (dictText (PyData.shownKv kvs)).length ≤ wPk kvs + 2
    unfold dictText
    rw [strLen_append, strLen_append]
    have q := join_le (PyData.shownKv kvs)
    have a : ("{" : Str).length = 1 := rfl
    have b : ("}" : Str).length = 1 := rfl
    omega
theorem shown_ws : ∀ ps : List PyData, bPs ps = true → PyData.showableAll ps = true ∧ piled (PyData.shownAll ps) ≤ wPs ps
  | [], _ => ⟨rfl, by decide⟩
  | p :: ps, h => by
    obtain ⟨a, b⟩ := Bool.and_eq_true_iff.mp h
    obtain ⟨h1, h2⟩ := shown_w p a
    obtain ⟨h3, h4⟩ := shown_ws ps b
    refine ⟨by show (PyData.showable p && PyData.showableAll ps) = true; rw [h1, h3]; rfl, ?_⟩
    show piled (p.shown :: PyData.shownAll ps) ≤ wP p + 2 + wPs ps
    rw [piled_cons]
    omega
theorem shown_wk : ∀ ps : List (PyData × PyData), bPk ps = true → PyData.showableKv ps = true ∧ piled (PyData.shownKv ps) ≤ wPk ps
  | [], _ => ⟨rfl, by decide⟩
  | (k, v) :: ps, h => by
    obtain ⟨ab, b⟩ := Bool.and_eq_true_iff.mp h
    obtain ⟨a, a2⟩ := Bool.and_eq_true_iff.mp ab
    obtain ⟨h1, h2⟩ := shown_w k a
    obtain ⟨g1, g2⟩ := shown_w v a2
    obtain ⟨h3, h4⟩ := shown_wk ps b
    refine ⟨by show (PyData.showable k && PyData.showable v && PyData.showableKv ps) = true; rw [h1, g1, h3]; rfl, ?_⟩
    show piled ((k.shown ++ ": " ++ v.shown) :: PyData.shownKv ps) ≤ wP k + wP v + 4 + wPk ps
    rw [piled_cons, strLen_append, strLen_append]
    have e : (Str.ofString ": ").length = 2 := rfl
    omega
end
theorem okR_w {p : PyData} (h1 : bP p = true) (h2 : wP p ≤ 16777216) (h3 : p.depth ≤ 60) : okR p = true := by
  obtain ⟨a, b⟩ := shown_w p h1
  have hz : sizeLine = 16777216 := sizeLine_eq
  simp only [okR, Bool.and_eq_true, decide_eq_true_eq]
  exact ⟨⟨h3, a⟩, by omega⟩
end L2.Mi

/-! plain reasoning about walks of whatever stands there -/
namespace L2.Mi
open PySem PySem.Spec PyProof.Rows L2
theorem wAny_seq {x : D} {c : Cs} {xs : List D} (h : seqOf x c = some xs) : ∃ w, wAny x c = .ok w c ∧ ∀ i, w i c = some xs[i]? := by
  cases x with
  | lst ys => cases h; exact ⟨_, rfl, fun _ => rfl⟩
  | tup ys => cases h; exact ⟨_, rfl, fun _ => rfl⟩
  | ro ys => cases h; exact ⟨_, rfl, fun _ => rfl⟩
  | ref k =>
    have h : (match c[k]? with
      | some (.lst xs) => some xs
      | _ => none) = some xs := h
    cases q : c[k]? with
    | none => rw [q] at h; cases h
    | some y =>
      rw [q] at h
      cases y with
      | lst ys =>
        cases h
        have e : cellL k c = some xs := by unfold cellL; rw [q]
        refine ⟨cellW k, ?_, fun i => ?_⟩
        · show (match cellL k c with
            | some _ => (.ok (cellW k) c : R Wk)
            | none => .stuck) = _
          rw [e]
        · unfold cellW
          rw [e]
      | _ => cases h
  | _ => cases h
theorem compW_pure {g : MG} {t : MT} {e : ME} {lw : Ls} {w : Wk} {c : Cs} {xs : List D} {P : D → Bool} {F : D → D} {lt : D → Ls} (hw : ∀ i, w i c = some xs[i]?) (h : ∀ d ∈ xs, g d lw c = .ok (lt d) c ∧ t (lt d) c = .ok (P d) c ∧ (P d = true → e (lt d) c = .ok (F d) c)) :
    ∀ (k n i : Nat) (acc : List D), xs.length - i = k → k < n → acc.length + k ≤ sizeLine → compW g t e lw w n i acc c = .ok (acc ++ ((xs.drop i).filter P).map F) c
  | 0, 0, i, acc, hk, hn, hl => absurd hn (Nat.lt_irrefl _)
  | 0, n + 1, i, acc, hk, hn, hl => by
    have hi : xs.length ≤ i := by omega
    unfold compW
    rw [hw, List.getElem?_eq_none hi, List.drop_eq_nil_of_le hi]
    simp
  | k + 1, 0, i, acc, hk, hn, hl => absurd hn (by omega)
  | k + 1, n + 1, i, acc, hk, hn, hl => by
    have hi : i < xs.length := by omega
    obtain ⟨h1, h2, h3⟩ := h xs[i] (List.getElem_mem hi)
    unfold compW
    rw [hw, List.getElem?_eq_getElem hi, List.drop_eq_getElem_cons hi]
    simp only []
    rw [h1]
    simp only [R.nox_ok, R.bind_ok]
    rw [h2]
    simp only [R.nox_ok, R.bind_ok]
    have ih := fun acc hl => compW_pure hw h k n (i + 1) acc (by omega) (by omega) hl
    cases q : P xs[i] with
    | true =>
      simp only []
      rw [h3 q]
      simp only [R.nox_ok, R.bind_ok]
      rw [if_pos (by omega), ih _ (by simp; omega), List.filter_cons_of_pos q, List.map_cons, List.append_assoc]
      rfl
    | false =>
      simp only []
      rw [ih _ (by omega), List.filter_cons_of_neg (by rw [q]; exact Bool.false_ne_true)]
theorem lcW_pure {it : MK} {js : List Nat} {g : MG} {t : MT} {e : ME} {l : Ls} {c : Cs} {w : Wk} {xs : List D} {P : D → Bool} {F : D → D} {lt : D → Ls} (hit : it l c = .ok w c) (hw : ∀ i, w i c = some xs[i]?) (hl : xs.length ≤ 1000000)
    (h : ∀ d ∈ xs, g d (wipeL l js) c = .ok (lt d) c ∧ t (lt d) c = .ok (P d) c ∧ (P d = true → e (lt d) c = .ok (F d) c)) : mLcW it js g t e l c = .ok (.lst ((xs.filter P).map F)) c := by
  have hz : sizeLine = 16777216 := sizeLine_eq
  unfold mLcW
  rw [hit]
  simp only [R.bind_ok]
  rw [compW_pure hw h xs.length fuelW 0 [] (by omega) (by unfold fuelW; omega) (by simp; omega)]
  simp
/-- a loop over what stands there and stays so -/
theorem OkS.forW {g : MG} {f : MS} {w : Wk} {xs : List D} {Q : Fl → Cs → Prop} (P : List D → Ls → Cs → Prop) (hw : ∀ ds l c, P ds l c → ∀ i, w i c = some xs[i]?) (hd : ∀ l c, P [] l c → Q (.nx l) c)
    (ht : ∀ d ds l c, P (d :: ds) l c → Ok (g d l c) fun l1 c1 => OkS (f l1 c1) fun fl c2 => match fl with
      | .nx l2 => P ds l2 c2
      | .ct l2 => P ds l2 c2
      | .bk l2 => Q (.nx l2) c2
      | .rt d => Q (.rt d) c2) : ∀ (k n i : Nat) (l : Ls) (c : Cs), xs.length - i = k → k < n → P (xs.drop i) l c → OkS (forW g f w n i l c) Q
  | _, 0, i, l, c, hk, hn, h => absurd hn (by omega)
  | 0, n + 1, i, l, c, hk, hn, h => by
    have hi : xs.length ≤ i := by omega
    have e := hw _ _ _ h i
    rw [List.drop_eq_nil_of_le hi] at h
    unfold Mi.forW
    rw [e, List.getElem?_eq_none hi]
    exact ⟨_, _, rfl, hd _ _ h⟩
  | k + 1, n + 1, i, l, c, hk, hn, h => by
    have hi : i < xs.length := by omega
    have e := hw _ _ _ h i
    rw [List.drop_eq_getElem_cons hi] at h
    unfold Mi.forW
    rw [e, List.getElem?_eq_getElem hi]
    obtain ⟨l1, c1, e1, fl, c2, e2, q⟩ := ht _ _ _ _ h
    simp only []
    rw [e1]
    simp only [R.seq_ok]
    rw [e2]
    cases fl with
    | nx l2 => exact OkS.forW P hw hd ht k n (i + 1) l2 c2 (by omega) (by omega) q
    | ct l2 => exact OkS.forW P hw hd ht k n (i + 1) l2 c2 (by omega) (by omega) q
    | bk l2 => exact ⟨_, _, rfl, q⟩
    | rt d => exact ⟨_, _, rfl, q⟩
theorem ok_kany {a : ME} {l : Ls} {c : Cs} {Q : Wk → Cs → Prop} (h : Ok (a l c) fun x c1 => Ok (wAny x c1) Q) : Ok (kAny a l c) Q := Ok.bind h
theorem os_forW {it : MK} {g : MG} {f : MS} {l : Ls} {c : Cs} {QS : Fl → Cs → Prop} (h : Ok (it l c) fun w c1 => OkS (forW g f w fuelW 0 l c1) QS) : OkS (sForW it g f l c) QS := OkS.seq h
theorem toPyC_lst {n k : Nat} {c : Cs} {xs : List D} (hk : c[k]? = some (.lst xs)) : toPyC (n + 1) c (.ref k) = (mapO (toPyC n c) xs).map .list := by
  conv => lhs; unfold toPyC
  simp only [hk]
theorem bx_app {c : Cs} {k : Nat} {n : Int} (h : Bx c k n) (x : Cs) : Bx (c ++ x) k n := by
  obtain ⟨a, b, z, h, r⟩ := h
  exact ⟨a, b, z, by rw [List.getElem?_append_left (List.getElem?_eq_some_iff.mp h).1]; exact h, r⟩
theorem bx_lt {c : Cs} {k : Nat} {n : Int} (h : Bx c k n) : k < c.length := by
  obtain ⟨a, b, z, h, r⟩ := h
  exact (List.getElem?_eq_some_iff.mp h).1
theorem bx_set {c : Cs} {k j : Nat} {n : Int} (h : Bx c k n) (hj : j ≠ k) (x : Cell) : Bx (c.set j x) k n := by
  obtain ⟨a, b, z, h, r⟩ := h
  exact ⟨a, b, z, by rw [List.getElem?_set_ne hj]; exact h, r⟩
theorem compW_fix {g : MG} {t : MT} {e : ME} {lw : Ls} {ds : List D} : ∀ (k n i : Nat) (acc : List D) (c : Cs), ds.length - i = k → k < n → compW g t e lw (fixW ds) n i acc c = compD g t e lw (ds.drop i) acc c
  | _, 0, i, acc, c, hk, hn => absurd hn (by omega)
  | 0, n + 1, i, acc, c, hk, hn => by
    have hi : ds.length ≤ i := by omega
    unfold compW fixW
    rw [List.getElem?_eq_none hi, List.drop_eq_nil_of_le hi]
    rfl
  | k + 1, n + 1, i, acc, c, hk, hn => by
    have hi : i < ds.length := by omega
    have ih := fun acc c => compW_fix (g := g) (t := t) (e := e) (lw := lw) (ds := ds) k n (i + 1) acc c (by omega) (by omega)
    rw [List.drop_eq_getElem_cons hi]
    unfold compW compD
    rw [show fixW ds i c = some (some ds[i]) by unfold fixW; rw [List.getElem?_eq_getElem hi]]
    simp only [ih] <;> rfl
theorem forW_fix {g : MG} {f : MS} {ds : List D} : ∀ (k n i : Nat) (l : Ls) (c : Cs), ds.length - i = k → k < n → forW g f (fixW ds) n i l c = forD g f (ds.drop i) l c
  | _, 0, i, l, c, hk, hn => absurd hn (by omega)
  | 0, n + 1, i, l, c, hk, hn => by
    have hi : ds.length ≤ i := by omega
    unfold Mi.forW fixW
    rw [List.getElem?_eq_none hi, List.drop_eq_nil_of_le hi]
    rfl
  | k + 1, n + 1, i, l, c, hk, hn => by
    have hi : i < ds.length := by omega
    have ih := fun l c => forW_fix (g := g) (f := f) (ds := ds) k n (i + 1) l c (by omega) (by omega)
    rw [List.drop_eq_getElem_cons hi]
    unfold Mi.forW forD
    rw [show fixW ds i c = some (some ds[i]) by unfold fixW; rw [List.getElem?_eq_getElem hi]]
    simp only [ih] <;> rfl
theorem os_forL {it : MK} {g : MG} {f : MS} {l : Ls} {c : Cs} {QS : Fl → Cs → Prop} {ds : List D} (hl : ds.length ≤ 1000000) (h : it l c = .ok (fixW ds) c) (q : OkS (forD g f ds l c) QS) : OkS (sForW it g f l c) QS := by
  refine os_forW (Ok.of h ?_)
  rw [forW_fix ds.length fuelW 0 l c (by omega) (by unfold fuelW; omega)]
  exact q
theorem ok_lcL {it : MK} {js : List Nat} {g : MG} {t : MT} {e : ME} {l : Ls} {c : Cs} {Q : D → Cs → Prop} {ds : List D} (hl : ds.length ≤ 1000000) (h : it l c = .ok (fixW ds) c) (q : Ok (compD g t e (wipeL l js) ds [] c) fun xs c2 => Q (.lst xs) c2) : Ok (mLcW it js g t e l c) Q := by
  unfold mLcW
  rw [h]
  simp only [R.bind_ok]
  rw [compW_fix ds.length fuelW 0 [] c (by omega) (by unfold fuelW; omega)]
  exact Ok.bind (q.mono fun _ _ h => ⟨_, _, rfl, h⟩)
end L2.Mi

/-! x.translate(table), the table a tracked dict of numbers -/
namespace PySem
open Builtin Builtin.Str
section
variable {prog : Program} {w : World} {A : Around} {E : Value → Shared → Prop} {s : Shared} {d : Addr} {c : Nat} {g : Nat → Nat}
end
def TrAtG (g : Nat → Nat) (x : List Nat) (fast0 : Bool) (s : Shared) (rest : List Nat) (st : List Str × Nat × Bool × List (Nat × Option Nat) × Bool) (s' : Shared) : Prop :=
  ∃ (past : List Nat) (pieces : List Str) (known : List (Nat × Option Nat)) (h' : Heap) (k : Nat), x = past ++ rest ∧ st = (pieces, past.length, fast0, known, false) ∧ pieces.reverse = past.map (fun c => (⟨#[g c]⟩ : Str)) ∧
    (∀ c a, List.lookup c known = some a → a = some (g c)) ∧ s' = { s with heap := h', toks := k } ∧ ∀ b o, s.heap.get? b = some o → h'.get? b = some o
theorem TrAtG.next {g : Nat → Nat} {x : List Nat} {fast0 : Bool} {s : Shared} {rest past : List Nat} {c : Nat} {pieces : List Str} {known : List (Nat × Option Nat)} {h' : Heap} {k : Nat} (h1 : x = past ++ c :: rest)
    (h3 : pieces.reverse = past.map (fun c => (⟨#[g c]⟩ : Str))) (h4 : ∀ c a, List.lookup c known = some a → a = some (g c)) (h6 : ∀ b o, s.heap.get? b = some o → h'.get? b = some o) :
    TrAtG g x fast0 s rest (⟨#[g c]⟩ :: pieces, past.length + 1, fast0, known, false) { s with heap := h', toks := k } := by
  refine ⟨past ++ [c], ⟨#[g c]⟩ :: pieces, known, h', k, ?_, ?_, ?_, h4, rfl, h6⟩
  · rw [h1, List.append_assoc] <;> rfl
  · rw [List.length_append] <;> rfl
  · rw [List.reverse_cons, h3, List.map_append] <;> rfl
end PySem

/-! str.maketrans("01", "10") and x.translate of it -/
namespace PySem
open Builtin Builtin.Str
section
variable {prog : Program} {w : World} {A : Around} {E : Value → Shared → Prop} {s : Shared}
end
end PySem
namespace L2.Mi
open PySem PySem.Spec PyProof.Rows L2 Builtin Builtin.Str
/-- the table of maketrans("01", "10") -/
abbrev tab01 : List (Key × V) := [(.inl 48, .int 49), (.inl 49, .int 48)]
def exch (c : Nat) : Nat := if c = 48 then 49 else if c = 49 then 48 else c
theorem KV.two {t1 t2 : Tok} : KV tab01 [(.inl 48, Value.int 49 t1), (.inl 49, Value.int 48 t2)] := .cons ⟨rfl, ⟨t1, rfl⟩⟩ (.cons ⟨rfl, ⟨t2, rfl⟩⟩ .nil)
end L2.Mi

namespace PySem
open Builtin Builtin.Str
end PySem
namespace L2.Mi
open PySem PySem.Spec PyProof.Rows L2 Builtin Builtin.Str
section
variable {prog : Program} {w : World} {A : Around} {E : Value → Shared → Prop} {s : Shared} {K : PySem.W.Frag}
end
section
variable {X : Cx} {o e : Expr} {es : List Expr} {to : TE} {t : TA} {apos pos : Pos}
end
end L2.Mi

/-! x.translate(str.maketrans("01", "10")) -/
namespace L2.Mi
open PySem PySem.Spec PyProof.Rows L2
section
variable {X : Cx} {W : WX} {o es : Expr} {fa : ME} {p p1 p2 p3 p4 pos : Pos}
end
end L2.Mi

/-! pop, insert, reverse, clear of a cell -/
namespace L2.Mi
open PySem PySem.Spec PyProof.Rows L2
section
variable {K : PySem.W.Frag} {I H : Hp} {m : List Addr} {c : Cs}
theorem Reps.reverse : ∀ {vs : List V} {ds : List D}, Reps K I m vs ds → Reps K I m vs.reverse ds.reverse
  | _, _, .nil => .nil
  | _, _, .cons h t => by
    rw [List.reverse_cons, List.reverse_cons]
    exact Reps.append (Reps.reverse t) (.cons h .nil)
def cellX (x : D) (c : Cs) : Option (Nat × List D) := match x with
  | .ref k => match c[k]? with
    | some (.lst xs) => some (k, xs)
    | _ => none
  | _ => none
theorem cellX_at {v : V} {d : D} {k : Nat} {xs : List D} (R : Rel K I H m c) (p : Rep K I m v d) (q : cellX d c = some (k, xs)) : ∃ a ws, v = .ref a ∧ m[k]? = some a ∧ c[k]? = some (.lst xs) ∧ H a = some (.lst ws) ∧ Reps K I m ws xs := by
  cases p with
  | @ref j a hm =>
    have q : (match c[j]? with
      | some (.lst xs) => some (j, xs)
      | _ => none) = some (k, xs) := q
    cases e : c[j]? with
    | none => rw [e] at q; cases q
    | some x =>
      rw [e] at q
      cases x with
      | lst ys =>
        cases q
        obtain ⟨_, ws, h1, h2⟩ := R.cell _ a _ hm e
        exact ⟨a, ws, rfl, hm, e, h1, h2⟩
      | _ => cases q
  | _ => cases q
end
end L2.Mi

/-! sum, max, min of a list of numbers -/
namespace L2.Mi
open PySem PySem.Spec PyProof.Rows L2
section
variable {K : PySem.W.Frag} {I H : Hp} {m : List Addr} {c : Cs}
def intsOf : List D → Option (List Int)
  | [] => some []
  | .int b :: r => match intsOf r with
    | some bs => some (b :: bs)
    | none => none
  | _ :: _ => none
theorem ints_reps : ∀ {vs : List V} {ds : List D} {bs : List Int}, Reps K I m vs ds → intsOf ds = some bs → vs = bs.map V.int
  | _, _, _, .nil, e => by cases e; rfl
  | _, _, _, .cons (d := d) (ds := ds) h t, e => by
    cases h with
    | int b =>
      unfold intsOf at e
      cases q : intsOf ds with
      | none => rw [q] at e; cases e
      | some bs =>
        rw [q] at e
        cases e
        rw [ints_reps t q]; rfl
    | _ => cases e
theorem intsOf_map (bs : List Int) : intsOf (bs.map D.int) = some bs := by
  induction bs with
  | nil => rfl
  | cons b r ih => show (match intsOf (r.map D.int) with | some bs => some (b :: bs) | none => none) = _; rw [ih]
def onInts (f : List Int → Option Int) (d : D) (c : Cs) : R D := match lstC d c with
  | some ds => match intsOf ds with
    | some ns => match f ns with
      | some k => .ok (.int k) c
      | none => .stuck
    | none => .stuck
  | none => .stuck
theorem cs_ints {r : List V → Hp → VK → Prop} {f : List Int → Option Int} (h : ∀ (H : Hp) (a : Addr) (ns : List Int) (k : Int) (Q : VK), H a = some (.lst (ns.map V.int)) → f ns = some k → Q (.int k) H → r [.ref a] H Q) : CallS K r (on1 (onInts f)) := fun I H m c vs ds W Q R p A => by
  obtain ⟨v, d, rfl, rfl, pd, A⟩ := on1_arg p A
  unfold onInts at A
  cases e : lstC d c with
  | none => rw [e] at A; exact A.elim
  | some xs =>
    rw [e] at A
    have A : After (rD K) K I m H W Q (match intsOf xs with
      | some ns => match f ns with
        | some k => .ok (.int k) c
        | none => .stuck
      | none => .stuck) := A
    obtain ⟨a, ws, rfl, h1, h2⟩ := lstC_at R pd e
    cases z : intsOf xs with
    | none => rw [z] at A; exact A.elim
    | some ns =>
      rw [z] at A
      have A : After (rD K) K I m H W Q (match f ns with
        | some k => .ok (.int k) c
        | none => .stuck) := A
      cases y : f ns with
      | none => rw [y] at A; exact A.elim
      | some k =>
        rw [y] at A
        rw [ints_reps h2 z] at h1
        exact h H a ns k Q h1 y (A.here R (.int k))
end
end L2.Mi
namespace L2.Mi
open PySem
theorem bt_sum : bootBuiltins "sum" = some (.builtin "sum") := by decide +kernel
theorem bt_sorted : bootBuiltins "sorted" = some (.builtin "sorted") := by decide +kernel
end L2.Mi

/-! a written dict of several keys, a new cell -/
namespace L2.Mi
open PySem PySem.Spec PyProof.Rows L2
abbrev MD := Ls → Cs → R (List (D × D))
def rP (K : PySem.W.Frag) : Hp → List Addr → List (V × V) → List (D × D) → Prop := fun I m vs ds => Paired (fun v d => Rep K I m v.1 d.1 ∧ Rep K I m v.2 d.2) vs ds
def dNil : MD := fun _ c => .ok [] c
def dCons (a b : ME) (t : MD) : MD := fun l c => (a l c).bind fun x c1 => (b l c1).bind fun y c2 => (t l c2).bind fun ps c3 => .ok ((x, y) :: ps) c3
/-- the written pairs, read -/
def MPs (K : PySem.W.Frag) (W : WX) (trs : List (TE × TE)) (f : MD) : Prop := ∀ σ H Q, rd (rP K) K W f σ H Q → tPairs trs σ H Q
theorem mps_nil {K : PySem.W.Frag} {W : WX} : MPs K W [] dNil := fun σ H Q ⟨I, m, l, c, R, L, A⟩ => A.here R .nil
theorem mps_cons {K : PySem.W.Frag} {W : WX} {fa fb : ME} {trs : List (TE × TE)} {f : MD} (h : MPs K W trs f) : MPs K W ((rdE K W fa, rdE K W fb) :: trs) (dCons fa fb f) := fun σ H Q ⟨I, m, l, c, R, L, A⟩ =>
  ⟨I, m, l, c, R, L, After.mono (After.bind (rep := rD K) A) fun v1 H1 ⟨I1, m1, c1, d1, E1, R1, p1, A1⟩ =>
    ⟨I1, m1, l, c1, R1, L.ext E1, After.mono (After.bind (rep := rD K) A1) fun v2 H2 ⟨I2, m2, c2, d2, E2, R2, p2, A2⟩ =>
      h σ H2 _ ⟨I2, m2, l, c2, R2, (L.ext E1).ext E2, After.mono (After.bind (rep := rP K) A2) fun vs H3 ⟨I3, m3, c3, ds, E3, R3, p3, A3⟩ =>
        A3.here R3 (.cons ⟨Rep.ext (Rep.ext p1 E2) E3, Rep.ext p2 E3⟩ p3)⟩⟩⟩
def keyed : List (D × D) → Option (List (Key × D))
  | [] => some []
  | (.int i, d) :: r => match keyed r with
    | some ks => some ((.inl i, d) :: ks)
    | none => none
  | (.str s, d) :: r => match keyed r with
    | some ks => some ((.inr s, d) :: ks)
    | none => none
  | _ :: _ => none
theorem keyed_reps {K : PySem.W.Frag} {I : Hp} {m : List Addr} : ∀ {vs : List (V × V)} {ds : List (D × D)} {ks : List (Key × D)}, rP K I m vs ds → keyed ds = some ks → ∃ kvs : List (Key × V), vs = kvs.map (fun kv => (kV kv.1, kv.2)) ∧ RepK K I m kvs ks
  | _, _, _, .nil, e => by cases e; exact ⟨[], rfl, .nil⟩
  | _, _, _, .cons (a := v) (b := d) (l₂ := ds) h t, e => by
    obtain ⟨v1, v2⟩ := v
    obtain ⟨d1, d2⟩ := d
    obtain ⟨p1, p2⟩ := h
    have p1 : Rep K I m v1 d1 := p1
    have p2 : Rep K I m v2 d2 := p2
    cases p1 with
    | int i =>
      have e : (match keyed ds with
        | some ks => some ((Sum.inl i, d2) :: ks)
        | none => none) = some _ := e
      cases q : keyed ds with
      | none => rw [q] at e; cases e
      | some ks =>
        rw [q] at e
        cases e
        obtain ⟨kvs, rfl, r⟩ := keyed_reps t q
        exact ⟨(.inl i, v2) :: kvs, rfl, .cons p2 r⟩
    | str i =>
      have e : (match keyed ds with
        | some ks => some ((Sum.inr i, d2) :: ks)
        | none => none) = some _ := e
      cases q : keyed ds with
      | none => rw [q] at e; cases e
      | some ks =>
        rw [q] at e
        cases e
        obtain ⟨kvs, rfl, r⟩ := keyed_reps t q
        exact ⟨(.inr i, v2) :: kvs, rfl, .cons p2 r⟩
    | _ => cases e
def mergeKD (kvs more : List (Key × D)) : List (Key × D) := more.foldl (fun acc kv => putKD acc kv.1 kv.2) kvs
theorem RepK.merge {K : PySem.W.Frag} {I : Hp} {m : List Addr} : ∀ {more : List (Key × V)} {rs : List (Key × D)} {kvs : List (Key × V)} {ds : List (Key × D)}, RepK K I m more rs → RepK K I m kvs ds → RepK K I m (mergeK kvs more) (mergeKD ds rs)
  | _, _, _, _, .nil, r => r
  | _, _, _, _, .cons (k := k) (v := v) (vs := vs) (d := d) (ds := ds) h t, r => by
    have q := RepK.merge t (RepK.put (k := k) h r)
    exact q
def mDict (f : MD) : ME := fun l c => (f l c).bind fun ps c1 => match keyed ps with
  | some ks => if ks.length ≤ 15 then .ok (.ref c1.length) (c1 ++ [.dct (mergeKD [] ks)]) else .stuck
  | none => .stuck
theorem me_dict {X : Cx} {W : WX} {pos : Pos} {keys : List (Option Expr)} {values : List Expr} {trs : List (TE × TE)} {f : MD} (h : PPs X pos keys values trs) (hm : MPs X.K W trs f) (hall : keys.all (·.isSome) = true) (hl : keys.length = values.length) (h0 : keys ≠ []) (h15 : keys.length ≤ 15) : PE X (.Dict keys values pos) (rdE X.K W (mDict f)) :=
  PEi (pe_disp h hall hl h0 h15) fun σ H Q ⟨I, m, l, c, R, L, A⟩ => by
    intro p np
    have nI := R.same.free np
    have nm := R.fresh np
    have E0 : Ext I m H I m (upd H p (.dK [])) := ⟨Same.refl I, Pre.refl m, fun b o h1 hT h2 h3 => ⟨by rw [upd_ne (ne_of_none h1 np)]; exact h1, h2, h3⟩⟩
    refine hm σ _ _ ⟨I, m, l, c, R.sideO (fun x z => by rw [np] at z; cases z) (fun o z => by rw [np] at z; first | (cases z; done) | (cases z; exact ⟨(fun _ q => nomatch q), (fun _ q => nomatch q)⟩)) nI nm, L, After.mono (After.bindAt (rep := rP X.K) A E0) fun v H2 ⟨I2, m2, c2, d2, E2, R2, p2, A2⟩ => ?_⟩
    obtain ⟨f1, f2, f3⟩ := E2.fr p _ upd_same ⟨⟨(fun _ z => nomatch z), (fun _ z => nomatch z)⟩, (fun _ z => nomatch z)⟩ nI nm
    have A2 : After (rD X.K) X.K I m H _ _ (match keyed d2 with
      | some ks => if ks.length ≤ 15 then .ok (.ref c2.length) (c2 ++ [.dct (mergeKD [] ks)]) else .stuck
      | none => .stuck) := A2
    cases q : keyed d2 with
    | none => rw [q] at A2; exact A2.elim
    | some ks =>
      rw [q] at A2
      obtain ⟨kvs, e, r⟩ := keyed_reps p2 q
      by_cases z : ks.length ≤ 15
      · have A2 : After (rD X.K) X.K I m H _ _ (if ks.length ≤ 15 then .ok (.ref c2.length) (c2 ++ [.dct (mergeKD [] ks)]) else .stuck) := A2
        rw [if_pos z] at A2
        refine ⟨f1, kvs, e, by rw [r.length]; exact z, ?_⟩
        have R3 : Rel X.K I2 (upd H2 p (.dK (mergeK [] kvs))) m2 c2 := R2.sideO (fun x z => by rw [f1] at z; cases z) (fun o z => by rw [f1] at z; first | (cases z; done) | (cases z; exact ⟨(fun _ q => nomatch q), (fun _ q => nomatch q)⟩)) f2 f3
        have R4 : Rel X.K I2 (upd H2 p (.dK (mergeK [] kvs))) (m2 ++ [p]) (c2 ++ [.dct (mergeKD [] ks)]) := R3.adoptC f3 f2 (fun x z => by rw [upd_same] at z; cases z) (fun o z => by rw [upd_same] at z; first | (cases z; done) | (cases z; exact ⟨(fun _ q => nomatch q), (fun _ q => nomatch q)⟩)) ⟨f2, mergeK [] kvs, upd_same, (RepK.merge r .nil).mono (Same.refl _) (pre_app _ _)⟩
        refine A2 _ _ _ _ ⟨(E0.trans E2).same, (E0.trans E2).pre.trans (pre_app _ _), fun b o h1 hT h2 h3 => ?_⟩ R4 (.ref ?_)
        · obtain ⟨q1, q2, q3⟩ := (E0.trans E2).fr b o h1 hT h2 h3
          have nb : b ≠ p := ne_of_none h1 np
          refine ⟨by rw [upd_ne nb]; exact q1, q2, fun z => ?_⟩
          rcases List.mem_append.mp z with z | z
          · exact q3 z
          · simp only [List.mem_singleton] at z; exact nb z
        · rw [← R2.len, List.getElem?_append_right (Nat.le_refl _), Nat.sub_self]
          rfl
      · have A2 : After (rD X.K) X.K I m H _ _ (if ks.length ≤ 15 then .ok (.ref c2.length) (c2 ++ [.dct (mergeKD [] ks)]) else .stuck) := A2
        rw [if_neg z] at A2; exact A2.elim
end L2.Mi

/-! dict(pairs) -/
namespace L2.Mi
open PySem PySem.Spec PyProof.Rows L2
section
variable {K : PySem.W.Frag} {I H : Hp} {m : List Addr} {c : Cs}
def keyOf : D → Option Key
  | .int i => some (.inl i)
  | .str s => some (.inr s)
  | _ => none
end
end L2.Mi

/-! [*xs, ..] -/
namespace L2.Mi
open PySem PySem.Spec PyProof.Rows L2
section
variable {X : Cx} {W : WX} {e : Expr} {es : List Expr} {fa : ME} {ga : MA} {p : Pos}
end
end L2.Mi

/-! range(a, b, c) -/
namespace L2.Mi
open PySem PySem.Spec PyProof.Rows L2
def rangeC (lo s : Int) (n : Nat) : List D := (List.range n).map fun i => .int (lo + (i : Nat) * s)
def r3ok (i j s : Int) : Prop := s ≠ 0 ∧ s.natAbs < 1073741824 ∧ Builtin.Range.small i j s = true ∧ 0 ≤ Builtin.Range.rangeSize i j s
instance (i j s : Int) : Decidable (r3ok i j s) := inferInstanceAs (Decidable (s ≠ 0 ∧ s.natAbs < 1073741824 ∧ Builtin.Range.small i j s = true ∧ 0 ≤ Builtin.Range.rangeSize i j s))
def r3 (i j s : Int) (c : Cs) : R (List D) := if r3ok i j s then .ok (rangeC i s (Builtin.Range.rangeSize i j s).toNat) c else .stuck
end L2.Mi

/-! zip and enumerate over lists, tuples, texts in any mix -/
namespace L2.Mi
open PySem PySem.Spec PyProof.Rows L2

inductive Sr where
  | l (a : Addr)
  | t (a : Addr)
  | s (z : Str)
def Sr.v : Sr → V
  | .l a => .ref a
  | .t a => .ref a
  | .s z => .str z
def Sr.adr : Sr → List Addr
  | .l a => [a]
  | .t a => [a]
  | .s _ => []
def signsV (z : Str) : List V := z.cps.toList.map fun k => .str ⟨#[k]⟩
def Sr.Items (K : PySem.W.Frag) (H : Hp) (vs : List V) : Sr → Prop
  | .l a => SqL K H a vs
  | .t a => SqT K H a vs
  | .s z => vs = signsV z
def Sr.Itr (it : Addr) (i : Nat) (h : Heap) : Sr → Prop
  | .l a => h.IsListIter it a i
  | .t a => h.IsTupleIter it a i
  | .s z => ∃ t, h.IsStrIter it (strIterType z) z t i
theorem Sr.obj {src : Sr} {it : Addr} {i : Nat} {h : Heap} (st : src.Itr it i h) : ∃ o, h.get? it = some o ∧ ∀ v, o.data ≠ .cell v := by
  cases src with
  | l a => obtain ⟨o, h1, h2, h3⟩ := st; exact ⟨o, h1, fun v q => by rw [h3] at q; cases q⟩
  | t a => obtain ⟨o, h1, h2, h3⟩ := st; exact ⟨o, h1, fun v q => by rw [h3] at q; cases q⟩
  | s z => obtain ⟨t, o, h1, h2, h3⟩ := st; exact ⟨o, h1, fun v q => by rw [h3] at q; cases q⟩
theorem Sr.at {src : Sr} {it : Addr} {i : Nat} {h h' : Heap} (st : src.Itr it i h) (k : ∀ o, h.get? it = some o → h'.get? it = some o) : src.Itr it i h' := by
  cases src with
  | l a => obtain ⟨o, h1, h2⟩ := st; exact ⟨o, k o h1, h2⟩
  | t a => obtain ⟨o, h1, h2⟩ := st; exact ⟨o, k o h1, h2⟩
  | s z => obtain ⟨t, o, h1, h2⟩ := st; exact ⟨t, o, k o h1, h2⟩
theorem paired_getR {α β : Type} {R : α → β → Prop} : ∀ {xs : List α} {ys : List β} {j : Nat} {y : β}, Paired R xs ys → ys[j]? = some y → ∃ x, xs[j]? = some x ∧ R x y
  | _, _, _, _, .nil, e => by simp at e
  | _, _, 0, _, .cons h _, e => by simp at e; subst e; exact ⟨_, rfl, h⟩
  | _, _, j + 1, y, .cons _ t, e => by
    obtain ⟨x, h1, h2⟩ := paired_getR (j := j) (y := y) t (by simpa using e)
    exact ⟨x, by simpa using h1, h2⟩
section
variable {X : Cx} {pins : List (Addr × Obj)} {σ : St} {H : Hp} {s : Shared}
theorem Sr.inj {src : Sr} {xs ys : List V} (I : Inv X pins σ H s) (h1 : src.Items X.K H xs) (h2 : src.Items X.K H ys) : xs = ys := by
  cases src with
  | l a => exact I.list_inj h1 h2
  | t a => exact I.tuple_inj h1 h2
  | s z => exact (show xs = signsV z from h1).trans (show ys = signsV z from h2).symm
theorem Sr.lt {src : Sr} {xs : List V} (I : Inv X pins σ H s) (h1 : src.Items X.K H xs) : ∀ a ∈ src.adr, a < s.heap.objs.size := by
  cases src with
  | l a =>
    obtain ⟨its, rv, p, _⟩ := I.list h1
    intro b hb
    rw [List.mem_singleton.mp hb]
    exact p.lt
  | t a =>
    obtain ⟨its, rv, p, _⟩ := I.tuple h1
    intro b hb
    rw [List.mem_singleton.mp hb]
    obtain ⟨o, e, _⟩ := (show s.heap.IsTuple a its.toArray from p)
    exact Heap.lt_size e
  | s z => intro b hb; cases hb
theorem Sr.draws {src : Sr} {it : Addr} {i : Nat} {vs : List V} (I : Inv X pins σ H s) (hc : X.calm = true) (hq : src.Items X.K H vs) (st : src.Itr it i s.heap) (hne : ∀ a ∈ src.adr, a ≠ it) :
    ∃ (P : Nat → Value → Prop) (S : Nat → Heap → Prop), Draws X.prog X.w X.A.in1 it (it :: src.adr) vs.length P S ∧ S i s.heap ∧ (∀ j h, S j h → src.Itr it j h) ∧ ∀ j u, P j u → ∃ x, vs[j]? = some x ∧ RelV x u := by
  have hh : X.A.in1.handled = none := I.ok.hd hc
  cases src with
  | l a =>
    obtain ⟨its, rv, p, hz⟩ := I.list hq
    refine ⟨fun i v => its.toArray[i]? = some v, fun i h => h.IsListIter it a i ∧ h.IsList a its.toArray, by have := Draws.list (prog := X.prog) (w := X.w) hh it a (hne a (by simp [Sr.adr])) its.toArray; rw [List.size_toArray, ← rv.length] at this; exact this, ⟨st, p.isList⟩, fun j h q => q.1, fun j u q => ?_⟩
    have q : its[j]? = some u := by simpa using q
    exact paired_getR rv q
  | t a =>
    obtain ⟨its, rv, p, hz⟩ := I.tuple hq
    refine ⟨fun i v => its.toArray[i]? = some v, fun i h => h.IsTupleIter it a i ∧ h.IsTuple a its.toArray, by have := Draws.tuple (prog := X.prog) (w := X.w) hh it a (hne a (by simp [Sr.adr])) its.toArray; rw [List.size_toArray, ← rv.length] at this; exact this, ⟨st, p⟩, fun j h q => q.1, fun j u q => ?_⟩
    have q : its[j]? = some u := by simpa using q
    exact paired_getR rv q
  | s z =>
    obtain ⟨t, st⟩ := st
    have hv : vs = signsV z := hq
    subst hv
    refine ⟨_, _, by have := Draws.text (prog := X.prog) (w := X.w) hh it z t; rw [show z.cps.size = (signsV z).length by simp [signsV]] at this; exact this, st, fun j h q => ⟨t, q⟩, fun j u q => ?_⟩
    obtain ⟨c, u', hc', rfl⟩ := q
    refine ⟨.str ⟨#[c]⟩, ?_, ⟨_, rfl⟩⟩
    unfold signsV
    rw [List.getElem?_map, Array.getElem?_toList, hc']
    rfl
theorem Sr.begins {src : Sr} {vs : List V} {u : Value} (I : Inv X pins σ H s) (hq : src.Items X.K H vs) (r : RelV src.v u) :
    ∃ (o : Obj) (G : Heap → Prop), Begins u o G ∧ G s.heap ∧ ∀ (h : Heap) (it : Addr), h.get? it = some o → src.Itr it 0 h := by
  cases src with
  | l a =>
    cases r
    obtain ⟨its, rv, p, hz⟩ := I.list hq
    exact ⟨_, _, begins_list a its.toArray, p.isList, fun h it e => ⟨_, e, rfl, rfl⟩⟩
  | t a =>
    cases r
    obtain ⟨its, rv, p, hz⟩ := I.tuple hq
    exact ⟨_, _, begins_tuple a its.toArray, p, fun h it e => ⟨_, e, rfl, rfl⟩⟩
  | s z =>
    obtain ⟨t, rfl⟩ := r
    exact ⟨_, _, begins_text z t, trivial, fun h it e => ⟨t, _, e, rfl, rfl⟩⟩
end

/-! ### zip -/
def ItzG (K : PySem.W.Frag) (s1 s2 : Sr) : It :=
  ⟨fun i H => ∃ (xs ys : List V) (x y : V), s1.Items K H xs ∧ s2.Items K H ys ∧ xs[i]? = some x ∧ ys[i]? = some y,
    fun i H v H' => ∃ T x y, v = .ref T ∧ H T = none ∧ H' = upd H T (.tup [x, y]) ∧ (∀ xs, s1.Items K H xs → xs[i]? = some x) ∧ ∀ ys, s2.Items K H ys → ys[i]? = some y,
    fun i H => ∃ xs ys : List V, s1.Items K H xs ∧ s2.Items K H ys ∧ i ≤ xs.length ∧ i ≤ ys.length ∧ (i = xs.length ∨ i = ys.length)⟩
theorem turn_zipG {P : Program} {w : World} {K : PySem.W.Frag} {elts : List Expr} {kk : Nat} {tpos : Pos} {s1 s2 : Sr} {z TI TO i1 i2 : Addr} (S : ZipSep2 z TI TO i1 i2 (i1 :: s1.adr) (i2 :: s2.adr)) (n1 : ∀ a ∈ s1.adr, a ≠ i1) (n2 : ∀ a ∈ s2.adr, a ≠ i2) :
    Turn P w K (.Tuple elts kk tpos) (ItzG K s1 s2) [z, TI, TO, i1, i2] z (fun i h => IsZip h z TI TO .none ∧ IsTupOf2 h TI (.ref i1) (.ref i2) ∧ (∃ x y, IsTupOf2 h TO x y) ∧ s1.Itr i1 i h ∧ s2.Itr i2 i h) where
  mem := by simp
  obj := fun i h st c hc => by
    obtain ⟨hz, hTI, ⟨x, y, hTO⟩, h1, h2⟩ := st
    have e' : c = z ∨ c = TI ∨ c = TO ∨ c = i1 ∨ c = i2 := by simpa using hc
    rcases e' with q | q | q | q | q
    · rw [q]; exact ⟨_, hz, fun v q => nomatch q⟩
    · rw [q]; exact ⟨_, hTI, fun v q => nomatch q⟩
    · rw [q]; exact ⟨_, hTO, fun v q => nomatch q⟩
    · rw [q]; exact Sr.obj h1
    · rw [q]; exact Sr.obj h2
  keep := fun i h h' st k => by
    obtain ⟨hz, hTI, ⟨x, y, hTO⟩, h1, h2⟩ := st
    exact ⟨k z (by simp) _ hz, k TI (by simp) _ hTI, ⟨x, y, k TO (by simp) _ hTO⟩, Sr.at h1 fun o q => k i1 (by simp) o q, Sr.at h2 fun o q => k i2 (by simp) o q⟩
  item := by
    intro X hP hw hK hc i pins s σ H E I hf st hg
    subst hP hw hK
    obtain ⟨hz, hTI, ⟨x0, y0, hTO⟩, h1, h2⟩ := st
    obtain ⟨xs, ys, x, y, hqx, hqy, hx, hy⟩ := hg
    obtain ⟨P1, S1, D1, q1, r1, p1⟩ := Sr.draws I hc hqx h1 n1
    obtain ⟨P2, S2, D2, q2, r2, p2⟩ := Sr.draws I hc hqy h2 n2
    have hzl : z < s.heap.objs.size := Heap.lt_size hz
    refine wpAny_pyNext_zipD2_item S D1 D2 hz hTI hTO q1 q2 (List.getElem?_eq_some_iff.mp hx).1 (List.getElem?_eq_some_iff.mp hy).1 fun u u2 h' tk y1 y2 z' TO' h1' h2' hT hsz hk => ?_
    refine ⟨_, rfl, wpAny_letOwnedTupleGo_zip (s := { s with heap := h', toks := tk }) z' fun h'' z'' sb => ?_⟩
    obtain ⟨x', hx', ru⟩ := p1 _ _ y1
    obtain ⟨y', hy', ru2⟩ := p2 _ _ y2
    rw [hx] at hx'; cases hx'
    rw [hy] at hy'; cases hy'
    have hT2 : h''.get? s.heap.objs.size = some { cls := .type "tuple", data := .seq #[u, u2] } := (sb.2 _ (Nat.ne_of_gt hzl)).trans hT
    have new : ObjOk X.prog X.w (upd H s.heap.objs.size (.tup [x, y])) h'' s.heap.objs.size (.tup [x, y]) :=
      ⟨by show 2 ≤ sizeLine; decide, [u, u2], .cons ru (.cons ru2 .nil), ⟨_, hT2, rfl, _, rfl⟩⟩
    have I1 : Inv X pins σ (upd H s.heap.objs.size (.tup [x, y])) { s with heap := h'', toks := tk } :=
      I.turnedNew (t' := tk) (ch := [z, TI, TO, i1, i2]) (fun c o hb q => (sb.2 c (fun q' => hb (by simp [q']))).trans (hk c o (fun q' => hb (by simp [q'])) (fun q' => hb (by simp [q'])) (fun q' => hb (by simp [q'])) (fun q' => hb (by simp [q'])) q)) hf (Nat.le_refl _) new
    refine ⟨.ref s.heap.objs.size, _, I1, rfl, ⟨_, x, y, rfl, I.hok.fresh (Nat.le_refl _), rfl, fun l hl => by rw [Sr.inj I hl hqx]; exact hx, fun l hl => by rw [Sr.inj I hl hqy]; exact hy⟩, ⟨z'', ?_, ⟨u, u2, ?_⟩, ?_, ?_⟩, fun c hcm => ?_⟩
    · exact (sb.2 _ S.TIz).trans (hk _ _ S.TIz S.TITO S.TIi1 S.TIi2 hTI)
    · exact (sb.2 _ S.TOz).trans TO'
    · exact Sr.at (r1 _ _ h1') fun o q => (sb.2 _ (Ne.symm S.zi1)).trans q
    · exact Sr.at (r2 _ _ h2') fun o q => (sb.2 _ (Ne.symm S.zi2)).trans q
    · have hlt : c < s.heap.objs.size := by
        have e' : c = z ∨ c = TI ∨ c = TO ∨ c = i1 ∨ c = i2 := by simpa using hcm
        rcases e' with q | q | q | q | q
        · rw [q]; exact hzl
        · rw [q]; exact Heap.lt_size hTI
        · rw [q]; exact Heap.lt_size hTO
        · rw [q]; obtain ⟨_, e1, _⟩ := Sr.obj h1; exact Heap.lt_size e1
        · rw [q]; obtain ⟨_, e2, _⟩ := Sr.obj h2; exact Heap.lt_size e2
      rw [upd_ne (Nat.ne_of_lt hlt)]
      exact (hf c hcm).1
  done := by
    intro X hP hw hK hc i pins s σ H E I hf st hg
    subst hP hw hK
    obtain ⟨hz, hTI, ⟨x0, y0, hTO⟩, h1, h2⟩ := st
    obtain ⟨xs, ys, hqx, hqy, l1, l2, hend⟩ := hg
    obtain ⟨P1, S1, D1, q1, r1, p1⟩ := Sr.draws I hc hqx h1 n1
    obtain ⟨P2, S2, D2, q2, r2, p2⟩ := Sr.draws I hc hqy h2 n2
    exact wpAny_pyNext_zipD2_end S D1 D2 hz hTI hTO q1 q2 l1 l2 hend fun h' tk hk => ⟨rfl, I.turnedL (t' := tk) (ch := [z, TI, TO, i1, i2]) (fun c o hb q =>
      hk c o (fun q' => hb (by simp [q'])) (fun q' => hb (by simp [q'])) (fun q' => hb (by simp [q'])) (fun q' => hb (by simp [q'])) q) hf⟩
  self := fun A i s Q E st h => wpAny_pyIter_zip st.1 h
def iZipG (K : PySem.W.Frag) (ta : TA) : TI := fun σ H R => ta σ H fun vs H1 => ∃ (s1 s2 : Sr) (xs ys : List V), vs = [s1.v, s2.v] ∧ s1.Items K H1 xs ∧ s2.Items K H1 ys ∧ R (ItzG K s1 s2) H1
theorem pi_zipG {X : Cx} {e e2 : Expr} {ta : TA} {p pos tpos : Pos} {elts : List Expr} {kk : Nat} (hg : Gl X "zip") (hm : X.mg "zip" = none) (ha : PA X [e, e2] ta)
    (hs : starEach [e, e2] X.env = (false, eval e X.env) :: starEach [e2] X.env := by rfl) (hpl : (backTo pos (starEach [e2] X.env)).any (·.1) = false := by rfl) :
    PI X (.Tuple elts kk tpos) (.Call (.Name "zip" p) [e, e2] [] pos) (iZipG X.K ta) := by
  refine ⟨fun pins s σ H R I h => ?_⟩
  refine Call_ (ld_blt I hg hm PyProof.Rows.boot_zip (PyProof.Rows.callWith_type1 (thn (ha.run pos pins s σ H _ I h) fun us s1 ⟨vs, H1, I1, r1, q1⟩ => ?_) hs hpl))
  obtain ⟨c1, c2, xs, ys, ex, hqx, hqy, q⟩ := q1
  subst ex
  cases r1 with
  | cons r rr =>
    cases rr with
    | cons r' rr =>
      cases rr
      obtain ⟨o1, G1, B1, g1, b1⟩ := Sr.begins I1 hqx r
      obtain ⟨o2, G2, B2, g2, b2⟩ := Sr.begins I1 hqy r'
      have la := Sr.lt I1 hqx
      have lb := Sr.lt I1 hqy
      refine zip_begins2 B1 B2 g1 g2 fun h' hz hTI hTO e1 e2 hsz hk => wpAny_pyIter_zip hz ?_
      have I2 : Inv X pins σ H1 { s1 with heap := h' } := I1.kept (t' := s1.toks) hk
      refine ⟨s1.heap.objs.size + 4, [s1.heap.objs.size + 4, s1.heap.objs.size + 2, s1.heap.objs.size + 3, s1.heap.objs.size, s1.heap.objs.size + 1], _, _, H1, rfl, I2, turn_zipG (s1 := c1) (s2 := c2) ?_ (fun a h => Nat.ne_of_lt (la a h)) (fun a h => Nat.ne_of_lt (Nat.lt_succ_of_lt (lb a h))), ⟨hz, hTI, ⟨_, _, hTO⟩, b1 _ _ e1, b2 _ _ e2⟩, fun c hcm => ?_, q⟩
      · have n1 : ∀ k : Nat, s1.heap.objs.size + k ∉ c1.adr := fun k h => Nat.not_lt.mpr (Nat.le_add_right s1.heap.objs.size k) (la _ h)
        have n2 : ∀ k : Nat, s1.heap.objs.size + k ∉ c2.adr := fun k h => Nat.not_lt.mpr (Nat.le_add_right s1.heap.objs.size k) (lb _ h)
        exact {
          TIz := show (s1.heap.objs.size + 2 : Nat) ≠ s1.heap.objs.size + 4 by omega
          TOz := show (s1.heap.objs.size + 3 : Nat) ≠ s1.heap.objs.size + 4 by omega
          TITO := show (s1.heap.objs.size + 2 : Nat) ≠ s1.heap.objs.size + 3 by omega
          TIi1 := show (s1.heap.objs.size + 2 : Nat) ≠ s1.heap.objs.size by omega
          mem1 := List.mem_cons_self
          zf1 := fun h => (List.mem_cons.mp h).elim (fun h => absurd (show (s1.heap.objs.size + 4 : Nat) = s1.heap.objs.size from h) (by omega)) (n1 4)
          Tf1 := fun h => (List.mem_cons.mp h).elim (fun h => absurd (show (s1.heap.objs.size + 3 : Nat) = s1.heap.objs.size from h) (by omega)) (n1 3)
          TIi2 := show (s1.heap.objs.size + 2 : Nat) ≠ s1.heap.objs.size + 1 by omega
          mem2 := List.mem_cons_self
          zf2 := fun h => (List.mem_cons.mp h).elim (fun h => absurd (show (s1.heap.objs.size + 4 : Nat) = s1.heap.objs.size + 1 from h) (by omega)) (n2 4)
          Tf2 := fun h => (List.mem_cons.mp h).elim (fun h => absurd (show (s1.heap.objs.size + 3 : Nat) = s1.heap.objs.size + 1 from h) (by omega)) (n2 3)
          sep1_2 := fun h => (List.mem_cons.mp h).elim (fun h => absurd (show (s1.heap.objs.size : Nat) = s1.heap.objs.size + 1 from h) (by omega)) (n2 0)
          sep2_1 := fun h => (List.mem_cons.mp h).elim (fun h => absurd (show (s1.heap.objs.size + 1 : Nat) = s1.heap.objs.size from h) (by omega)) (n1 1) }
      · have e' : c = s1.heap.objs.size + 4 ∨ c = s1.heap.objs.size + 2 ∨ c = s1.heap.objs.size + 3 ∨ c = s1.heap.objs.size ∨ c = s1.heap.objs.size + 1 := by simpa using hcm
        have hle : s1.heap.objs.size ≤ c := by
          rcases e' with z | z | z | z | z <;> rw [z] <;> first | exact Nat.le_refl _ | exact Nat.le_add_right _ _
        exact I1.fpOk hle (I1.hok.fresh hle)

/-! ### enumerate -/
theorem meets_enum1 {v : Value} {o : Obj} {G : Heap → Prop} (B : Begins v o G) :
    Meets (Builtin.«enumerate.__new__» ⟨[.type "enumerate", v], []⟩) (fun _ R s => G s.heap ∧
      R (.ok (.ret (.ref (s.heap.push o).objs.size))) { s with heap := (s.heap.push o).push { cls := .type "enumerate", data := .fields #[.none, .bool false, .ref s.heap.objs.size, rawInt 0, .none, .none] } }) :=
  .of_wp fun prog w A R s h => by
    obtain ⟨hp, g, d, tk, os⟩ := s; obtain ⟨h1, h⟩ := h
    have hsub := sub_enumerate
    have q1 : ∀ {A' : Around} {E : Value → Shared → Prop} {Q : Value → Shared → Prop}, Q (.ref hp.objs.size) ⟨hp.push o, g, d, tk, os⟩ → wpAny (model prog w) A' (pyIter v) Q E ⟨hp, g, d, tk, os⟩ :=
      fun q => B.iter prog w _ _ ⟨hp, g, d, tk, os⟩ _ h1 q
    wp_walk using q1
    refine wpAny_stack_any fun st => wpAny_pure ?_
    split
    · rename_i c _ _ _ _ _
      cases (c == Value.type "enumerate")
      · wp_walk using q1
        exact ⟨_, rfl, h⟩
      · wp_walk using q1
        exact ⟨_, rfl, h⟩
    · wp_walk using q1
      exact ⟨_, rfl, h⟩
theorem enum_begins1 {prog : Program} {w : World} {A : Around} {E : Value → Shared → Prop} {s : Shared} {v : Value} {o : Obj} {G : Heap → Prop} {Q : Value → Shared → Prop} (B : Begins v o G) (h1 : G s.heap)
    (h : ∀ h', IsEnum h' (s.heap.objs.size + 1) s.heap.objs.size 0 .none → h'.get? s.heap.objs.size = some o → h'.objs.size = s.heap.objs.size + 2 →
      (∀ b o, s.heap.get? b = some o → h'.get? b = some o) → Q (.ref (s.heap.objs.size + 1)) { s with heap := h' }) :
    wpAny (model prog w) A (call (.type "enumerate") [v]) Q E s := by
  refine callType_new F.called_enumerate (by decide) (F.typeCall_enumerate_1 _) (F.newCall_enumerate_1 _) (fun obj => F.args_object_init_2 obj _) F.entry_enumerate_new
    (meets_enum1 B) ⟨h1, ?_⟩
  have hz : (s.heap.push o).objs.size = s.heap.objs.size + 1 := Heap.size_push ..
  show _ ∧ _
  rw [hz]
  have he : IsEnum ((s.heap.push o).push { cls := .type "enumerate", data := .fields #[.none, .bool false, .ref s.heap.objs.size, rawInt 0, .none, .none] }) (s.heap.objs.size + 1) s.heap.objs.size 0 .none := by
    have := Heap.get?_push_size (s.heap.push o) (o := { cls := .type "enumerate", data := .fields #[.none, .bool false, .ref s.heap.objs.size, rawInt 0, .none, .none] }) rfl
    rw [hz] at this; exact this
  refine ⟨⟨_, he, rfl⟩, h _ he (Heap.get?_push_of_some _ (Heap.get?_push_size _ B.free)) (by rw [Heap.size_push, hz]) fun b o x => Heap.get?_push_of_some _ (Heap.get?_push_of_some _ x)⟩
def IteG (K : PySem.W.Frag) (s1 : Sr) : It :=
  ⟨fun i H => ∃ (xs : List V) (x : V), s1.Items K H xs ∧ xs[i]? = some x,
    fun i H v H' => ∃ T x, v = .ref T ∧ H T = none ∧ H' = upd H T (.tup [.int (i : Nat), x]) ∧ ∀ xs, s1.Items K H xs → xs[i]? = some x,
    fun i H => ∃ xs : List V, s1.Items K H xs ∧ i = xs.length⟩
theorem turn_enumG {P : Program} {w : World} {K : PySem.W.Frag} {elts : List Expr} {kk : Nat} {tpos : Pos} {s1 : Sr} {e it : Addr} (hne : e ≠ it) (hea : e ∉ s1.adr) (n1 : ∀ a ∈ s1.adr, a ≠ it) :
    Turn P w K (.Tuple elts kk tpos) (IteG K s1) [e, it] e (fun i h => (∃ old, IsEnum h e it ((i : Nat) : Int) old) ∧ s1.Itr it i h) where
  mem := by simp
  obj := fun i h st b hb => by
    obtain ⟨⟨old, he⟩, h1⟩ := st
    have e' : b = e ∨ b = it := by simpa using hb
    rcases e' with z | z
    · rw [z]; exact ⟨_, he, fun v q => nomatch q⟩
    · rw [z]; exact Sr.obj h1
  keep := fun i h h' st k => let ⟨⟨old, he⟩, hi⟩ := st; ⟨⟨old, k e (by simp) _ he⟩, Sr.at hi fun o q => k it (by simp) o q⟩
  item := by
    intro X hP hw hK hc i pins s σ H E I hf st hg
    subst hP hw hK
    obtain ⟨⟨old, he⟩, h1⟩ := st
    obtain ⟨xs, x, hqx, hx⟩ := hg
    obtain ⟨P1, S1, D1, q1, r1, p1⟩ := Sr.draws I hc hqx h1 n1
    have hel : e < s.heap.objs.size := Heap.lt_size he
    have hil : it < s.heap.objs.size := by obtain ⟨_, q, _⟩ := Sr.obj h1; exact Heap.lt_size q
    refine wpAny_pyNext_enum_itemD D1 he q1 (List.getElem?_eq_some_iff.mp hx).1 hne (fun h => by rcases List.mem_cons.mp h with h | h; exact hne h; exact hea h) fun u h' tk y1 ho h1' hT hsz hk => ?_
    refine ⟨_, rfl, wpAny_letOwnedTupleGo_enum (s := { s with heap := h', toks := tk + 1 }) ho fun h'' he' sb => ?_⟩
    obtain ⟨x', hx', ru⟩ := p1 _ _ y1
    rw [hx] at hx'; cases hx'
    have hT2 : h''.get? s.heap.objs.size = some { cls := .type "tuple", data := .seq #[.int i tk, u] } := (sb.2 _ (Nat.ne_of_gt hel)).trans hT
    have new : ObjOk X.prog X.w (upd H s.heap.objs.size (.tup [.int (i : Nat), x])) h'' s.heap.objs.size (.tup [.int (i : Nat), x]) :=
      ⟨by show 2 ≤ sizeLine; decide, [.int i tk, u], .cons ⟨_, rfl⟩ (.cons ru .nil), ⟨_, hT2, rfl, _, rfl⟩⟩
    have I1 : Inv X pins σ (upd H s.heap.objs.size (.tup [.int (i : Nat), x])) { s with heap := h'', toks := tk + 1 } :=
      I.turnedNew (t' := tk + 1) (ch := [e, it]) (fun b ob hb q => (sb.2 b (fun z => hb (by simp [z]))).trans (hk b ob (fun z => hb (by simp [z])) (fun z => hb (by simp [z])) q)) hf (Nat.le_refl _) new
    refine ⟨.ref s.heap.objs.size, _, I1, rfl, ⟨_, x, rfl, I.hok.fresh (Nat.le_refl _), rfl, fun ys hy => by rw [Sr.inj I hy hqx]; exact hx⟩, ⟨⟨u, ?_⟩, Sr.at (r1 _ _ h1') fun o q => (sb.2 it (Ne.symm hne)).trans q⟩, fun b hb => ?_⟩
    · have e1 : ((i + 1 : Nat) : Int) = (i : Int) + 1 := by omega
      rw [e1]; exact he'
    · have hb' : b < s.heap.objs.size := by
        have e' : b = e ∨ b = it := by simpa using hb
        rcases e' with z | z
        · rw [z]; exact hel
        · rw [z]; exact hil
      rw [upd_ne (Nat.ne_of_lt hb')]
      exact (hf b hb).1
  done := by
    intro X hP hw hK hc i pins s σ H E I hf st hg
    subst hP hw hK
    obtain ⟨⟨old, he⟩, h1⟩ := st
    obtain ⟨xs, hqx, rfl⟩ := hg
    obtain ⟨P1, S1, D1, q1, r1, p1⟩ := Sr.draws I hc hqx h1 n1
    obtain ⟨f0, f1, f2, f3, f4, f5⟩ := hf it (by simp)
    exact wpAny_pyNext_enum_endD D1 he q1 fun h' eb => ⟨rfl, I.turned (t' := s.toks) (fun b o hb q => eb b o hb q) f0 f1 f3 f4 f5⟩
  self := fun A i s Q E st h => let ⟨⟨_, he⟩, _⟩ := st; wpAny_pyIter_enum he h
def iEnumG (K : PySem.W.Frag) (ta : TA) : TI := fun σ H R => ta σ H fun vs H1 => ∃ (s1 : Sr) (xs : List V), vs = [s1.v] ∧ s1.Items K H1 xs ∧ R (IteG K s1) H1
theorem pi_enumG {X : Cx} {e : Expr} {ta : TA} {p pos tpos : Pos} {elts : List Expr} {kk : Nat} (hg : Gl X "enumerate") (hm : X.mg "enumerate" = none) (ha : PA X [e] ta) (hs : starEach [e] X.env = [(false, eval e X.env)] := by rfl) :
    PI X (.Tuple elts kk tpos) (.Call (.Name "enumerate" p) [e] [] pos) (iEnumG X.K ta) := by
  refine ⟨fun pins s σ H R I h => ?_⟩
  refine Call_ (ld_blt I hg hm boot_enumerate (PyProof.Rows.callWith_type1 (thn (ha.run pos pins s σ H _ I h) fun us s1 ⟨vs, H1, I1, r1, q1⟩ => ?_) hs rfl))
  obtain ⟨c1, xs, ex, hq, q⟩ := q1
  subst ex
  cases r1 with
  | cons r rr =>
    cases rr
    obtain ⟨o1, G1, B1, g1, b1⟩ := Sr.begins I1 hq r
    have la := Sr.lt I1 hq
    refine enum_begins1 B1 g1 fun h' he hit hsz hk => wpAny_pyIter_enum he ?_
    have I2 : Inv X pins σ H1 { s1 with heap := h' } := I1.kept (t' := s1.toks) hk
    refine ⟨s1.heap.objs.size + 1, [s1.heap.objs.size + 1, s1.heap.objs.size], _, _, H1, rfl, I2, turn_enumG (s1 := c1) (show (s1.heap.objs.size + 1 : Nat) ≠ s1.heap.objs.size by omega) (fun h => by have z : (s1.heap.objs.size + 1 : Nat) < s1.heap.objs.size := la _ h; omega) (fun a h => Nat.ne_of_lt (la a h)), ⟨⟨.none, he⟩, b1 _ _ hit⟩, fun b hb => ?_, q⟩
    have e' : b = s1.heap.objs.size + 1 ∨ b = s1.heap.objs.size := by simpa using hb
    have hle : s1.heap.objs.size ≤ b := by
      rcases e' with z | z <;> rw [z] <;> first | exact Nat.le_refl _ | exact Nat.le_add_right _ _
    exact I1.fpOk hle (I1.hok.fresh hle)

/-! ### over plain values -/
def seqW (x : D) (c : Cs) : Option (List D) := match x with
  | .lst ds => some ds
  | .ro ds => some ds
  | .tup ds => some ds
  | .str s => some (chrs s)
  | .ref k => cellL k c
  | _ => none
theorem reps_signs {K : PySem.W.Frag} {I : Hp} {m : List Addr} (z : Str) : Reps K I m (signsV z) (chrs z) := by
  unfold signsV chrs
  generalize z.cps.toList = ks
  induction ks with
  | nil => exact .nil
  | cons k ks ih => exact .cons (.str _) ih
theorem cellL_at {K : PySem.W.Frag} {I H : Hp} {m : List Addr} {c : Cs} {k : Nat} {a : Addr} {ds : List D} (R : Rel K I H m c) (hk : m[k]? = some a) (e : cellL k c = some ds) : ∃ vs, SqL K H a vs ∧ Reps K I m vs ds := by
  unfold cellL at e
  cases q : c[k]? with
  | none => rw [q] at e; cases e
  | some x =>
    rw [q] at e
    have hc := R.cell k a x hk q
    cases x with
    | lst xs => cases e; obtain ⟨_, vs, h1, h2⟩ := hc; exact ⟨vs, SqL.of h1, h2⟩
    | frz d =>
      cases d with
      | lst xs =>
        cases e
        obtain ⟨_, hr⟩ := hc
        cases hr with
        | lst h1 h2 => exact ⟨_, SqL.of (R.same _ _ h1), h2⟩
      | _ => cases e
    | _ => cases e
theorem seqW_src {K : PySem.W.Frag} {I H : Hp} {m : List Addr} {c : Cs} {v : V} {x : D} {ds0 : List D} (hv : Rep K I m v x) (h0 : seqW x c = some ds0) :
    ∃ src : Sr, v = src.v ∧ ∀ (I' H' : Hp) (m' : List Addr) (c' : Cs) (ds : List D), Same I I' → Pre m m' → Rel K I' H' m' c' → seqW x c' = some ds → ∃ vs, src.Items K H' vs ∧ Reps K I' m' vs ds := by
  cases hv with
  | @lst a vs ds h r => exact ⟨.l a, rfl, fun I' H' m' c' ds s p R e => by cases e; exact ⟨vs, SqL.of (R.same _ _ (s _ _ h)), r.mono s p⟩⟩
  | @ro a vs ds h r => exact ⟨.l a, rfl, fun I' H' m' c' ds s p R e => by cases e; exact ⟨vs, R.same.seq (s.seq h), r.mono s p⟩⟩
  | @tup a vs ds h r => exact ⟨.t a, rfl, fun I' H' m' c' ds s p R e => by cases e; exact ⟨vs, sqT_same R.same (sqT_same s h), r.mono s p⟩⟩
  | str z => exact ⟨.s z, rfl, fun I' H' m' c' ds s p R e => by cases e; exact ⟨_, rfl, reps_signs z⟩⟩
  | @ref k a hk => exact ⟨.l a, rfl, fun I' H' m' c' ds s p R e => cellL_at R (p _ _ hk) e⟩
  | _ => cases h0
def zipW (x y : D) : Wk := fun i c => match seqW x c, seqW y c with
  | some xs, some ys => match xs[i]?, ys[i]? with
    | some a, some b => some (some (.tup [a, b]))
    | _, _ => if i ≤ xs.length ∧ i ≤ ys.length then some none else none
  | _, _ => none
theorem new_tup {K : PySem.W.Frag} {I H : Hp} {m : List Addr} {c : Cs} {T : Addr} {vs : List V} {ds : List D} (R : Rel K I H m c) (np : H T = none) (r : Reps K I m vs ds) :
    ∃ I'', Ext I m H I'' m (upd H T (.tup vs)) ∧ Rel K I'' (upd H T (.tup vs)) m c ∧ Rep K I'' m (.ref T) (.tup ds) := by
  obtain ⟨r1, e1⟩ := alloc (o := .tup vs) R np
  exact ⟨_, e1, r1, .tup (Or.inl (Or.inl upd_same)) (r.mono e1.same (Pre.refl _)) (.inl upd_same)⟩
theorem walks_zip {K : PySem.W.Frag} {I : Hp} {m : List Addr} {x y : D} {s1 s2 : Sr} (h1 : ∀ (I' H' : Hp) (m' : List Addr) (c' : Cs) (ds : List D), Same I I' → Pre m m' → Rel K I' H' m' c' → seqW x c' = some ds → ∃ vs, s1.Items K H' vs ∧ Reps K I' m' vs ds)
    (h2 : ∀ (I' H' : Hp) (m' : List Addr) (c' : Cs) (ds : List D), Same I I' → Pre m m' → Rel K I' H' m' c' → seqW y c' = some ds → ∃ vs, s2.Items K H' vs ∧ Reps K I' m' vs ds) : WalksW K I m (ItzG K s1 s2) (zipW x y) := fun i I' H m' c s p R => by
  unfold zipW
  cases q1 : seqW x c with
  | none => exact ⟨fun d e => by simp at e, fun e => by simp at e⟩
  | some xs =>
    cases q2 : seqW y c with
    | none => exact ⟨fun d e => by simp at e, fun e => by simp at e⟩
    | some ys =>
      obtain ⟨vs, i1, r1⟩ := h1 I' H m' c xs s p R q1
      obtain ⟨us, i2, r2⟩ := h2 I' H m' c ys s p R q2
      have fin : xs[i]? = none ∨ ys[i]? = none → (if i ≤ xs.length ∧ i ≤ ys.length then some none else none : Option (Option D)) = some none → (ItzG K s1 s2).stop i H := fun hn e => by
        by_cases hle : i ≤ xs.length ∧ i ≤ ys.length
        · refine ⟨vs, us, i1, i2, by rw [r1.length]; exact hle.1, by rw [r2.length]; exact hle.2, ?_⟩
          rw [r1.length, r2.length]
          rcases hn with hn | hn
          · have := List.getElem?_eq_none_iff.mp hn; exact .inl (by omega)
          · have := List.getElem?_eq_none_iff.mp hn; exact .inr (by omega)
        · rw [if_neg hle] at e; cases e
      cases qa : xs[i]? with
      | none => simp only [qa]; exact ⟨fun d e => by split at e <;> simp at e, fun e => fin (.inl qa) e⟩
      | some a =>
        cases qb : ys[i]? with
        | none => simp only [qa, qb]; exact ⟨fun d e => by split at e <;> simp at e, fun e => fin (.inr qb) e⟩
        | some b =>
          simp only [qa, qb]
          refine ⟨fun d e => ?_, fun e => by simp at e⟩
          have e : D.tup [a, b] = d := by simpa using e
          subst e
          obtain ⟨va, hva, pa⟩ := r1.get qa
          obtain ⟨vb, hvb, pb⟩ := r2.get qb
          refine ⟨⟨vs, us, va, vb, i1, i2, hva, hvb⟩, fun z H' yl => ?_⟩
          obtain ⟨T, x', y', rfl, hT, rfl, f1, f2⟩ := yl
          have e1 := f1 vs i1
          have e2 := f2 us i2
          rw [hva] at e1; cases e1
          rw [hvb] at e2; cases e2
          obtain ⟨I2, g1, g2, g3⟩ := new_tup R hT (.cons pa (.cons pb .nil))
          exact ⟨I2, g1, g2, g3⟩
def kZip (t : MA) : MK := fun l c => (t l c).bind fun xs c1 => match xs with
  | [x, y] => if (seqW x c1).isSome = true ∧ (seqW y c1).isSome = true then .ok (zipW x y) c1 else .stuck
  | _ => .stuck
theorem mk_zip {X : Cx} {W : WX} {tg it : Expr} {ga : MA} (h : PI X tg it (iZipG X.K (rdA X.K W ga))) : PI X tg it (rdK X.K W (kZip ga)) := PIi h fun σ H Q ⟨I, m, l, c, R, L, A⟩ =>
  ⟨I, m, l, c, R, L, After.mono (After.bind (rep := rA X.K) A) fun v1 H1 ⟨I1, m1, c1, d1, E1, R1, p1, A1⟩ => by
    have p1 : Reps X.K I1 m1 v1 d1 := p1
    match d1, p1 with
    | [x, y], .cons hx (.cons hy .nil) =>
      have A2 : After (rW X.K) X.K I1 m1 H1 (fun cls dd H' => W cls dd σ H') Q (if (seqW x c1).isSome = true ∧ (seqW y c1).isSome = true then .ok (zipW x y) c1 else .stuck) := A1
      by_cases hs : (seqW x c1).isSome = true ∧ (seqW y c1).isSome = true
      · rw [if_pos hs] at A2
        obtain ⟨dx, ex⟩ := Option.isSome_iff_exists.mp hs.1
        obtain ⟨dy, ey⟩ := Option.isSome_iff_exists.mp hs.2
        obtain ⟨s1, rfl, f1⟩ := seqW_src (H := H1) hx ex
        obtain ⟨s2, rfl, f2⟩ := seqW_src (H := H1) hy ey
        obtain ⟨vs, i1, _⟩ := f1 I1 H1 m1 c1 dx (Same.refl _) (Pre.refl _) R1 ex
        obtain ⟨us, i2, _⟩ := f2 I1 H1 m1 c1 dy (Same.refl _) (Pre.refl _) R1 ey
        exact ⟨s1, s2, vs, us, rfl, i1, i2, A2.here R1 (walks_zip f1 f2)⟩
      · rw [if_neg hs] at A2; exact A2.elim
    | [], _ => exact A1.elim
    | [_], _ => exact A1.elim
    | _ :: _ :: _ :: _, _ => exact A1.elim⟩
def enumW (x : D) : Wk := fun i c => match seqW x c with
  | some xs => match xs[i]? with
    | some a => some (some (.tup [.int (i : Nat), a]))
    | none => if i = xs.length then some none else none
  | none => none
theorem walks_enum {K : PySem.W.Frag} {I : Hp} {m : List Addr} {x : D} {s1 : Sr} (h1 : ∀ (I' H' : Hp) (m' : List Addr) (c' : Cs) (ds : List D), Same I I' → Pre m m' → Rel K I' H' m' c' → seqW x c' = some ds → ∃ vs, s1.Items K H' vs ∧ Reps K I' m' vs ds) : WalksW K I m (IteG K s1) (enumW x) := fun i I' H m' c s p R => by
  unfold enumW
  cases q1 : seqW x c with
  | none => exact ⟨fun d e => by simp at e, fun e => by simp at e⟩
  | some xs =>
    obtain ⟨vs, i1, r1⟩ := h1 I' H m' c xs s p R q1
    cases qa : xs[i]? with
    | none =>
      simp only [qa]
      refine ⟨fun d e => by split at e <;> simp at e, fun e => ?_⟩
      by_cases hle : i = xs.length
      · exact ⟨vs, i1, by rw [r1.length]; exact hle⟩
      · rw [if_neg hle] at e; cases e
    | some a =>
      simp only [qa]
      refine ⟨fun d e => ?_, fun e => by simp at e⟩
      have e : D.tup [.int (i : Nat), a] = d := by simpa using e
      subst e
      obtain ⟨va, hva, pa⟩ := r1.get qa
      refine ⟨⟨vs, va, i1, hva⟩, fun z H' yl => ?_⟩
      obtain ⟨T, x', rfl, hT, rfl, f1⟩ := yl
      have e1 := f1 vs i1
      rw [hva] at e1; cases e1
      obtain ⟨I2, g1, g2, g3⟩ := new_tup R hT (.cons (.int (i : Nat)) (.cons pa .nil))
      exact ⟨I2, g1, g2, g3⟩
def kEnum (t : MA) : MK := fun l c => (t l c).bind fun xs c1 => match xs with
  | [x] => if (seqW x c1).isSome = true then .ok (enumW x) c1 else .stuck
  | _ => .stuck
theorem mk_enum {X : Cx} {W : WX} {tg it : Expr} {ga : MA} (h : PI X tg it (iEnumG X.K (rdA X.K W ga))) : PI X tg it (rdK X.K W (kEnum ga)) := PIi h fun σ H Q ⟨I, m, l, c, R, L, A⟩ =>
  ⟨I, m, l, c, R, L, After.mono (After.bind (rep := rA X.K) A) fun v1 H1 ⟨I1, m1, c1, d1, E1, R1, p1, A1⟩ => by
    have p1 : Reps X.K I1 m1 v1 d1 := p1
    match d1, p1 with
    | [x], .cons hx .nil =>
      have A2 : After (rW X.K) X.K I1 m1 H1 (fun cls dd H' => W cls dd σ H') Q (if (seqW x c1).isSome = true then .ok (enumW x) c1 else .stuck) := A1
      by_cases hs : (seqW x c1).isSome = true
      · rw [if_pos hs] at A2
        obtain ⟨dx, ex⟩ := Option.isSome_iff_exists.mp hs
        obtain ⟨s1, rfl, f1⟩ := seqW_src (H := H1) hx ex
        obtain ⟨vs, i1, _⟩ := f1 I1 H1 m1 c1 dx (Same.refl _) (Pre.refl _) R1 ex
        exact ⟨s1, vs, rfl, i1, A2.here R1 (walks_enum f1)⟩
      · rw [if_neg hs] at A2; exact A2.elim
    | [], _ => exact A1.elim
    | _ :: _ :: _, _ => exact A1.elim⟩
end L2.Mi

/-! x != y by an own ==; str(x) by an own __str__ -/
namespace L2.Mi
open PySem PySem.Spec PyProof.Rows L2

section
variable {X : Cx} {W : WX} {e o a b : Expr} {es : List Expr} {fa fb fo : ME} {ga : MA} {ns : List Str} {pos p : Pos} {k : Nat} {tbl : Tbl} {mm : Str} {g0 : D → D → Cs → R D}
end
end L2.Mi

/-! plain reasoning: cells that only grow, walks over typed lists, own objects -/
namespace L2.Mi
open PySem PySem.Spec PyProof.Rows L2

/-- the cells of c stand at the head of c' -/
def Pfx (c c' : Cs) : Prop := ∃ e, c' = c ++ e
theorem Pfx.refl (c : Cs) : Pfx c c := ⟨[], by simp⟩
theorem Pfx.trans {a b c : Cs} (h : Pfx a b) (g : Pfx b c) : Pfx a c := by
  obtain ⟨e, rfl⟩ := h; obtain ⟨f, rfl⟩ := g
  exact ⟨e ++ f, by simp⟩
theorem Pfx.app {a b : Cs} (h : Pfx a b) (x : Cs) : Pfx a (b ++ x) := h.trans ⟨x, rfl⟩
theorem Pfx.one (c x : Cs) : Pfx c (c ++ x) := ⟨x, rfl⟩
theorem Pfx.get {c c' : Cs} {k : Nat} {x : Cell} (h : Pfx c c') (e : c[k]? = some x) : c'[k]? = some x := by
  obtain ⟨f, rfl⟩ := h
  rw [List.getElem?_append_left (List.getElem?_eq_some_iff.mp e).1]
  exact e
theorem Pfx.at {c c' : Cs} (h : Pfx c c') {k : Nat} (hk : k < c.length) : c'[k]? = c[k]? := by
  obtain ⟨f, rfl⟩ := h
  exact List.getElem?_append_left hk
theorem Pfx.len {c c' : Cs} (h : Pfx c c') : c.length ≤ c'.length := by obtain ⟨f, rfl⟩ := h; simp
/-- a cell above the first ones is set -/
theorem Pfx.set {c c' : Cs} (h : Pfx c c') {k : Nat} (hk : c.length ≤ k) (x : Cell) : Pfx c (c'.set k x) := by
  obtain ⟨f, rfl⟩ := h
  exact ⟨f.set (k - c.length) x, by rw [List.set_append_right _ _ hk]⟩
theorem Ok.nox {α : Type} {r : R α} {Q : α → Cs → Prop} (h : Ok r Q) : Ok r.nox Q := by
  obtain ⟨a, c, rfl, q⟩ := h
  exact ⟨a, c, rfl, q⟩
theorem Ok.eq {α : Type} {r : R α} {d : α} {c : Cs} (h : Ok r fun x c' => x = d ∧ c' = c) : r = .ok d c := by
  obtain ⟨a, c', e, rfl, rfl⟩ := h
  exact e

/-! ### comprehensions over typed lists -/
section
variable {α : Type} {g : MG} {t : MT} {e : ME} {l lw : Ls} {c c0 : Cs} {Q : D → Cs → Prop}
/-- .. nothing is changed -/
theorem ok_lcT {it : MK} {js : List Nat} (xs : List α) (enc F : α → D) (P : α → Bool) (hl : xs.length ≤ 1000000)
    (hit : Ok (it l c) fun w c1 => c1 = c ∧ ∀ i, i ≤ xs.length → w i c = some (xs.map enc)[i]?)
    (h : ∀ a ∈ xs, Ok (g (enc a) (wipeL l js) c) fun l1 c1 => c1 = c ∧ Ok (t l1 c) fun k c2 => k = P a ∧ c2 = c ∧ (P a = true → Ok (e l1 c) fun d c3 => d = F a ∧ c3 = c))
    (q : Q (.lst ((xs.filter P).map F)) c) : Ok (mLcW it js g t e l c) Q := by
  have hz : sizeLine = 16777216 := sizeLine_eq
  refine Ok.bind (hit.mono fun w c1 ⟨p1, hw⟩ => ?_)
  subst p1
  have go : ∀ (k n i : Nat) (acc : List D), xs.length - i = k → i ≤ xs.length → k < n → acc.length + k ≤ sizeLine → compW g t e (wipeL l js) w n i acc c1 = .ok (acc ++ ((xs.drop i).filter P).map F) c1 := by
    intro k
    induction k with
    | zero =>
      intro n i acc hk hi hn hl
      cases n with
      | zero => omega
      | succ n =>
        unfold compW
        rw [hw i (by omega), List.getElem?_eq_none (by simp; omega), List.drop_eq_nil_of_le (by omega)]
        simp
    | succ k ih =>
      intro n i acc hk hi hn hl
      cases n with
      | zero => omega
      | succ n =>
        have hi : i < xs.length := by omega
        obtain ⟨l1, c1', e1, rfl, kb, c2, e2, hkb, rfl, h3⟩ := h xs[i] (List.getElem_mem hi)
        have hd : xs.drop i = xs[i] :: xs.drop (i + 1) := List.drop_eq_getElem_cons hi
        unfold compW
        rw [hw i (by omega), List.getElem?_map, List.getElem?_eq_getElem hi]
        simp only [Option.map_some, e1, R.nox_ok, R.bind_ok, e2]
        cases qq : P xs[i] with
        | true =>
          rw [qq] at hkb
          subst hkb
          obtain ⟨d, c3, e3, rfl, rfl⟩ := h3 qq
          simp only [e3, R.nox_ok, R.bind_ok]
          rw [if_pos (by omega), ih n (i + 1) _ (by omega) (by omega) (by omega) (by simp; omega), hd, List.filter_cons_of_pos qq]
          simp
        | false =>
          rw [qq] at hkb
          subst hkb
          simp only []
          rw [ih n (i + 1) _ (by omega) (by omega) (by omega) (by omega), hd, List.filter_cons_of_neg (by rw [qq]; exact Bool.false_ne_true)]
  exact ⟨_, _, by rw [go xs.length fuelW 0 [] (by omega) (by omega) (by unfold fuelW; omega) (by simp; omega)]; rfl, by simpa using q⟩
theorem filter_all {β : Type} (xs : List β) : xs.filter (fun _ => true) = xs := List.filter_eq_self.mpr fun _ _ => rfl
theorem ok_lcY {it : MK} {js : List Nat} (xs : List α) (enc F : α → D) (hl : xs.length ≤ 1000000)
    (hit : Ok (it l c) fun w c1 => c1 = c ∧ ∀ i, i ≤ xs.length → w i c = some (xs.map enc)[i]?)
    (h : ∀ a ∈ xs, Ok (g (enc a) (wipeL l js) c) fun l1 c1 => c1 = c ∧ Ok (e l1 c) fun d c3 => d = F a ∧ c3 = c)
    (q : Q (.lst (xs.map F)) c) : Ok (mLcW it js g tYesM e l c) Q :=
  ok_lcT xs enc F (fun _ => true) hl hit (fun a ha => (h a ha).mono fun l1 c1 ⟨e1, h1⟩ => ⟨e1, ⟨true, c, rfl, rfl, rfl, fun _ => h1⟩⟩) (by rw [filter_all]; exact q)
/-- a list of items told beforehand, as a walk -/
theorem mLc_fix {it : MI} {js : List Nat} {ds : List D} (hit : it l c = .ok ds c) (hl : ds.length ≤ 1000000) : mLc it js g t e l c = mLcW (kFix it) js g t e l c := by
  unfold mLc mLcW kFix
  rw [hit]
  simp only [R.bind_ok]
  rw [compW_fix ds.length fuelW 0 [] c (by omega) (by unfold fuelW; omega), List.drop_zero]
theorem ok_mlc {it : MI} {js : List Nat} {ds : List D} (hit : it l c = .ok ds c) (hl : ds.length ≤ 1000000) (h : Ok (mLcW (kFix it) js g t e l c) Q) : Ok (mLc it js g t e l c) Q := by rw [mLc_fix hit hl]; exact h
theorem ok_kfix {it : MI} {ds : List D} {QW : Wk → Cs → Prop} (hit : it l c = .ok ds c) (q : QW (fixW ds) c) : Ok (kFix it l c) QW := ⟨_, _, by unfold kFix; rw [hit]; rfl, q⟩
/-- what is walked where nothing can change -/
def treeSeq : D → Option (List D)
  | .lst ds => some ds
  | .ro ds => some ds
  | .tup ds => some ds
  | .str s => some (chrs s)
  | _ => none
theorem wAny_tree {x : D} {ds : List D} (h : treeSeq x = some ds) : wAny x c = .ok (fixW ds) c := by
  cases x <;> first | (cases h; rfl) | cases h
theorem ok_ktree {a : ME} {xs : List α} {enc : α → D} (h : Ok (a l c) fun x c1 => c1 = c ∧ treeSeq x = some (xs.map enc)) : Ok (kAny a l c) fun w c1 => c1 = c ∧ ∀ i, i ≤ xs.length → w i c = some (xs.map enc)[i]? :=
  Ok.bind (h.mono fun x c1 ⟨e, ht⟩ => by subst e; exact ⟨_, _, wAny_tree ht, rfl, fun _ _ => rfl⟩)
theorem rangeL0 (n : Nat) : rangeL 0 n = (List.range n).map fun i => D.int (i : Nat) := by
  unfold rangeL
  refine List.map_congr_left fun i _ => ?_
  rw [Int.zero_add]
theorem small_nat {n : Nat} (h : n ≤ 1000000) : small62 (n : Int) := by
  have e : (2 : Int) ^ 62 = 4611686018427387904 := by decide
  unfold small62
  rw [e]
  omega
theorem r1_eq {t : MA} {n : Nat} (h : Ok (t l c) fun xs c1 => c1 = c ∧ xs = [.int (n : Int)]) (hn : n ≤ 1000000) : iR1 t l c = .ok ((List.range n).map fun i => D.int (i : Nat)) c := by
  have h2 : Ok (iR1 t l c) fun ds c1 => ds = rangeL 0 n ∧ c1 = c := ok_r1 (h.mono fun xs c1 ⟨e1, e2⟩ => ⟨n, e2, small_nat hn, by rw [Int.toNat_natCast], e1⟩)
  rw [h2.eq, rangeL0]
theorem ok_kr1 {t : MA} {n : Nat} {QW : Wk → Cs → Prop} (h : Ok (t l c) fun xs c1 => c1 = c ∧ xs = [.int (n : Int)]) (hn : n ≤ 1000000) (q : QW (fixW ((List.range n).map fun i => D.int (i : Nat))) c) : Ok (kFix (iR1 t) l c) QW :=
  ok_kfix (r1_eq h hn) q
end

/-! ### loops over typed lists -/
section
variable {α : Type} {g : MG} {f : MS} {l : Ls} {c : Cs} {QS : Fl → Cs → Prop}
theorem forD_T {xs : List α} {enc : α → D} (P : List α → Ls → Cs → Prop) (hd : ∀ l c, P [] l c → QS (.nx l) c)
    (ht : ∀ x rest l c, P (x :: rest) l c → Ok (g (enc x) l c) fun l1 c1 => OkS (f l1 c1) fun fl c2 => match fl with
      | .nx l2 => P rest l2 c2
      | .ct l2 => P rest l2 c2
      | .bk l2 => QS (.nx l2) c2
      | .rt d => QS (.rt d) c2) : ∀ (xs : List α) l c, P xs l c → OkS (forD g f (xs.map enc) l c) QS := fun xs l c h =>
  OkS.for (fun ds l c => ∃ ys : List α, ds = ys.map enc ∧ P ys l c) (fun l c ⟨ys, e, p⟩ => by
      cases ys with
      | nil => exact hd l c p
      | cons y ys => simp at e) (fun d ds l c ⟨ys, e, p⟩ => by
      cases ys with
      | nil => simp at e
      | cons y ys =>
        simp only [List.map_cons, List.cons.injEq] at e
        obtain ⟨rfl, rfl⟩ := e
        refine (ht y ys l c p).mono fun l1 c1 h1 => h1.mono fun fl c2 h2 => ?_
        cases fl with
        | nx l2 => exact ⟨ys, rfl, h2⟩
        | ct l2 => exact ⟨ys, rfl, h2⟩
        | bk l2 => exact h2
        | rt d => exact h2) _ _ _ ⟨xs, rfl, h⟩
theorem os_forY {it : MI} (xs : List α) (enc : α → D) (P : List α → Ls → Cs → Prop) (ha : Ok (it l c) fun ds c1 => ds = xs.map enc ∧ P xs l c1)
    (hd : ∀ l c, P [] l c → QS (.nx l) c)
    (ht : ∀ x rest l c, P (x :: rest) l c → Ok (g (enc x) l c) fun l1 c1 => OkS (f l1 c1) fun fl c2 => match fl with
      | .nx l2 => P rest l2 c2
      | .ct l2 => P rest l2 c2
      | .bk l2 => QS (.nx l2) c2
      | .rt d => QS (.rt d) c2) : OkS (sFor it g f l c) QS :=
  os_for (ha.mono fun ds c1 ⟨h1, h2⟩ => by subst h1; exact forD_T (xs := xs) P hd ht xs l c1 h2)
end

/-! ### zip, enumerate over trees -/
section
variable {l : Ls} {c : Cs}
theorem seqW_tree {x : D} {ds : List D} (h : treeSeq x = some ds) (c : Cs) : seqW x c = some ds := by
  cases x <;> first | (cases h; rfl) | cases h
theorem zipW_tree {x y : D} {xs ys : List D} (hx : treeSeq x = some xs) (hy : treeSeq y = some ys) (c : Cs) (i : Nat) (hi : i ≤ (List.zipWith (fun a b => D.tup [a, b]) xs ys).length) :
    zipW x y i c = some (List.zipWith (fun a b => D.tup [a, b]) xs ys)[i]? := by
  unfold zipW
  rw [seqW_tree hx, seqW_tree hy]
  simp only [List.getElem?_zipWith]
  rw [List.length_zipWith] at hi
  cases q1 : xs[i]? with
  | none =>
    have := List.getElem?_eq_none_iff.mp q1
    simp only []
    rw [if_pos (by omega)]
  | some a =>
    cases q2 : ys[i]? with
    | none =>
      have := List.getElem?_eq_none_iff.mp q2
      simp only []
      rw [if_pos (by omega)]
    | some b => rfl
theorem ok_kzip {t : MA} {x y : D} {xs ys : List D} {QW : Wk → Cs → Prop} (h : Ok (t l c) fun ds c1 => ds = [x, y] ∧ treeSeq x = some xs ∧ treeSeq y = some ys ∧ QW (zipW x y) c1) : Ok (kZip t l c) QW := by
  obtain ⟨ds, c1, e, rfl, h1, h2, q⟩ := h
  refine ⟨zipW x y, c1, ?_, q⟩
  show (t l c).bind _ = _
  rw [e]
  show (if (seqW x c1).isSome = true ∧ (seqW y c1).isSome = true then (.ok (zipW x y) c1 : R Wk) else .stuck) = _
  rw [if_pos ⟨by rw [seqW_tree h1]; rfl, by rw [seqW_tree h2]; rfl⟩]
def enumL (xs : List D) : List D := xs.mapIdx fun i a => .tup [.int (i : Nat), a]
end

section
variable {it : MI} {iw : MK} {js : List Nat} {g : MG} {t : MT} {e : ME} {f : MS} {l : Ls} {c : Cs} {Q : D → Cs → Prop} {QS : Fl → Cs → Prop}
theorem at_mul {x y : D} (h : Ok (mulI x y c) Q) : Ok (mulI x y c) Q := h
theorem at_mod {x y : D} (h : Ok (modI x y c) Q) : Ok (modI x y c) Q := h
theorem at_div {x y : D} (h : Ok (divI x y c) Q) : Ok (divI x y c) Q := h
theorem at_pow {x y : D} (h : Ok (powI x y c) Q) : Ok (powI x y c) Q := h
theorem at_lc (h : Ok (mLc it js g t e l c) Q) : Ok (mLc it js g t e l c) Q := h
theorem at_lcW (h : Ok (mLcW iw js g t e l c) Q) : Ok (mLcW iw js g t e l c) Q := h
theorem at_for (h : OkS (sFor it g f l c) QS) : OkS (sFor it g f l c) QS := h
theorem at_forW (h : OkS (sForW iw g f l c) QS) : OkS (sForW iw g f l c) QS := h
end
/-! ### own objects -/
section
variable {o a : ME} {t : MA} {l : Ls} {c : Cs} {Q : D → Cs → Prop} {n mm : Str} {g : List D → Cs → R D} {g0 : D → D → Cs → R D} {x y : D} {fs : List (Str × D)}
end
end L2.Mi

/-! a, b, .. = a list -/
namespace L2.Mi
open PySem PySem.Spec PyProof.Rows L2
def gOr (g1 g2 : TG) : TG := fun v σ H Q => g1 v σ H Q ∨ g2 v σ H Q
theorem pg_or {X : Cx} {e : Expr} {g1 g2 : TG} (h1 : PG X e g1) (h2 : PG X e g2) : PG X e (gOr g1 g2) := ⟨fun pins s σ H v u Q I r hw => hw.elim (h1.run pins s σ H v u Q I r) (h2.run pins s σ H v u Q I r)⟩
def gTL (js : List Nat) : MG := fun d l c => match d with
  | .tup ds => if ds.length = js.length then gNs js ds l c else .stuck
  | d => match lstOf d c with
    | some ds => if ds.length = js.length then gNs js ds l c else .stuck
    | none => .stuck
theorem lstOf_at {K : PySem.W.Frag} {I H : Hp} {m : List Addr} {c : Cs} {v : V} {d : D} {ds : List D} (R : Rel K I H m c) (p : Rep K I m v d) (h : lstOf d c = some ds) : ∃ a vs, v = .ref a ∧ SqL K H a vs ∧ Reps K I m vs ds := by
  cases p with
  | @lst a vs ds' h1 r => cases h; exact ⟨a, vs, rfl, SqL.of (R.same _ _ h1), r⟩
  | @ro a vs ds' h1 r => first | (cases h; exact ⟨a, vs, rfl, R.same.seq h1, r⟩) | cases h
  | @ref k a hk =>
    unfold lstOf at h
    cases q : c[k]? with
    | none => simp only [q] at h; cases h
    | some x =>
      simp only [q] at h
      have hc := R.cell k a x hk q
      cases x with
      | lst xs => cases h; obtain ⟨_, vs, h1, h2⟩ := hc; exact ⟨a, vs, rfl, SqL.of h1, h2⟩
      | frz d =>
        cases d with
        | lst xs =>
          first
          | (cases h
             obtain ⟨_, hr⟩ := hc
             cases hr with
             | lst h1 h2 => exact ⟨_, _, rfl, SqL.of (R.same _ _ h1), h2⟩)
          | cases h
        | _ => cases h
      | _ => cases h
  | _ => cases h
theorem mg_tupL {X : Cx} {W : WX} {es : List Expr} {k : Nat} {pos : Pos} {js : List Nat} (hc : X.calm = true) (h : PGs X es (rdGs X.K W (gNs js)))
    (hn : (assignEach es X.env).length = js.length := by rfl) (hst : (assignEach es X.env).findIdx? (·.1) = none := by rfl) : PG X (.Tuple es k pos) (rdG X.K W (gTL js)) :=
  PGi (pg_or (pg_tup hc h hn hst) (pg_unl hc h hn hst)) fun v σ H Q ⟨I, m, l, c, d, R, L, p, A⟩ => by
    have lst : ∀ d', d = d' → (match lstOf d' c with
        | some ds => if ds.length = js.length then gNs js ds l c else .stuck
        | none => .stuck) = gTL js d l c → gOr (gTup X.K js.length (rdGs X.K W (gNs js))) (gUnl X.K js.length (rdGs X.K W (gNs js))) v σ H Q := fun d' e hg => by
      subst e
      rw [← hg] at A
      cases q : lstOf d c with
      | none => rw [q] at A; exact A.elim
      | some ds =>
        rw [q] at A
        obtain ⟨a, vs, rfl, h1, r⟩ := lstOf_at R p q
        by_cases hl : ds.length = js.length
        · have A2 : After (rL X.K) X.K I m H (fun cls dd H' => W cls dd σ H') Q (if ds.length = js.length then gNs js ds l c else .stuck) := A
          rw [if_pos hl] at A2
          exact .inr ⟨a, vs, rfl, h1, r.length.trans hl, I, m, l, c, ds, R, L, r, A2⟩
        · have A2 : After (rL X.K) X.K I m H (fun cls dd H' => W cls dd σ H') Q (if ds.length = js.length then gNs js ds l c else .stuck) := A
          rw [if_neg hl] at A2
          exact A2.elim
    cases d with
    | tup ds =>
      cases p with
      | @tup a vs ds h r =>
        by_cases hl : ds.length = js.length
        · have A2 : After (rL X.K) X.K I m H (fun cls dd H' => W cls dd σ H') Q (if ds.length = js.length then gNs js ds l c else .stuck) := A
          rw [if_pos hl] at A2
          exact .inl ⟨a, vs, rfl, sqT_same R.same h, r.length.trans hl, I, m, l, c, ds, R, L, r, A2⟩
        · have A2 : After (rL X.K) X.K I m H (fun cls dd H' => W cls dd σ H') Q (if ds.length = js.length then gNs js ds l c else .stuck) := A
          rw [if_neg hl] at A2
          exact A2.elim
    | _ => exact lst _ rfl rfl
end L2.Mi

namespace L2.Mi
open PySem PySem.Spec PyProof.Rows L2
/-! comprehensions whose list is changed later: cells -/
theorem Rel.pushA {K : PySem.W.Frag} {I H : Hp} {m : List Addr} {c : Cs} (r : Rel K I H m c) {p : Addr} {vs : List V} {ds : List D} (hH : H p = some (.lst vs)) (hI : I p = none) (nm : p ∉ m) (q : Reps K I m vs ds) : Rel K I H (m ++ [p]) (c ++ [.lst ds]) := by
  have hp := pre_app m p
  refine ⟨r.same, by simp [r.len], fun i j a h1 h2 => ?_, fun k a x h1 h2 => ?_, r.tabs.upm (nt_some hH ⟨(fun _ z => nomatch z), (fun _ z => nomatch z)⟩)⟩
  · rcases Nat.lt_or_ge i m.length with hi | hi
    · rcases Nat.lt_or_ge j m.length with hj | hj
      · rw [List.getElem?_append_left hi] at h1
        rw [List.getElem?_append_left hj] at h2
        exact r.nd i j a h1 h2
      · rw [List.getElem?_append_left hi] at h1
        rw [List.getElem?_append_right hj] at h2
        have e : a = p := by
          cases z : j - m.length with
          | zero => rw [z] at h2; simpa using h2.symm
          | succ n => rw [z] at h2; simp at h2
        exact absurd (List.mem_of_getElem? h1) (e ▸ nm)
    · rcases Nat.lt_or_ge j m.length with hj | hj
      · rw [List.getElem?_append_left hj] at h2
        rw [List.getElem?_append_right hi] at h1
        have e : a = p := by
          cases z : i - m.length with
          | zero => rw [z] at h1; simpa using h1.symm
          | succ n => rw [z] at h1; simp at h1
        exact absurd (List.mem_of_getElem? h2) (e ▸ nm)
      · have hi' := (List.getElem?_eq_some_iff.mp h1).1
        have hj' := (List.getElem?_eq_some_iff.mp h2).1
        simp at hi' hj'
        omega
  · rcases Nat.lt_or_ge k m.length with hk | hk
    · rw [List.getElem?_append_left hk] at h1
      rw [List.getElem?_append_left (by rw [← r.len]; exact hk)] at h2
      have q := r.cell k a x h1 h2
      cases x with
      | lst es =>
        obtain ⟨q1, ws, q2, q3⟩ := q
        exact ⟨q1, ws, q2, q3.mono (Same.refl I) hp⟩
      | dct es =>
        obtain ⟨q1, ws, q2, q3⟩ := q
        exact ⟨q1, ws, q2, q3.mono (Same.refl I) hp⟩
      | dT es =>
        obtain ⟨q1, ws, q2, q3⟩ := q
        exact ⟨q1, ws, q2, q3.mono (Same.refl I) hp⟩
      | dTz es => exact q.imp (fun _ y => y.imp fun _ y => ⟨y.1, y.2.mono (Same.refl I) hp⟩)
      | ins C es =>
        obtain ⟨q1, dx, ws, q2, q3, q4, q5, q6⟩ := q
        exact ⟨q1, dx, ws, q2, fun z => by
          rcases List.mem_append.mp z with z | z
          · exact q3 z
          · simp only [List.mem_singleton] at z
            exact ne_of q4 hH (by intro y; cases y) z, q4, q5, q6.mono (Same.refl I) hp⟩
      | frz d => exact ⟨q.1, q.2.mono (Same.refl I) hp⟩
    · have hk' := (List.getElem?_eq_some_iff.mp h1).1
      simp at hk'
      have e : k = m.length := by omega
      subst e
      rw [List.getElem?_append_right (Nat.le_refl _)] at h1
      rw [r.len, List.getElem?_append_right (Nat.le_refl _)] at h2
      simp at h1 h2
      subst h1; subst h2
      exact ⟨hI, vs, hH, q.mono (Same.refl I) hp⟩

def mLcM (it : MI) (js : List Nat) (g : MG) (t : MT) (e : ME) : ME := fun l c => (it l c).bind fun ds c1 => (compD g t e (wipeL l js) ds [] c1).bind fun xs c2 => .ok (.ref c2.length) (c2 ++ [Cell.lst xs])
def mLcMW (it : MK) (js : List Nat) (g : MG) (t : MT) (e : ME) : ME := fun l c => (it l c).bind fun w c1 => (compW g t e (wipeL l js) w fuelW 0 [] c1).bind fun xs c2 => .ok (.ref c2.length) (c2 ++ [Cell.lst xs])
theorem lc_readM {K : PySem.W.Frag} {W : WX} {fi : MI} {g : MG} {ft : MT} {fe : ME} {js : List Nat} {g0 : TG} (good : Good g0 js) (rg : ∀ v σ H Q, rdG K W0 g v σ H Q → g0 v σ H Q) {σ : St} {H : Hp} {Q : VK} (h : rdE K W (mLcM fi js g ft fe) σ H Q) :
    tLc (rdI K W fi) g0 (rdT K W0 ft) (rdE K W0 fe) js σ H Q := by
  obtain ⟨I, m, l, c, R, L, A⟩ := h
  refine ⟨I, m, l, c, R, L, After.mono (After.bind (rep := rI' K) A) fun J H1 ⟨I1, m1, c1, ds, E1, R1, w1, A1⟩ => ?_⟩
  intro Dn hD
  have nI := R1.same.free hD
  have nm := R1.fresh hD
  refine ⟨fun i n H => ∃ I' m' c' acc vs, n = ds.length - i ∧ Ext I1 m1 H1 I' m' H ∧ Rel K I' H m' c' ∧ Reps K I' m' vs acc ∧ H Dn = some (.lst vs) ∧ I' Dn = none ∧ Dn ∉ m' ∧
    After (rD K) K I1 m1 H1 (fun cls dd H' => W cls dd σ H') Q ((compD g ft fe (wipeL l js) (ds.drop i) acc c').bind fun xs c2 => .ok (.ref c2.length) (c2 ++ [Cell.lst xs])),
    ⟨_, I1, m1, c1, [], [], rfl, ⟨Same.refl _, Pre.refl _, fun b o h1 hT h2 h3 => ⟨by rw [upd_ne (ne_of_none h1 hD)]; exact h1, h2, h3⟩⟩, R1.side (vs := []) (.inl hD) nI nm, .nil, upd_same, nI, nm, A1⟩, ?_⟩
  rintro i n H' ⟨I', m', c', acc, vs, rfl, E', R', p', hH', hI', hm', A'⟩
  obtain ⟨wg, ws⟩ := w1 i I' H' m' c' E'.same E'.pre R'
  cases q : ds[i]? with
  | none =>
    have hi : ds.length ≤ i := List.getElem?_eq_none_iff.mp q
    rw [List.drop_eq_nil_of_le hi] at A'
    refine .inl ⟨ws hi, ?_⟩
    have RP := R'.pushA hH' hI' hm' p'
    refine A' I' (m' ++ [Dn]) H' (.ref Dn) ⟨E'.same, E'.pre.trans (pre_app m' Dn), fun b o h1 hT h2 h3 => ?_⟩ RP (Rep.ref ?_)
    · obtain ⟨q1, q2, q3⟩ := E'.fr b o h1 hT h2 h3
      exact ⟨q1, q2, fun hm => (List.mem_append.mp hm).elim q3 fun hm => ne_of_none h1 hD (List.mem_singleton.mp hm)⟩
    · rw [← R'.len, List.getElem?_append_right (Nat.le_refl _), Nat.sub_self]
      rfl
  | some d =>
    have hi : i < ds.length := (List.getElem?_eq_some_iff.mp q).1
    have hd : ds.drop i = d :: ds.drop (i + 1) := by
      rw [List.drop_eq_getElem_cons hi, (List.getElem?_eq_some_iff.mp q).2]
    rw [hd] at A'
    obtain ⟨go, yl⟩ := wg d q
    refine .inr ⟨go, fun H2 => ∃ I2 m2 c2 acc2 vs2, Ext I1 m1 H1 I2 m2 H2 ∧ Rel K I2 H2 m2 c2 ∧ Reps K I2 m2 vs2 acc2 ∧ H2 Dn = some (.lst vs2) ∧ I2 Dn = none ∧ Dn ∉ m2 ∧
      After (rD K) K I1 m1 H1 (fun cls dd H' => W cls dd σ H') Q ((compD g ft fe (wipeL l js) (ds.drop (i + 1)) acc2 c2).bind fun xs c2 => .ok (.ref c2.length) (c2 ++ [Cell.lst xs])),
      fun H2 ⟨I2, m2, c2, acc2, vs2, e2, r2, pp2, h2, i2, n2, a2⟩ => ⟨ds.length - (i + 1), by omega, I2, m2, c2, acc2, vs2, rfl, e2, r2, pp2, h2, i2, n2, a2⟩, fun x H3 y => ?_⟩
    obtain ⟨I3, E3, R3, p3⟩ := yl x H3 y
    have Lw := ((locs_wipe L js).ext E1).ext (E'.trans E3)
    have A3 : After (rD K) K I1 m1 H1 (fun cls dd H' => W cls dd σ H') Q (((g d (wipeL l js) c').nox.bind fun l1 c1 => (ft l1 c1).nox.bind fun k c2 => match k with
      | true => (fe l1 c2).nox.bind fun x c3 => if acc.length < sizeLine then compD g ft fe (wipeL l js) (ds.drop (i + 1)) (acc ++ [x]) c3 else .stuck
      | false => compD g ft fe (wipeL l js) (ds.drop (i + 1)) acc c2).bind fun xs c2 => .ok (.ref c2.length) (c2 ++ [Cell.lst xs])) := A'
    have asc : ∀ {α β γ : Type} (r : Mi.R α) (f : α → Cs → Mi.R β) (h : β → Cs → Mi.R γ), (r.bind f).bind h = r.bind fun a c => (f a c).bind h := fun r f h => by cases r <;> rfl
    rw [asc] at A3
    refine good x σ H3 _ (rg _ _ _ _ ⟨I3, m', wipeL l js, c', d, R3, Lw, p3, After.mono (After.nox (After.bindAt (rep := rL K) A3 (E'.trans E3))) fun σ4 H4 ⟨I4, m4, c4, l4, E4, R4, L4, A4⟩ => ?_⟩)
    rw [asc] at A4
    have EE := (E'.trans E3).trans E4
    refine ⟨I4, m4, l4, c4, R4, L4, After.mono (After.nox (After.bindAt (rep := rB) A4 EE)) fun b H5 ⟨I5, m5, c5, b5, E5, R5, p5, A5⟩ => ?_⟩
    cases (show b = b5 from p5)
    have F5 := (E3.trans E4).trans E5
    cases b with
    | false =>
      obtain ⟨f1, f2, f3⟩ := F5.fr _ _ hH' ⟨⟨(fun _ z => nomatch z), (fun _ z => nomatch z)⟩, (fun _ z => nomatch z)⟩ hI' hm'
      exact iteF ⟨I5, m5, c5, acc, vs, EE.trans E5, R5, p'.ext F5, f1, f2, f3, A5⟩
    | true =>
      have A6 : After (rD K) K I1 m1 H1 (fun cls dd H' => W cls dd σ H') Q (((fe l4 c5).nox.bind fun x c3 => if acc.length < sizeLine then compD g ft fe (wipeL l js) (ds.drop (i + 1)) (acc ++ [x]) c3 else .stuck).bind fun xs c2 => .ok (.ref c2.length) (c2 ++ [Cell.lst xs])) := A5
      rw [asc] at A6
      have L4' : Locs K I4 m4 σ4 l4 := L4
      refine iteT ⟨I5, m5, l4, c5, R5, L4'.ext E5, After.mono (After.nox (After.bindAt (rep := rD K) A6 (EE.trans E5))) fun z H7 ⟨I7, m7, c7, d7, E7, R7, p7, A7⟩ => ?_⟩
      have F7 := F5.trans E7
      obtain ⟨f1, f2, f3⟩ := F7.fr _ _ hH' ⟨⟨(fun _ z => nomatch z), (fun _ z => nomatch z)⟩, (fun _ z => nomatch z)⟩ hI' hm'
      by_cases hz : acc.length < sizeLine
      · have A8 : After (rD K) K I1 m1 H1 (fun cls dd H' => W cls dd σ H') Q ((if acc.length < sizeLine then compD g ft fe (wipeL l js) (ds.drop (i + 1)) (acc ++ [d7]) c7 else .stuck).bind fun xs c2 => .ok (.ref c2.length) (c2 ++ [Cell.lst xs])) := A7
        rw [if_pos hz] at A8
        refine ⟨vs, f1, by rw [p'.length]; exact hz, I7, m7, c7, acc ++ [d7], vs ++ [z], ?_, R7.side (.inr f1) f2 f3, (p'.ext F7).append (.cons p7 .nil), upd_same, f2, f3, A8⟩
        have G := (EE.trans E5).trans E7
        refine ⟨G.same, G.pre, fun b o h1 hT h2 h3 => ?_⟩
        obtain ⟨q1, q2, q3⟩ := G.fr b o h1 hT h2 h3
        exact ⟨by rw [upd_ne (ne_of_none h1 hD)]; exact q1, q2, q3⟩
      · have A8 : After (rD K) K I1 m1 H1 (fun cls dd H' => W cls dd σ H') Q ((if acc.length < sizeLine then compD g ft fe (wipeL l js) (ds.drop (i + 1)) (acc ++ [d7]) c7 else .stuck).bind fun xs c2 => .ok (.ref c2.length) (c2 ++ [Cell.lst xs])) := A7
        rw [if_neg hz] at A8
        exact A8.elim

theorem lc_readMW {K : PySem.W.Frag} {W : WX} {fi : MK} {g : MG} {ft : MT} {fe : ME} {js : List Nat} {g0 : TG} (good : Good g0 js) (rg : ∀ v σ H Q, rdG K W0 g v σ H Q → g0 v σ H Q) {σ : St} {H : Hp} {Q : VK} (h : rdE K W (mLcMW fi js g ft fe) σ H Q) :
    tLc (rdK K W fi) g0 (rdT K W0 ft) (rdE K W0 fe) js σ H Q := by
  obtain ⟨I, m, l, c, R, L, A⟩ := h
  refine ⟨I, m, l, c, R, L, After.mono (After.bind (rep := rW K) A) fun J H1 ⟨I1, m1, c1, w, E1, R1, w1, A1⟩ => ?_⟩
  intro Dn hD
  have nI := R1.same.free hD
  have nm := R1.fresh hD
  refine ⟨fun i n H => ∃ I' m' c' acc vs, Ext I1 m1 H1 I' m' H ∧ Rel K I' H m' c' ∧ Reps K I' m' vs acc ∧ H Dn = some (.lst vs) ∧ I' Dn = none ∧ Dn ∉ m' ∧
    After (rD K) K I1 m1 H1 (fun cls dd H' => W cls dd σ H') Q ((compW g ft fe (wipeL l js) w n i acc c').bind fun xs c2 => .ok (.ref c2.length) (c2 ++ [Cell.lst xs])),
    ⟨_, I1, m1, c1, [], [], ⟨Same.refl _, Pre.refl _, fun b o h1 hT h2 h3 => ⟨by rw [upd_ne (ne_of_none h1 hD)]; exact h1, h2, h3⟩⟩, R1.side (vs := []) (.inl hD) nI nm, .nil, upd_same, nI, nm, A1⟩, ?_⟩
  rintro i n H' ⟨I', m', c', acc, vs, E', R', p', hH', hI', hm', A'⟩
  obtain ⟨wg, ws⟩ := w1 i I' H' m' c' E'.same E'.pre R'
  have asc : ∀ {α β γ : Type} (r : Mi.R α) (f : α → Cs → Mi.R β) (h : β → Cs → Mi.R γ), (r.bind f).bind h = r.bind fun a c => (f a c).bind h := fun r f h => by cases r <;> rfl
  cases n with
  | zero => exact A'.elim
  | succ n =>
    have A' : After (rD K) K I1 m1 H1 (fun cls dd H' => W cls dd σ H') Q ((match w i c' with
      | none => .stuck
      | some none => .ok acc c'
      | some (some d) => (g d (wipeL l js) c').nox.bind fun l1 c1 => (ft l1 c1).nox.bind fun k c2 => match k with
        | true => (fe l1 c2).nox.bind fun x c3 => if acc.length < sizeLine then compW g ft fe (wipeL l js) w n (i + 1) (acc ++ [x]) c3 else .stuck
        | false => compW g ft fe (wipeL l js) w n (i + 1) acc c2 : Mi.R (List D)).bind fun xs c2 => .ok (.ref c2.length) (c2 ++ [Cell.lst xs])) := A'
    cases q : w i c' with
    | none => rw [q] at A'; exact A'.elim
    | some od =>
      rw [q] at A'
      cases od with
      | none =>
        refine .inl ⟨ws q, ?_⟩
        have RP := R'.pushA hH' hI' hm' p'
        refine A' I' (m' ++ [Dn]) H' (.ref Dn) ⟨E'.same, E'.pre.trans (pre_app m' Dn), fun b o h1 hT h2 h3 => ?_⟩ RP (Rep.ref ?_)
        · obtain ⟨q1, q2, q3⟩ := E'.fr b o h1 hT h2 h3
          exact ⟨q1, q2, fun hm => (List.mem_append.mp hm).elim q3 fun hm => ne_of_none h1 hD (List.mem_singleton.mp hm)⟩
        · rw [← R'.len, List.getElem?_append_right (Nat.le_refl _), Nat.sub_self]
          rfl
      | some d =>
        obtain ⟨go, yl⟩ := wg d q
        refine .inr ⟨go, fun H2 => ∃ I2 m2 c2 acc2 vs2, Ext I1 m1 H1 I2 m2 H2 ∧ Rel K I2 H2 m2 c2 ∧ Reps K I2 m2 vs2 acc2 ∧ H2 Dn = some (.lst vs2) ∧ I2 Dn = none ∧ Dn ∉ m2 ∧
          After (rD K) K I1 m1 H1 (fun cls dd H' => W cls dd σ H') Q ((compW g ft fe (wipeL l js) w n (i + 1) acc2 c2).bind fun xs c2 => .ok (.ref c2.length) (c2 ++ [Cell.lst xs])),
          fun H2 ⟨I2, m2, c2, acc2, vs2, e2, r2, pp2, h2, i2, n2, a2⟩ => ⟨n, Nat.lt_succ_self n, I2, m2, c2, acc2, vs2, e2, r2, pp2, h2, i2, n2, a2⟩, fun x H3 y => ?_⟩
        obtain ⟨I3, E3, R3, p3⟩ := yl x H3 y
        have Lw := ((locs_wipe L js).ext E1).ext (E'.trans E3)
        have A3 : After (rD K) K I1 m1 H1 (fun cls dd H' => W cls dd σ H') Q (((g d (wipeL l js) c').nox.bind fun l1 c1 => (ft l1 c1).nox.bind fun k c2 => match k with
          | true => (fe l1 c2).nox.bind fun x c3 => if acc.length < sizeLine then compW g ft fe (wipeL l js) w n (i + 1) (acc ++ [x]) c3 else .stuck
          | false => compW g ft fe (wipeL l js) w n (i + 1) acc c2).bind fun xs c2 => .ok (.ref c2.length) (c2 ++ [Cell.lst xs])) := A'
        rw [asc] at A3
        refine good x σ H3 _ (rg _ _ _ _ ⟨I3, m', wipeL l js, c', d, R3, Lw, p3, After.mono (After.nox (After.bindAt (rep := rL K) A3 (E'.trans E3))) fun σ4 H4 ⟨I4, m4, c4, l4, E4, R4, L4, A4⟩ => ?_⟩)
        rw [asc] at A4
        have EE := (E'.trans E3).trans E4
        refine ⟨I4, m4, l4, c4, R4, L4, After.mono (After.nox (After.bindAt (rep := rB) A4 EE)) fun b H5 ⟨I5, m5, c5, b5, E5, R5, p5, A5⟩ => ?_⟩
        cases (show b = b5 from p5)
        have F5 := (E3.trans E4).trans E5
        cases b with
        | false =>
          obtain ⟨f1, f2, f3⟩ := F5.fr _ _ hH' ⟨⟨(fun _ z => nomatch z), (fun _ z => nomatch z)⟩, (fun _ z => nomatch z)⟩ hI' hm'
          exact iteF ⟨I5, m5, c5, acc, vs, EE.trans E5, R5, p'.ext F5, f1, f2, f3, A5⟩
        | true =>
          have A6 : After (rD K) K I1 m1 H1 (fun cls dd H' => W cls dd σ H') Q (((fe l4 c5).nox.bind fun x c3 => if acc.length < sizeLine then compW g ft fe (wipeL l js) w n (i + 1) (acc ++ [x]) c3 else .stuck).bind fun xs c2 => .ok (.ref c2.length) (c2 ++ [Cell.lst xs])) := A5
          rw [asc] at A6
          have L4' : Locs K I4 m4 σ4 l4 := L4
          refine iteT ⟨I5, m5, l4, c5, R5, L4'.ext E5, After.mono (After.nox (After.bindAt (rep := rD K) A6 (EE.trans E5))) fun z H7 ⟨I7, m7, c7, d7, E7, R7, p7, A7⟩ => ?_⟩
          have F7 := F5.trans E7
          obtain ⟨f1, f2, f3⟩ := F7.fr _ _ hH' ⟨⟨(fun _ z => nomatch z), (fun _ z => nomatch z)⟩, (fun _ z => nomatch z)⟩ hI' hm'
          by_cases hz : acc.length < sizeLine
          · have A8 : After (rD K) K I1 m1 H1 (fun cls dd H' => W cls dd σ H') Q ((if acc.length < sizeLine then compW g ft fe (wipeL l js) w n (i + 1) (acc ++ [d7]) c7 else .stuck).bind fun xs c2 => .ok (.ref c2.length) (c2 ++ [Cell.lst xs])) := A7
            rw [if_pos hz] at A8
            refine ⟨vs, f1, by rw [p'.length]; exact hz, I7, m7, c7, acc ++ [d7], vs ++ [z], ?_, R7.side (.inr f1) f2 f3, (p'.ext F7).append (.cons p7 .nil), upd_same, f2, f3, A8⟩
            have G := (EE.trans E5).trans E7
            refine ⟨G.same, G.pre, fun b o h1 hT h2 h3 => ?_⟩
            obtain ⟨q1, q2, q3⟩ := G.fr b o h1 hT h2 h3
            exact ⟨by rw [upd_ne (ne_of_none h1 hD)]; exact q1, q2, q3⟩
          · have A8 : After (rD K) K I1 m1 H1 (fun cls dd H' => W cls dd σ H') Q ((if acc.length < sizeLine then compW g ft fe (wipeL l js) w n (i + 1) (acc ++ [d7]) c7 else .stuck).bind fun xs c2 => .ok (.ref c2.length) (c2 ++ [Cell.lst xs])) := A7
            rw [if_neg hz] at A8
            exact A8.elim

end L2.Mi
namespace PySem
section
variable {prog : Program} {w : World} {A : Around} {E : Value → Shared → Prop} {s : Shared} {l : Addr} {xs : Array (Int × Tok)}
theorem iter_intTuple {Q : Value → Shared → Prop} (hl : s.heap.IsTuple l (intItems xs))
    (h : ∀ s₂ : Shared, s₂ = { s with heap := s.heap.push { cls := .type "tuple_iterator", data := .fields #[.ref l, .int 0 0] } } →
      (s₂.heap.IsTupleIter s.heap.objs.size l 0 ∧ s₂.heap.IsTuple l (intItems xs)) → (∀ b ∈ [s.heap.objs.size, l], b < s₂.heap.objs.size) → l ≠ s.heap.objs.size → Q (.ref s.heap.objs.size) s₂) :
    wpAny (model prog w) A (pyIter (.ref l)) Q E s := by
  have hlt : l < s.heap.objs.size := by obtain ⟨_, e, _⟩ := hl; exact Heap.lt_size e
  refine wpAny_pyIter_tuple hl (h _ rfl ⟨⟨_, Heap.get?_push_size _ rfl, rfl, rfl⟩, hl.push _⟩ (fun b hb => ?_) (Nat.ne_of_lt hlt))
  show b < (s.heap.push _).objs.size
  rw [Heap.size_push]
  rcases List.mem_cons.mp hb with rfl | hb
  · exact Nat.lt_succ_self _
  · rcases List.mem_cons.mp hb with rfl | hb
    · exact Nat.lt_succ_of_lt hlt
    · cases hb
theorem old_keptT {h' : Heap} (hk : ∀ b o, b ∉ [s.heap.objs.size] → (s.heap.push { cls := .type "tuple_iterator", data := .fields #[.ref l, .int 0 0] }).get? b = some o → h'.get? b = some o) :
    ∀ b o, s.heap.get? b = some o → h'.get? b = some o := fun b o e => by
  refine hk b o (fun hm => ?_) (Heap.get?_push_of_some _ e)
  rcases List.mem_cons.mp hm with e1 | hm
  · exact absurd (e1 ▸ Heap.lt_size e) (Nat.lt_irrefl _)
  · cases hm
theorem max_intTuple {Q : Value → Shared → Prop} (hh : A.handled = none) (hl : s.heap.IsTuple l (intItems xs)) (hne : 0 < xs.size)
    (h : ∀ v h' tk, (intItems xs)[argBest (fun i j => decide (numAt xs i > numAt xs j)) (xs.size - 1)]? = some v → (∀ b o, s.heap.get? b = some o → h'.get? b = some o) → Q v { s with heap := h', toks := tk }) :
    wpAny (model prog w) A (call (.builtin "max") [.ref l]) Q E s := by
  refine call_max_walk (iter_intTuple hl fun s₂ e st hfp hlI => ?_)
  subst e
  refine ⟨_, _, _, _, _, _, _, rfl, Walks.tuple (A := A.in1) hh _ l hlI (intItems xs), st, hfp, by simpa [intItems] using hne, CmpOf.ints_gt (numAt xs) (fun _ _ => intItems_at), fun v h' tk hP hk => ?_⟩
  exact h v h' tk (by simpa [intItems] using hP) (old_keptT hk)
theorem min_intTuple {Q : Value → Shared → Prop} (hh : A.handled = none) (hl : s.heap.IsTuple l (intItems xs)) (hne : 0 < xs.size)
    (h : ∀ v h' tk, (intItems xs)[argBest (fun i j => decide (numAt xs i < numAt xs j)) (xs.size - 1)]? = some v → (∀ b o, s.heap.get? b = some o → h'.get? b = some o) → Q v { s with heap := h', toks := tk }) :
    wpAny (model prog w) A (call (.builtin "min") [.ref l]) Q E s := by
  refine call_min_walk (iter_intTuple hl fun s₂ e st hfp hlI => ?_)
  subst e
  refine ⟨_, _, _, _, _, _, _, rfl, Walks.tuple (A := A.in1) hh _ l hlI (intItems xs), st, hfp, by simpa [intItems] using hne, CmpOf.ints_lt (numAt xs) (fun _ _ => intItems_at), fun v h' tk hP hk => ?_⟩
  exact h v h' tk (by simpa [intItems] using hP) (old_keptT hk)
theorem sum_intTuple {Q : Value → Shared → Prop} (hh : A.handled = none) (hl : s.heap.IsTuple l (intItems xs))
    (h : ∀ h' tk t', (∀ b o, s.heap.get? b = some o → h'.get? b = some o) → Q (.int (preSum (numAt xs) xs.size) t') { s with heap := h', toks := tk }) :
    wpAny (model prog w) A (call (.builtin "sum") [.ref l]) Q E s := by
  refine call_sum_walkG (iter_intTuple hl fun s₂ e st hfp hlI => ?_)
  subst e
  refine ⟨_, _, _, _, _, _, numAt xs, rfl, Walks.tuple (A := A.in1) hh _ l hlI (intItems xs), st, hfp, (fun _ _ => intItems_at), fun h' tk t' hk => ?_⟩
  have := h h' tk t' (old_keptT hk)
  simpa [intItems] using this
end
end PySem
namespace L2.Mi
open PySem PySem.Spec PyProof.Rows L2
section
variable {prog : Program} {w : World} {A : Around} {E : Value → Shared → Prop} {s : Shared} {l : Addr} {its : List Value} {ns : List Int} {Q : Value → Shared → Prop}
theorem sumT_raw (hh : A.handled = none) (hl : s.heap.IsTuple l its.toArray) (hi : IntsAre its ns)
    (h : ∀ h' tk t', (∀ b o, s.heap.get? b = some o → h'.get? b = some o) → Q (.int ns.sum t') { s with heap := h', toks := tk }) : wpAny (model prog w) A (call (.builtin "sum") [.ref l]) Q E s := by
  obtain ⟨xs, e⟩ := hi.allInts.items
  have hn : numsOf (intItems xs).toList = ns := by rw [← e]; exact hi.numsOf
  rw [nums_intItems] at hn
  rw [e] at hl
  refine PySem.sum_intTuple hh hl fun h' tk t' hk => ?_
  have := h h' tk t' hk
  rw [preSum_eq, List.take_of_length_le (by simp), hn]; exact this
theorem maxT_raw (hh : A.handled = none) (hl : s.heap.IsTuple l its.toArray) (hi : IntsAre its ns) (hne : 0 < ns.length)
    (h : ∀ h' tk M t', (∀ b o, s.heap.get? b = some o → h'.get? b = some o) → M ∈ ns → (∀ a, a ∈ ns → a ≤ M) → Q (.int M t') { s with heap := h', toks := tk }) : wpAny (model prog w) A (call (.builtin "max") [.ref l]) Q E s := by
  obtain ⟨xs, e⟩ := hi.allInts.items
  have hn : numsOf (intItems xs).toList = ns := by rw [← e]; exact hi.numsOf
  rw [nums_intItems] at hn
  subst hn
  rw [e] at hl
  have hsz : 0 < xs.size := by simpa using hne
  refine PySem.max_intTuple hh hl hsz fun v h' tk hv hk => ?_
  obtain ⟨t, rfl⟩ := intItems_at hv
  obtain ⟨h1, h2⟩ := argBest_gt (numAt xs) (xs.size - 1)
  refine h h' tk _ t hk ?_ fun a ha => ?_
  · rw [numAt_eq]; exact PySem.getD_mem (by rw [List.length_map, Array.length_toList]; omega)
  · obtain ⟨j, hj, rfl⟩ := mem_getD ha
    rw [List.length_map, Array.length_toList] at hj
    rw [← numAt_eq]; exact h2 j (by omega)
theorem minT_raw (hh : A.handled = none) (hl : s.heap.IsTuple l its.toArray) (hi : IntsAre its ns) (hne : 0 < ns.length)
    (h : ∀ h' tk M t', (∀ b o, s.heap.get? b = some o → h'.get? b = some o) → M ∈ ns → (∀ a, a ∈ ns → M ≤ a) → Q (.int M t') { s with heap := h', toks := tk }) : wpAny (model prog w) A (call (.builtin "min") [.ref l]) Q E s := by
  obtain ⟨xs, e⟩ := hi.allInts.items
  have hn : numsOf (intItems xs).toList = ns := by rw [← e]; exact hi.numsOf
  rw [nums_intItems] at hn
  subst hn
  rw [e] at hl
  have hsz : 0 < xs.size := by simpa using hne
  refine PySem.min_intTuple hh hl hsz fun v h' tk hv hk => ?_
  obtain ⟨t, rfl⟩ := intItems_at hv
  obtain ⟨h1, h2⟩ := argBest_lt (numAt xs) (xs.size - 1)
  refine h h' tk _ t hk ?_ fun a ha => ?_
  · rw [numAt_eq]; exact PySem.getD_mem (by rw [List.length_map, Array.length_toList]; omega)
  · obtain ⟨j, hj, rfl⟩ := mem_getD ha
    rw [List.length_map, Array.length_toList] at hj
    rw [← numAt_eq]; exact h2 j (by omega)
end
section
variable {X : Cx}
def SqY (K : PySem.W.Frag) (H : Hp) (a : Addr) (ns : List Int) : Prop := SqL K H a (ns.map V.int) ∨ SqT K H a (ns.map V.int)
def rSumY (K : PySem.W.Frag) : List V → Hp → VK → Prop := fun vs H Q => ∃ (a : Addr) (ns : List Int), vs = [V.ref a] ∧ SqY K H a ns ∧ Q (.int ns.sum) H
def rMaxY (K : PySem.W.Frag) : List V → Hp → VK → Prop := fun vs H Q => ∃ (a : Addr) (ns : List Int), vs = [V.ref a] ∧ SqY K H a ns ∧ 0 < ns.length ∧ ∀ m, m ∈ ns → (∀ y, y ∈ ns → y ≤ m) → Q (.int m) H
def rMinY (K : PySem.W.Frag) : List V → Hp → VK → Prop := fun vs H Q => ∃ (a : Addr) (ns : List Int), vs = [V.ref a] ∧ SqY K H a ns ∧ 0 < ns.length ∧ ∀ m, m ∈ ns → (∀ y, y ∈ ns → m ≤ y) → Q (.int m) H
theorem cr_sumY (hc : X.calm = true) : CallR X (.builtin "sum") (rSumY X.K) := by
  intro pins s σ H vs us Q I r h
  obtain ⟨a, ns, rfl, hs | hs, q⟩ := h
  · exact cr_sum hc _ _ _ _ _ _ _ I r ⟨a, ns, rfl, hs, q⟩
  · obtain ⟨its, rv, hl, _⟩ := I.tuple hs
    rw [Vals.ref1 r]
    exact sumT_raw (I.ok.hd hc) hl rv.ints fun h' tk t' hk => ⟨.int _, H, I.kept hk, ⟨_, rfl⟩, q⟩
theorem cr_maxY (hc : X.calm = true) : CallR X (.builtin "max") (rMaxY X.K) := by
  intro pins s σ H vs us Q I r h
  obtain ⟨a, ns, rfl, hs | hs, hne, q⟩ := h
  · exact cr_max hc _ _ _ _ _ _ _ I r ⟨a, ns, rfl, hs, hne, q⟩
  · obtain ⟨its, rv, hl, _⟩ := I.tuple hs
    rw [Vals.ref1 r]
    exact maxT_raw (I.ok.hd hc) hl rv.ints hne fun h' tk m t' hk h1 h2 => ⟨.int _, H, I.kept hk, ⟨_, rfl⟩, q m h1 h2⟩
theorem cr_minY (hc : X.calm = true) : CallR X (.builtin "min") (rMinY X.K) := by
  intro pins s σ H vs us Q I r h
  obtain ⟨a, ns, rfl, hs | hs, hne, q⟩ := h
  · exact cr_min hc _ _ _ _ _ _ _ I r ⟨a, ns, rfl, hs, hne, q⟩
  · obtain ⟨its, rv, hl, _⟩ := I.tuple hs
    rw [Vals.ref1 r]
    exact minT_raw (I.ok.hd hc) hl rv.ints hne fun h' tk m t' hk h1 h2 => ⟨.int _, H, I.kept hk, ⟨_, rfl⟩, q m h1 h2⟩
end
section
variable {K : PySem.W.Frag}
def onIntsY (f : List Int → Option Int) (d : D) (c : Cs) : R D := match d with
  | .tup ds => match intsOf ds with
    | some ns => match f ns with
      | some k => .ok (.int k) c
      | none => .stuck
    | none => .stuck
  | d => onInts f d c
theorem cs_intsY {r : List V → Hp → VK → Prop} {f : List Int → Option Int} (h : ∀ (H : Hp) (a : Addr) (ns : List Int) (k : Int) (Q : VK), SqY K H a ns → f ns = some k → Q (.int k) H → r [.ref a] H Q) : CallS K r (on1 (onIntsY f)) := fun I H m c vs ds W Q R p A => by
  have p' := p
  have A0 := A
  obtain ⟨v, d, rfl, rfl, pd, A⟩ := on1_arg p A
  cases d with
  | tup xs =>
    have A : After (rD K) K I m H W Q (match intsOf xs with
      | some ns => match f ns with
        | some k => .ok (.int k) c
        | none => .stuck
      | none => .stuck) := A
    cases pd with
    | @tup a ws _ h1 h2 =>
      cases z : intsOf xs with
      | none => rw [z] at A; exact A.elim
      | some ns =>
        rw [z] at A
        have A : After (rD K) K I m H W Q (match f ns with
          | some k => .ok (.int k) c
          | none => .stuck) := A
        cases y : f ns with
        | none => rw [y] at A; exact A.elim
        | some k =>
          rw [y] at A
          have h1' : SqT K H a (ns.map V.int) := by
            have := sqT_same R.same h1
            rw [ints_reps h2 z] at this
            exact this
          exact h H a ns k Q (.inr h1') y (A.here R (.int k))
  | _ => exact cs_ints (K := K) (r := r) (f := f) (fun H a ns k Q e1 e2 q => h H a ns k Q (.inl (SqL.of e1)) e2 q) I H m c _ _ W Q R p' A0
def sumY : List D → Cs → R D := on1 (onIntsY fun ns => some ns.sum)
theorem cs_sumY : CallS K (rSumY K) sumY := cs_intsY fun H a ns k Q h e q => by
  cases e
  exact ⟨a, ns, rfl, h, q⟩
def maxY : List D → Cs → R D := on1 (onIntsY fun ns => ns.max?)
theorem cs_maxY : CallS K (rMaxY K) maxY := cs_intsY fun H a ns k Q h e q => by
  obtain ⟨h1, h2⟩ := List.max?_eq_some_iff.mp e
  refine ⟨a, ns, rfl, h, List.length_pos_of_mem h1, fun m hm hb => ?_⟩
  have : m = k := Int.le_antisymm (h2 m hm) (hb k h1)
  rw [this]; exact q
def minY : List D → Cs → R D := on1 (onIntsY fun ns => ns.min?)
theorem cs_minY : CallS K (rMinY K) minY := cs_intsY fun H a ns k Q h e q => by
  obtain ⟨h1, h2⟩ := List.min?_eq_some_iff.mp e
  refine ⟨a, ns, rfl, h, List.length_pos_of_mem h1, fun m hm hb => ?_⟩
  have : m = k := Int.le_antisymm (hb k h1) (h2 m hm)
  rw [this]; exact q
end
theorem lookup_relabel_fc {env : Env} : ∀ {names : List (Str × NameKind)} {x : Str}, names.lookup x = some .cell ∨ names.lookup x = some .free →
    (names.map fun (n, k) => if (k == NameKind.free && env.scope.kind == .function && env.kindOf n == some .cell) then (n, NameKind.cell) else (n, k)).lookup x = some .cell ∨
    (names.map fun (n, k) => if (k == NameKind.free && env.scope.kind == .function && env.kindOf n == some .cell) then (n, NameKind.cell) else (n, k)).lookup x = some .free
  | [], x, h => by simp at h
  | (n, k) :: r, x, h => by
    have ih := @lookup_relabel_fc env r x
    show List.lookup x ((if (k == NameKind.free && env.scope.kind == .function && env.kindOf n == some .cell) = true then (n, NameKind.cell) else (n, k)) :: _) = _ ∨ List.lookup x ((if (k == NameKind.free && env.scope.kind == .function && env.kindOf n == some .cell) = true then (n, NameKind.cell) else (n, k)) :: _) = _
    cases hx : x == n with
    | true =>
      simp only [List.lookup_cons, hx] at h
      by_cases hc : (k == NameKind.free && env.scope.kind == .function && env.kindOf n == some .cell) = true
      · rw [if_pos hc]; simp only [List.lookup_cons, hx]; exact .inl trivial
      · rw [if_neg hc]; simp only [List.lookup_cons, hx]; exact h
    | false =>
      simp only [List.lookup_cons, hx] at h
      by_cases hc : (k == NameKind.free && env.scope.kind == .function && env.kindOf n == some .cell) = true
      · rw [if_pos hc]; simp only [List.lookup_cons, hx]; exact ih h
      · rw [if_neg hc]; simp only [List.lookup_cons, hx]; exact ih h
/-- a block within a block -/
theorem blkOk_in {N : List Str} {outer scope : Scope} {env : Env} {own : List (Str × Nat)} (h : blkC N outer scope own = true) : BlkOk N (relabel outer env) scope own := by
  obtain ⟨h1, h2, h3, h4, h5⟩ := blkOk_by h
  exact ⟨h1, h2, h3, fun y hy e => lookup_relabel_fc (h4 y hy e), h5⟩
end L2.Mi

/-! plain reasoning where exceptions are raised -/
namespace L2.Mi
open PySem PySem.Spec PyProof.Rows L2
def Xo {α : Type} (r : R α) (Q : α → Cs → Prop) (X : Ex → Cs → Prop) : Prop := match r with
  | .stuck => False
  | .ok a c => Q a c
  | .exc x c => X x c
def XS (r : RS) (Q : Fl → Cs → Prop) (X : Ex → Cs → Prop) : Prop := match r with
  | .stuck => False
  | .go f c => Q f c
  | .exc x _ c => X x c
section
variable {α β : Type} {X : Ex → Cs → Prop}
theorem OkS.xs {r : RS} {Q : Fl → Cs → Prop} (h : OkS r Q) : XS r Q X := by
  obtain ⟨a, c, rfl, h⟩ := h
  exact h
theorem Xo.bind {r : R α} {f : α → Cs → R β} {Q : β → Cs → Prop} (h : Xo r (fun a c => Xo (f a c) Q X) X) : Xo (r.bind f) Q X := by
  cases r <;> exact h
theorem Xo.mono {r : R α} {Q Q' : α → Cs → Prop} {X' : Ex → Cs → Prop} (h : Xo r Q X) (w : ∀ a c, Q a c → Q' a c) (wx : ∀ x c, X x c → X' x c) : Xo r Q' X' := by
  cases r with
  | stuck => exact h
  | ok a c => exact w a c h
  | exc x c => exact wx x c h
theorem Xo.of {r : R α} {Q : α → Cs → Prop} {a : α} {c : Cs} (e : r = .ok a c) (h : Q a c) : Xo r Q X := by rw [e]; exact h
theorem XS.seq {r : R α} {l : Ls} {f : α → Cs → RS} {Q : Fl → Cs → Prop} (h : Xo r (fun a c => XS (f a c) Q X) X) : XS (r.seq l f) Q X := by
  cases r <;> exact h
theorem Ok.xseq {r : R α} {l : Ls} {f : α → Cs → RS} {Q : Fl → Cs → Prop} (h : Ok r fun a c => XS (f a c) Q X) : XS (r.seq l f) Q X := by
  obtain ⟨a, c, rfl, h⟩ := h
  exact h
theorem XS.mono {r : RS} {Q Q' : Fl → Cs → Prop} {X' : Ex → Cs → Prop} (h : XS r Q X) (w : ∀ a c, Q a c → Q' a c) (wx : ∀ x c, X x c → X' x c) : XS r Q' X' := by
  cases r with
  | stuck => exact h
  | go a c => exact w a c h
  | exc x l c => exact wx x c h
theorem XS.next {r : RS} {g : Ls → Cs → RS} {Q : Fl → Cs → Prop} (h : XS r (fun f c => match f with
  | .nx l => XS (g l c) Q X
  | f => Q f c) X) : XS (r.next g) Q X := by
  cases r with
  | stuck => exact h
  | exc x l c => exact h
  | go f c => cases f <;> exact h
theorem Xo.fun {n a : Nat} {b : MS} {ds : List D} {c : Cs} {Q : D → Cs → Prop} (hl : ds.length = a) (h : XS (b (ds.map some ++ List.replicate (n - a) none) c) (fun f c => match f with
  | .rt d => Q d c
  | .nx _ => Q .non c
  | _ => False) X) : Xo (mFun n a b ds c) Q X := by
  unfold mFun
  rw [if_pos hl]
  revert h
  generalize b (ds.map some ++ List.replicate (n - a) none) c = r
  intro h
  cases r with
  | stuck => exact h
  | exc x l c => exact h
  | go f c => cases f <;> first | exact h | exact h.elim
end
section
variable {l : Ls} {c : Cs} {Q : D → Cs → Prop} {a b e o : ME} {t : MA} {QS : Fl → Cs → Prop} {X : Ex → Cs → Prop} {f g : MS}
theorem xs_forW {α : Type} {it : MK} {g : MG} {f : MS} (xs : List α) (enc : α → D) (P : List α → Ls → Cs → Prop) (hl : xs.length ≤ 1000000)
    (hit : Ok (it l c) fun w c1 => P xs l c1 ∧ ∀ rest l' c', P rest l' c' → ∀ i, i ≤ xs.length → w i c' = some (xs.map enc)[i]?)
    (hd : ∀ l c, P [] l c → QS (.nx l) c)
    (ht : ∀ x rest l c, P (x :: rest) l c → Ok (g (enc x) l c) fun l1 c1 => XS (f l1 c1) (fun fl c2 => match fl with
      | .nx l2 => P rest l2 c2
      | .ct l2 => P rest l2 c2
      | .bk l2 => QS (.nx l2) c2
      | .rt d => QS (.rt d) c2) X) : XS (sForW it g f l c) QS X := by
  refine Ok.xseq (hit.mono fun w c1 ⟨p0, hw⟩ => ?_)
  have go : ∀ (k n i : Nat) (l : Ls) (c : Cs), xs.length - i = k → i ≤ xs.length → k < n → P (xs.drop i) l c → XS (forW g f w n i l c) QS X := by
    intro k
    induction k with
    | zero =>
      intro n i l c hk hi hn p
      cases n with
      | zero => omega
      | succ n =>
        unfold forW
        rw [hw _ _ _ p i (by omega), List.getElem?_eq_none (by simp; omega)]
        rw [List.drop_eq_nil_of_le (by omega)] at p
        exact hd l c p
    | succ k ih =>
      intro n i l c hk hi hn p
      cases n with
      | zero => omega
      | succ n =>
        have hi : i < xs.length := by omega
        have hdr : xs.drop i = xs[i] :: xs.drop (i + 1) := List.drop_eq_getElem_cons hi
        unfold forW
        rw [hw _ _ _ p i (by omega), List.getElem?_map, List.getElem?_eq_getElem hi]
        rw [hdr] at p
        obtain ⟨l1, c1, e1, q⟩ := ht _ _ l c p
        simp only [Option.map_some, e1, R.seq_ok]
        revert q
        generalize f l1 c1 = r
        intro q
        cases r with
        | stuck => exact q
        | exc x l c => exact q
        | go fl c2 => cases fl with
          | nx l2 => exact ih n (i + 1) l2 c2 (by omega) (by omega) (by omega) q
          | ct l2 => exact ih n (i + 1) l2 c2 (by omega) (by omega) (by omega) q
          | bk l2 => exact q
          | rt d => exact q
  exact go xs.length fuelW 0 l c1 (by omega) (by omega) (by unfold fuelW; omega) (by rw [List.drop_zero]; exact p0)
end
end L2.Mi

/-! list(text) -/
namespace L2.Mi
open PySem PySem.Spec PyProof.Rows L2
section
variable {K : PySem.W.Frag} {I : Hp} {m : List Addr}
end
end L2.Mi

/-! x in xs, of data of any depth; slices of tuples -/
namespace L2.Mi
open PySem PySem.Spec PyProof.Rows L2
def sliceY (d : D) (lo hi : Option Int) (c : Cs) : R D := match d with
  | .tup ds => if HT.sIx ds.length 0 lo = 0 ∧ HT.sIx ds.length ds.length hi = ds.length then .stuck else .ok (.tup (cutD ds lo hi)) c
  | d => sliceD d lo hi c
def mSliceY (a : ME) (lo hi : MO) : ME := fun l c => (a l c).bind fun x c1 => (lo l c1).bind fun i c2 => (hi l c2).bind fun j c3 => sliceY x i j c3
theorem me_sliceY {X : Cx} {W : WX} {e : Expr} {lo hi : Option Expr} {f : ME} {fl fh : MO} {p2 pos : Pos} (he : PE X e (rdE X.K W f)) (hl : PO X lo (rdO X.K W fl)) (hh : PO X hi (rdO X.K W fh)) :
    PE X (.Subscript e (.Slice lo hi none p2) pos) (rdE X.K W (mSliceY f fl fh)) := PEi (pe_slice (r := fun x lo hi H Q => rSlA X.K x lo hi H Q ∨ rSlT X.K x lo hi H Q) ((sl_list.or sl_str).or sl_tup) he hl hh) fun σ H Q ⟨I, m, l, c, R, L, A⟩ => by
  refine ⟨I, m, l, c, R, L, After.mono (After.bind (rep := rD X.K) A) fun v1 H1 ⟨I1, m1, c1, d1, E1, R1, p1, A1⟩ => ?_⟩
  refine ⟨I1, m1, l, c1, R1, L.ext E1, After.mono (After.bind (rep := rO) A1) fun v2 H2 ⟨I2, m2, c2, d2, E2, R2, p2, A2⟩ => ?_⟩
  refine ⟨I2, m2, l, c2, R2, (L.ext E1).ext E2, After.mono (After.bind (rep := rO) A2) fun v3 H3 ⟨I3, m3, c3, d3, E3, R3, p3, A3⟩ => ?_⟩
  cases (show v2 = d2 from p2)
  cases (show v3 = d3 from p3)
  have p := Rep.ext (Rep.ext p1 E2) E3
  have new : ∀ {a : Addr} {vs : List V} {ds : List D}, v1 = .ref a → SqL X.K H3 a vs → Reps X.K I3 m3 vs ds → After (rD X.K) X.K I3 m3 H3 (fun cls dd H' => W cls dd σ H') Q (.ok (.lst (cutD ds v2 v3)) c3) → rSlA X.K v1 v2 v3 H3 Q := fun {a vs ds} e h r A =>
    .inl ⟨a, vs, e, h, fun q nq => A.new R3 nq (.lst upd_same ((cut_reps v2 v3 r).mono (same_upd R3.same nq) (Pre.refl _)))⟩
  cases p with
  | lst h r => exact .inl (new rfl (SqL.of (R3.same _ _ h)) r A3)
  | @tup a vs ds h r =>
    have A4 : After (rD X.K) X.K I3 m3 H3 (fun cls dd H' => W cls dd σ H') Q (if HT.sIx ds.length 0 v2 = 0 ∧ HT.sIx ds.length ds.length v3 = ds.length then .stuck else .ok (.tup (cutD ds v2 v3)) c3) := A3
    by_cases hw : HT.sIx ds.length 0 v2 = 0 ∧ HT.sIx ds.length ds.length v3 = ds.length
    · rw [if_pos hw] at A4
      exact A4.elim
    · rw [if_neg hw] at A4
      refine .inr ⟨a, vs, rfl, sqT_same R3.same h, by rw [r.length]; exact hw, fun q nq => A4.new R3 nq (.tup (SqT.of upd_same) ((cut_reps v2 v3 r).mono (same_upd R3.same nq) (Pre.refl _)) (.inl upd_same))⟩
  | str s =>
    obtain ⟨z, A4⟩ := After.fits (show After (rD X.K) X.K I3 m3 H3 (fun cls dd H' => W cls dd σ H') Q (fits s.length (.ok (.str (cutS s v2 v3)) c3)) from A3)
    exact .inl (.inr ⟨s, rfl, z, A4.here R3 (.str _)⟩)
  | @ref k a h =>
    have A4 : After (rD X.K) X.K I3 m3 H3 (fun cls dd H' => W cls dd σ H') Q (match c3[k]? with
      | some (.lst ds) => .ok (.lst (cutD ds v2 v3)) c3
      | _ => .stuck) := A3
    cases q : c3[k]? with
    | none => rw [q] at A4; exact A4.elim
    | some x =>
      rw [q] at A4
      cases x with
      | lst ds =>
        obtain ⟨_, vs, h1, h2⟩ := R3.cell k a _ h q
        exact .inl (new rfl (SqL.of h1) h2 A4)
      | _ => exact A4.elim
  | _ => exact A3.elim

end L2.Mi

/-! sep.join(elt for x in list) where the element reads captured names -/
namespace L2.Gx
open PySem PySem.Spec PyProof.Rows L2
section
variable {X : Cx} {pins : List (Addr × Obj)} {σ : L2.St} {H : Hp} {s : Shared}
end
section
variable {X : Cx}
end
/-! ### the captured names -/
section
variable {X : Cx} {pins : List (Addr × Obj)} {σ : L2.St} {H1 : Hp} {s1 s₂ : Shared} {P : Addr} {scope : Scope} {cenv : Env}
end
end L2.Gx

/-! joins of generators over rows, as computations -/
namespace L2.Mi
open PySem PySem.Spec PyProof.Rows L2
section
variable {X : Cx} {W : WX}
/-- what is asked of a generator's scope, before anything runs -/
def genOk (sc scope : Scope) : Bool := scope.names.all fun y => !(y.2 == NameKind.cell) && (!(y.2 == NameKind.free) || sc.names.lookup y.1 == some NameKind.cell || sc.names.lookup y.1 == some NameKind.free)
structure GenK (env : Env) (scope : Scope) (x : Str) : Prop where
  kind : scope.kind = .function
  co : scope.isCoroutine = false
  dot : scope.names.lookup (".0" : Str) = some NameKind.local
  loc : scope.names.lookup x = some .local
  ok : genOk env.scope scope = true
theorem GenK.gen {scope : Scope} {x : Str} (G : GenK X.env scope x) (ok : X.Ok) : GxR.GenS X.env scope x := by
  have h := List.all_eq_true.mp G.ok
  refine ⟨G.kind, G.co, fun y hy e => ?_, G.dot, G.loc, fun y hy e => ?_⟩
  · have q := h y hy
    rw [e] at q
    cases q
  · have q := h y hy
    rw [e] at q
    have q : (X.env.scope.names.lookup y.1 == some NameKind.cell || X.env.scope.names.lookup y.1 == some NameKind.free) = true := q
    rcases Bool.or_eq_true_iff.mp q with q | q
    · exact ok.has y.1 (.inl (beq_iff_eq.mp q))
    · exact ok.has y.1 (.inr (beq_iff_eq.mp q))
end
end L2.Mi

/-! sorted of ints; joins of self.f[j][i] for i in a list -/
namespace L2.Mi
open PySem PySem.Spec PyProof.Rows L2
def insI (x : Int) : List Int → List Int
  | [] => [x]
  | y :: r => if x ≤ y then x :: y :: r else y :: insI x r
def sortI : List Int → List Int
  | [] => []
  | x :: r => insI x (sortI r)
theorem insI_perm (x : Int) : ∀ l : List Int, (insI x l).Perm (x :: l)
  | [] => .refl _
  | y :: r => by
    unfold insI
    split
    · exact .refl _
    · exact ((insI_perm x r).cons y).trans (.swap _ _ _)
theorem sortI_perm : ∀ l : List Int, (sortI l).Perm l
  | [] => .refl _
  | x :: r => (insI_perm x _).trans ((sortI_perm r).cons x)
theorem insI_sorted (x : Int) : ∀ {l : List Int}, l.Pairwise (· ≤ ·) → (insI x l).Pairwise (· ≤ ·)
  | [], _ => by simp [insI]
  | y :: r, h => by
    have h' := List.pairwise_cons.mp h
    unfold insI
    split
    · rename_i hx
      refine List.pairwise_cons.mpr ⟨fun z hz => ?_, h⟩
      rcases List.mem_cons.mp hz with rfl | hz
      · exact hx
      · exact Int.le_trans hx (h'.1 z hz)
    · rename_i hx
      refine List.pairwise_cons.mpr ⟨fun z hz => ?_, insI_sorted x h'.2⟩
      rcases List.mem_cons.mp ((insI_perm x r).mem_iff.mp hz) with rfl | hz
      · omega
      · exact h'.1 z hz
theorem sortI_sorted : ∀ l : List Int, (sortI l).Pairwise (· ≤ ·)
  | [] => .nil
  | x :: r => insI_sorted x (sortI_sorted r)
theorem sorted_one : ∀ {l k : List Int}, l.Perm k → l.Pairwise (· ≤ ·) → k.Pairwise (· ≤ ·) → l = k
  | [], k, p, _, _ => (List.nil_perm.mp p).symm
  | x :: l, [], p, _, _ => absurd p.length_eq (by simp)
  | x :: l, y :: k, p, h, g => by
    have h' := List.pairwise_cons.mp h
    have g' := List.pairwise_cons.mp g
    have e : x = y := by
      have h1 : x ≤ y := by
        rcases List.mem_cons.mp (p.mem_iff.mpr List.mem_cons_self) with e | m
        · exact Int.le_of_eq e.symm
        · exact h'.1 y m
      have h2 : y ≤ x := by
        rcases List.mem_cons.mp (p.mem_iff.mp (List.mem_cons_self (a := x))) with e | m
        · exact Int.le_of_eq e.symm
        · exact g'.1 x m
      omega
    subst e
    rw [sorted_one ((List.perm_cons x).mp p) h'.2 g'.2]
section
variable {K : PySem.W.Frag} {I : Hp} {m : List Addr}
theorem reps_ints : ∀ ns : List Int, Reps K I m (ns.map V.int) (ns.map D.int)
  | [] => .nil
  | n :: ns => .cons (.int n) (reps_ints ns)
end
/-! ### self.f[j][i] for i in a list -/
section
variable {X : Cx} {W : WX}
end
end L2.Mi

/-! comprehensions of two clauses -/
namespace L2.Mi
open PySem PySem.Spec PyProof.Rows L2
theorem Locs.mono {K : PySem.W.Frag} {I I1 : Hp} {m m1 : List Addr} {σ : St} {ls : Ls} (l : Locs K I m σ ls) (s : Same I I1) (p : Pre m m1) : Locs K I1 m1 σ ls :=
  ⟨l.len, fun i d h => let ⟨v, h1, h2⟩ := l.at_ i d h; ⟨v, h1, h2.mono s p⟩⟩
def comp2 (g : MG) (t : MT) (it1 : MK) (js1 : List Nat) (g1 : MG) (t1 : MT) (e : ME) (lw : Ls) (w : Wk) : Nat → Nat → List D → Cs → R (List D)
  | 0, _, _, _ => .stuck
  | n + 1, i, acc, c => match w i c with
    | none => .stuck
    | some none => .ok acc c
    | some (some d) => (g d lw c).nox.bind fun l1 c1 => (t l1 c1).nox.bind fun k c2 => match k with
      | true => (it1 l1 c2).nox.bind fun w1 c3 => (compW g1 t1 e (wipeL l1 js1) w1 fuelW 0 acc c3).bind fun acc2 c4 => comp2 g t it1 js1 g1 t1 e lw w n (i + 1) acc2 c4
      | false => comp2 g t it1 js1 g1 t1 e lw w n (i + 1) acc c2
def mLc2 (it : MK) (js : List Nat) (g : MG) (t : MT) (it1 : MK) (js1 : List Nat) (g1 : MG) (t1 : MT) (e : ME) : ME := fun l c => (it l c).bind fun w c1 => (comp2 g t it1 js1 g1 t1 e (wipeL l js) w fuelW 0 [] c1).bind fun xs c2 => .ok (.lst xs) c2
theorem lc2_read {K : PySem.W.Frag} {W : WX} {fi fi1 : MK} {g g1 : MG} {ft ft1 : MT} {fe : ME} {js js1 : List Nat} {g0 g10 : TG} (good : Good g0 js) (rg : ∀ v σ H Q, rdG K W0 g v σ H Q → g0 v σ H Q) (good1 : Good g10 js1) (rg1 : ∀ v σ H Q, rdG K W0 g1 v σ H Q → g10 v σ H Q) {σ : St} {H : Hp} {Q : VK} (h : rdE K W (mLc2 fi js g ft fi1 js1 g1 ft1 fe) σ H Q) :
    tLc2 (rdK K W fi) g0 (rdT K W0 ft) (rdK K W0 fi1) g10 (rdT K W0 ft1) (rdE K W0 fe) js js1 σ H Q := by
  obtain ⟨I, m, l, c, R, L, A⟩ := h
  refine ⟨I, m, l, c, R, L, After.mono (After.bind (rep := rW K) A) fun J H1 ⟨I1, m1, c1, w, E1, R1, w1, A1⟩ => ?_⟩
  intro Dn hD
  have nI := R1.same.free hD
  have nm := R1.fresh hD
  have asc : ∀ {α β γ : Type} (r : Mi.R α) (f : α → Cs → Mi.R β) (h : β → Cs → Mi.R γ), (r.bind f).bind h = r.bind fun a c => (f a c).bind h := fun r f h => by cases r <;> rfl
  refine ⟨fun i n H => ∃ I' m' c' acc vs, Ext I1 m1 H1 I' m' H ∧ Rel K I' H m' c' ∧ Reps K I' m' vs acc ∧ H Dn = some (.lst vs) ∧ I' Dn = none ∧ Dn ∉ m' ∧
    After (rD K) K I1 m1 H1 (fun cls dd H' => W cls dd σ H') Q ((comp2 g ft fi1 js1 g1 ft1 fe (wipeL l js) w n i acc c').bind fun xs c2 => .ok (.lst xs) c2),
    ⟨_, I1, m1, c1, [], [], ⟨Same.refl _, Pre.refl _, fun b o h1 hT h2 h3 => ⟨by rw [upd_ne (ne_of_none h1 hD)]; exact h1, h2, h3⟩⟩, R1.side (vs := []) (.inl hD) nI nm, .nil, upd_same, nI, nm, A1⟩, ?_⟩
  rintro i n H' ⟨I', m', c', acc, vs, E', R', p', hH', hI', hm', A'⟩
  obtain ⟨wg, ws⟩ := w1 i I' H' m' c' E'.same E'.pre R'
  cases n with
  | zero => exact A'.elim
  | succ n =>
    have A' : After (rD K) K I1 m1 H1 (fun cls dd H' => W cls dd σ H') Q ((match w i c' with
      | none => .stuck
      | some none => .ok acc c'
      | some (some d) => (g d (wipeL l js) c').nox.bind fun l1 c1 => (ft l1 c1).nox.bind fun k c2 => match k with
        | true => (fi1 l1 c2).nox.bind fun w1 c3 => (compW g1 ft1 fe (wipeL l1 js1) w1 fuelW 0 acc c3).bind fun acc2 c4 => comp2 g ft fi1 js1 g1 ft1 fe (wipeL l js) w n (i + 1) acc2 c4
        | false => comp2 g ft fi1 js1 g1 ft1 fe (wipeL l js) w n (i + 1) acc c2 : Mi.R (List D)).bind fun xs c2 => .ok (.lst xs) c2) := A'
    cases q : w i c' with
    | none => rw [q] at A'; exact A'.elim
    | some od =>
      rw [q] at A'
      cases od with
      | none =>
        refine .inl ⟨ws q, ?_⟩
        have sI : Same I' (upd I' Dn (.lst vs)) := fun b o e => by rw [upd_ne (ne_of_none e hI')]; exact e
        refine A' (upd I' Dn (.lst vs)) m' H' (.ref Dn) ⟨E'.same.trans sI, E'.pre, fun b o h1 hT h2 h3 => ?_⟩ (R'.adopt hH' hI' hm') (.lst upd_same (p'.mono sI (Pre.refl _)))
        obtain ⟨q1, q2, q3⟩ := E'.fr b o h1 hT h2 h3
        exact ⟨q1, by rw [upd_ne (ne_of_none h1 hD)]; exact q2, q3⟩
      | some d =>
        obtain ⟨go, yl⟩ := wg d q
        refine .inr ⟨go, fun H2 => ∃ I2 m2 c2 acc2 vs2, Ext I1 m1 H1 I2 m2 H2 ∧ Rel K I2 H2 m2 c2 ∧ Reps K I2 m2 vs2 acc2 ∧ H2 Dn = some (.lst vs2) ∧ I2 Dn = none ∧ Dn ∉ m2 ∧
          After (rD K) K I1 m1 H1 (fun cls dd H' => W cls dd σ H') Q ((comp2 g ft fi1 js1 g1 ft1 fe (wipeL l js) w n (i + 1) acc2 c2).bind fun xs c2 => .ok (.lst xs) c2),
          fun H2 ⟨I2, m2, c2, acc2, vs2, e2, r2, pp2, h2, i2, n2, a2⟩ => ⟨n, Nat.lt_succ_self n, I2, m2, c2, acc2, vs2, e2, r2, pp2, h2, i2, n2, a2⟩, fun x H3 y => ?_⟩
        obtain ⟨I3, E3, R3, p3⟩ := yl x H3 y
        have Lw := ((locs_wipe L js).ext E1).ext (E'.trans E3)
        have A3 : After (rD K) K I1 m1 H1 (fun cls dd H' => W cls dd σ H') Q (((g d (wipeL l js) c').nox.bind fun l1 c1 => (ft l1 c1).nox.bind fun k c2 => match k with
          | true => (fi1 l1 c2).nox.bind fun w1 c3 => (compW g1 ft1 fe (wipeL l1 js1) w1 fuelW 0 acc c3).bind fun acc2 c4 => comp2 g ft fi1 js1 g1 ft1 fe (wipeL l js) w n (i + 1) acc2 c4
          | false => comp2 g ft fi1 js1 g1 ft1 fe (wipeL l js) w n (i + 1) acc c2).bind fun xs c2 => .ok (.lst xs) c2) := A'
        rw [asc] at A3
        refine good x σ H3 _ (rg _ _ _ _ ⟨I3, m', wipeL l js, c', d, R3, Lw, p3, After.mono (After.nox (After.bindAt (rep := rL K) A3 (E'.trans E3))) fun σ4 H4 ⟨I4, m4, c4, l4, E4, R4, L4, A4⟩ => ?_⟩)
        rw [asc] at A4
        have EE := (E'.trans E3).trans E4
        refine ⟨I4, m4, l4, c4, R4, L4, After.mono (After.nox (After.bindAt (rep := rB) A4 EE)) fun b H5 ⟨I5, m5, c5, b5, E5, R5, p5, A5⟩ => ?_⟩
        cases (show b = b5 from p5)
        have F5 := (E3.trans E4).trans E5
        cases b with
        | false =>
          obtain ⟨f1, f2, f3⟩ := F5.fr _ _ hH' ⟨⟨(fun _ z => nomatch z), (fun _ z => nomatch z)⟩, (fun _ z => nomatch z)⟩ hI' hm'
          exact iteF ⟨I5, m5, c5, acc, vs, EE.trans E5, R5, p'.ext F5, f1, f2, f3, A5⟩
        | true =>
          have A6 : After (rD K) K I1 m1 H1 (fun cls dd H' => W cls dd σ H') Q (((fi1 l4 c5).nox.bind fun w1 c3 => (compW g1 ft1 fe (wipeL l4 js1) w1 fuelW 0 acc c3).bind fun acc2 c4 => comp2 g ft fi1 js1 g1 ft1 fe (wipeL l js) w n (i + 1) acc2 c4).bind fun xs c2 => .ok (.lst xs) c2) := A5
          rw [asc] at A6
          have L4' : Locs K I4 m4 σ4 l4 := L4
          refine iteT ⟨I5, m5, l4, c5, R5, L4'.ext E5, After.mono (After.nox (After.bindAt (rep := rW K) A6 (EE.trans E5))) fun J1 H7 ⟨I7, m7, c7, w7, E7, R7, w7r, A7⟩ => ?_⟩
          have F7 := F5.trans E7
          have G7 := (EE.trans E5).trans E7
          obtain ⟨f1, f2, f3⟩ := F7.fr _ _ hH' ⟨⟨(fun _ z => nomatch z), (fun _ z => nomatch z)⟩, (fun _ z => nomatch z)⟩ hI' hm'
          refine ⟨fun j k H => ∃ I' m' c' acc vs, Same I7 I' ∧ Pre m7 m' ∧ Ext I1 m1 H1 I' m' H ∧ Rel K I' H m' c' ∧ Reps K I' m' vs acc ∧ H Dn = some (.lst vs) ∧ I' Dn = none ∧ Dn ∉ m' ∧
            After (rD K) K I1 m1 H1 (fun cls dd H' => W cls dd σ H') Q (((compW g1 ft1 fe (wipeL l4 js1) w7 k j acc c').bind fun acc2 c4 => comp2 g ft fi1 js1 g1 ft1 fe (wipeL l js) w n (i + 1) acc2 c4).bind fun xs c2 => .ok (.lst xs) c2),
            ⟨_, I7, m7, c7, acc, vs, Same.refl _, Pre.refl _, G7, R7, p'.ext F7, f1, f2, f3, A7⟩, ?_⟩
          rintro j k H8 ⟨I8, m8, c8, acc8, vs8, s8, r8, E8, R8, p8, hH8, hI8, hm8, A8⟩
          obtain ⟨wg8, ws8⟩ := w7r j I8 H8 m8 c8 s8 r8 R8
          cases k with
          | zero => exact A8.elim
          | succ k =>
            have A8 : After (rD K) K I1 m1 H1 (fun cls dd H' => W cls dd σ H') Q (((match w7 j c8 with
              | none => .stuck
              | some none => .ok acc8 c8
              | some (some d) => (g1 d (wipeL l4 js1) c8).nox.bind fun l1 c1 => (ft1 l1 c1).nox.bind fun b c2 => match b with
                | true => (fe l1 c2).nox.bind fun x c3 => if acc8.length < sizeLine then compW g1 ft1 fe (wipeL l4 js1) w7 k (j + 1) (acc8 ++ [x]) c3 else .stuck
                | false => compW g1 ft1 fe (wipeL l4 js1) w7 k (j + 1) acc8 c2 : Mi.R (List D)).bind fun acc2 c4 => comp2 g ft fi1 js1 g1 ft1 fe (wipeL l js) w n (i + 1) acc2 c4).bind fun xs c2 => .ok (.lst xs) c2) := A8
            cases q8 : w7 j c8 with
            | none => rw [q8] at A8; exact A8.elim
            | some od =>
              rw [q8] at A8
              cases od with
              | none => exact .inl ⟨ws8 q8, I8, m8, c8, acc8, vs8, E8, R8, p8, hH8, hI8, hm8, A8⟩
              | some d8 =>
                obtain ⟨go8, yl8⟩ := wg8 d8 q8
                refine .inr ⟨go8, fun H2 => ∃ I2 m2 c2 acc2 vs2, Same I7 I2 ∧ Pre m7 m2 ∧ Ext I1 m1 H1 I2 m2 H2 ∧ Rel K I2 H2 m2 c2 ∧ Reps K I2 m2 vs2 acc2 ∧ H2 Dn = some (.lst vs2) ∧ I2 Dn = none ∧ Dn ∉ m2 ∧
                  After (rD K) K I1 m1 H1 (fun cls dd H' => W cls dd σ H') Q (((compW g1 ft1 fe (wipeL l4 js1) w7 k (j + 1) acc2 c2).bind fun acc2 c4 => comp2 g ft fi1 js1 g1 ft1 fe (wipeL l js) w n (i + 1) acc2 c4).bind fun xs c2 => .ok (.lst xs) c2),
                  fun H2 ⟨I2, m2, c2, acc2, vs2, z1, z2, e2, r2, pp2, h2, i2, n2, a2⟩ => ⟨k, Nat.lt_succ_self k, I2, m2, c2, acc2, vs2, z1, z2, e2, r2, pp2, h2, i2, n2, a2⟩, fun x9 H9 y9 => ?_⟩
                obtain ⟨I9, E9, R9, p9⟩ := yl8 x9 H9 y9
                have L9 := ((locs_wipe ((L4'.ext E5).ext E7) js1).mono s8 r8).ext E9
                have A9 : After (rD K) K I1 m1 H1 (fun cls dd H' => W cls dd σ H') Q ((((g1 d8 (wipeL l4 js1) c8).nox.bind fun l1 c1 => (ft1 l1 c1).nox.bind fun b c2 => match b with
                  | true => (fe l1 c2).nox.bind fun x c3 => if acc8.length < sizeLine then compW g1 ft1 fe (wipeL l4 js1) w7 k (j + 1) (acc8 ++ [x]) c3 else .stuck
                  | false => compW g1 ft1 fe (wipeL l4 js1) w7 k (j + 1) acc8 c2).bind fun acc2 c4 => comp2 g ft fi1 js1 g1 ft1 fe (wipeL l js) w n (i + 1) acc2 c4).bind fun xs c2 => .ok (.lst xs) c2) := A8
                rw [asc, asc] at A9
                refine good1 x9 σ4 H9 _ (rg1 _ _ _ _ ⟨I9, m8, wipeL l4 js1, c8, d8, R9, L9, p9, After.mono (After.nox (After.bindAt (rep := rL K) A9 (E8.trans E9))) fun σ10 H10 ⟨I10, m10, c10, l10, E10, R10, L10, A10⟩ => ?_⟩)
                rw [asc] at A10
                have EE10 := (E8.trans E9).trans E10
                refine ⟨I10, m10, l10, c10, R10, L10, After.mono (After.nox (After.bindAt (rep := rB) A10 EE10)) fun b H11 ⟨I11, m11, c11, b11, E11, R11, p11, A11⟩ => ?_⟩
                cases (show b = b11 from p11)
                have F11 := (E9.trans E10).trans E11
                cases b with
                | false =>
                  obtain ⟨g1', g2', g3'⟩ := F11.fr _ _ hH8 ⟨⟨(fun _ z => nomatch z), (fun _ z => nomatch z)⟩, (fun _ z => nomatch z)⟩ hI8 hm8
                  exact iteF ⟨I11, m11, c11, acc8, vs8, s8.trans F11.same, r8.trans F11.pre, EE10.trans E11, R11, p8.ext F11, g1', g2', g3', (by rw [asc]; exact A11)⟩
                | true =>
                  have A12 : After (rD K) K I1 m1 H1 (fun cls dd H' => W cls dd σ H') Q (((fe l10 c11).nox.bind fun x c3 => if acc8.length < sizeLine then compW g1 ft1 fe (wipeL l4 js1) w7 k (j + 1) (acc8 ++ [x]) c3 else .stuck).bind fun acc2 c4 => (comp2 g ft fi1 js1 g1 ft1 fe (wipeL l js) w n (i + 1) acc2 c4).bind fun xs c2 => .ok (.lst xs) c2) := A11
                  rw [asc] at A12
                  have L10' : Locs K I10 m10 σ10 l10 := L10
                  refine iteT ⟨I11, m11, l10, c11, R11, L10'.ext E11, After.mono (After.nox (After.bindAt (rep := rD K) A12 (EE10.trans E11))) fun z H13 ⟨I13, m13, c13, d13, E13, R13, p13, A13⟩ => ?_⟩
                  have F13 := F11.trans E13
                  obtain ⟨g1', g2', g3'⟩ := F13.fr _ _ hH8 ⟨⟨(fun _ z => nomatch z), (fun _ z => nomatch z)⟩, (fun _ z => nomatch z)⟩ hI8 hm8
                  by_cases hz : acc8.length < sizeLine
                  · have A14 : After (rD K) K I1 m1 H1 (fun cls dd H' => W cls dd σ H') Q ((if acc8.length < sizeLine then compW g1 ft1 fe (wipeL l4 js1) w7 k (j + 1) (acc8 ++ [d13]) c13 else .stuck).bind fun acc2 c4 => (comp2 g ft fi1 js1 g1 ft1 fe (wipeL l js) w n (i + 1) acc2 c4).bind fun xs c2 => .ok (.lst xs) c2) := A13
                    rw [if_pos hz] at A14
                    have G := (EE10.trans E11).trans E13
                    refine ⟨vs8, g1', by rw [p8.length]; exact hz, I13, m13, c13, acc8 ++ [d13], vs8 ++ [z], s8.trans F13.same, r8.trans F13.pre, ?_, R13.side (.inr g1') g2' g3', (p8.ext F13).append (.cons p13 .nil), upd_same, g2', g3', (by rw [asc]; exact A14)⟩
                    refine ⟨G.same, G.pre, fun b o h1 hT h2 h3 => ?_⟩
                    obtain ⟨q1, q2, q3⟩ := G.fr b o h1 hT h2 h3
                    exact ⟨by rw [upd_ne (ne_of_none h1 hD)]; exact q1, q2, q3⟩
                  · have A14 : After (rD K) K I1 m1 H1 (fun cls dd H' => W cls dd σ H') Q ((if acc8.length < sizeLine then compW g1 ft1 fe (wipeL l4 js1) w7 k (j + 1) (acc8 ++ [d13]) c13 else .stuck).bind fun acc2 c4 => (comp2 g ft fi1 js1 g1 ft1 fe (wipeL l js) w n (i + 1) acc2 c4).bind fun xs c2 => .ok (.lst xs) c2) := A13
                    rw [if_neg hz] at A14
                    exact A14.elim
end L2.Mi

/-! expressions over a caught exception's field, in its own suite -/
namespace L2.Mi
open PySem PySem.Spec PyProof.Rows L2
section
variable {X : Cx} {W : WX} {e b : Expr} {rest : List Expr} {i : Nat} {a : Addr} {cls : Value} {d : Option Addr} {A B : Ex → ME} {pos p p2 : Pos} {n : Str} {ns : List Str}
end
end L2.Mi

/-! d[key] of a dict: a cell, or one that never changes -/
namespace L2.Mi
open PySem PySem.Spec PyProof.Rows L2
def getK (ds : List (Key × D)) (k : Key) : Option D := (ds.find? fun kv => decide (kv.1 = k)).map (·.2)
def dctOf (x : D) (c : Cs) : Option (List (Key × D)) := match x with
  | .dct ds => some ds
  | .ref k => match c[k]? with
    | some (.dct ds) => some ds
    | _ => none
  | _ => none
def dgetI (x y : D) (c : Cs) : R D := match keyOf y, dctOf x c with
  | some k, some ds => match getK ds k with
    | some d => .ok d c
    | none => .stuck
  | _, _ => .stuck
theorem RepK.get {K : PySem.W.Frag} {I : Hp} {m : List Addr} {k : Key} {d : D} : ∀ {vs : List (Key × V)} {ds : List (Key × D)}, RepK K I m vs ds → getK ds k = some d → ∃ v, valV vs k = some v ∧ Rep K I m v d
  | _, _, .nil, e => by cases e
  | _, _, .cons (k := k1) h t, e => by
    unfold getK at e
    unfold valV
    rw [List.find?_cons] at e ⊢
    by_cases hk : k1 = k
    · simp only [hk, decide_true] at e ⊢
      cases e
      exact ⟨_, rfl, h⟩
    · simp only [hk, decide_false] at e ⊢
      exact RepK.get t e
theorem u1 {A : Around} {k : Nat} (hr : Room k A) : A.units + 1 < cLine := by have := hr.un; omega
section
variable {X : Cx} {W : WX} {o i : Expr} {fo fi : ME} {pos : Pos}
theorem me_dget (hu : X.A.units + 1 < cLine) (ho : PE X o (rdE X.K W fo)) (hi : PE X i (rdE X.K W fi)) (hs : NoSl i) : PE X (.Subscript o i pos) (rdE X.K W (mOp dgetI fo fi)) :=
  PEi (pe_dget hu ho hi hs) fun σ H Q ⟨I, m, l, c, R, L, A⟩ => ⟨I, m, l, c, R, L, After.mono (After.bind (rep := rD X.K) A) fun v1 H1 ⟨I1, m1, c1, d1, E1, R1, p1, A1⟩ =>
    ⟨I1, m1, l, c1, R1, L.ext E1, After.mono (After.bind (rep := rD X.K) A1) fun v2 H2 ⟨I2, m2, c2, d2, E2, R2, p2, A2⟩ => by
      have p1 := Rep.ext p1 E2
      have A2 : After (rD X.K) X.K I2 m2 H2 (fun cls dd H' => W cls dd σ H') Q (match keyOf d2, dctOf d1 c2 with
        | some k, some ds => match getK ds k with
          | some d => .ok d c2
          | none => .stuck
        | _, _ => .stuck) := A2
      cases qk : keyOf d2 with
      | none => rw [qk] at A2; exact A2.elim
      | some k =>
        rw [qk] at A2
        cases qd : dctOf d1 c2 with
        | none => rw [qd] at A2; exact A2.elim
        | some ds =>
          rw [qd] at A2
          have A2 : After (rD X.K) X.K I2 m2 H2 (fun cls dd H' => W cls dd σ H') Q (match getK ds k with
            | some d => .ok d c2
            | none => .stuck) := A2
          cases qg : getK ds k with
          | none => rw [qg] at A2; exact A2.elim
          | some d =>
            rw [qg] at A2
            have hv : v2 = kV k := by
              cases p2 with
              | int n => cases qk; rfl
              | str n => cases qk; rfl
              | _ => cases qk
            have hdk : ∃ a vs, v1 = .ref a ∧ H2 a = some (.dK vs) ∧ RepK X.K I2 m2 vs ds := by
              cases p1 with
              | dct h r => cases qd; exact ⟨_, _, rfl, R2.same _ _ h, r⟩
              | @ref j a h =>
                simp only [dctOf] at qd
                cases z : c2[j]? with
                | none => rw [z] at qd; cases qd
                | some x =>
                  rw [z] at qd
                  cases x with
                  | dct es =>
                    cases qd
                    obtain ⟨_, vs, h1, h2⟩ := R2.cell j a _ h z
                    exact ⟨a, vs, rfl, h1, h2⟩
                  | _ => cases qd
              | _ => cases qd
            obtain ⟨a, vs, rfl, h1, h2⟩ := hdk
            obtain ⟨v, g1, g2⟩ := h2.get qg
            exact ⟨a, v, rfl, .inl ⟨vs, k, .inl h1, hv, g1.symm⟩, A2.here R2 g2⟩⟩⟩
end
end L2.Mi

/-! xs[lo:hi:step] of a list: a new list -/
namespace L2.Mi
open PySem PySem.Spec PyProof.Rows L2
section
variable {X : Cx} {W : WX} {e : Expr} {lo hi st : Option Expr} {te : TE} {tl th tk : TO} {p2 pos : Pos}
end
end L2.Mi

/-! x += e, x -= e of numbers and texts -/
namespace L2.Mi
open PySem PySem.Spec PyProof.Rows L2
end L2.Mi

/-! xs.extend(ys) -/
namespace L2.Mi
open PySem PySem.Spec PyProof.Rows L2
def extendD : D → List D → Cs → R D := fun d ds c => match cellX d c, ds with
  | some (k, xs), [y] => match lstC y c with
    | some zs => if xs.length + zs.length ≤ sizeLine then .ok .non (c.set k (.lst (xs ++ zs))) else .stuck
    | none => .stuck
  | _, _ => .stuck
theorem meth_extend {K : PySem.W.Frag} : MethS K rExtend extendD := fun I H m c v vs d ds W Q R p ps A => by
  unfold extendD at A
  cases q : cellX d c with
  | none => rw [q] at A; exact A.elim
  | some kx =>
    obtain ⟨k, xs⟩ := kx
    rw [q] at A
    cases ps with
    | nil => exact A.elim
    | @cons y ys dy dys h t =>
      cases t with
      | cons _ _ => exact A.elim
      | nil =>
        have A : After (rD K) K I m H W Q (match lstC dy c with
          | some zs => if xs.length + zs.length ≤ sizeLine then .ok .non (c.set k (.lst (xs ++ zs))) else .stuck
          | none => .stuck) := A
        cases z : lstC dy c with
        | none => rw [z] at A; exact A.elim
        | some zs =>
          rw [z] at A
          obtain ⟨a, ws, rfl, hm, hc, h1, h2⟩ := cellX_at R p q
          obtain ⟨b, us, rfl, g1, g2⟩ := lstC_at R h z
          by_cases hz : xs.length + zs.length ≤ sizeLine
          · have A : After (rD K) K I m H W Q (if xs.length + zs.length ≤ sizeLine then .ok .non (c.set k (.lst (xs ++ zs))) else .stuck) := A
            rw [if_pos hz] at A
            obtain ⟨R2, E2⟩ := R.put hm hc (h2.append g2)
            exact ⟨a, b, ws, us, rfl, rfl, h1, g1, by rw [h2.length, g2.length]; exact hz, A _ _ _ _ E2 R2 .non⟩
          · have A : After (rD K) K I m H W Q (if xs.length + zs.length ≤ sizeLine then .ok .non (c.set k (.lst (xs ++ zs))) else .stuck) := A
            rw [if_neg hz] at A
            exact A.elim
end L2.Mi

/-! {k: v for x in xs if ..}: a new cell -/
namespace L2.Mi
open PySem PySem.Spec PyProof.Rows L2
section
variable {X : Cx} {fa : ME}
end
end L2.Mi

/-! the signs of a shown value -/
namespace L2.Mi
open PySem PySem.Spec PyProof.Rows L2 PySem.StrLaws PySem.Builtin.Str
def CpOk (s : Str) : Prop := ∀ k ∈ s.cps.toList, k < 1114112
theorem cpok_app {a b : Str} (ha : CpOk a) (hb : CpOk b) : CpOk (a ++ b) := fun k hk => by
  rcases mem_cps_append.mp hk with h | h
  · exact ha k h
  · exact hb k h
theorem char_cp (c : Char) : c.toNat < 1114112 := by
  have := c.valid
  unfold UInt32.isValidChar Nat.isValidChar at this
  show c.val.toNat < 1114112
  omega
theorem cpok_of (s : String) : CpOk (Str.ofString s) := fun k hk => by
  rw [signs_ofString] at hk
  obtain ⟨c, _, rfl⟩ := List.mem_map.mp hk
  exact char_cp c
theorem hex_cp {n : Nat} {l : List Char} : ∀ k ∈ List.replicate n 48 ++ l.map Char.toNat, k < 1114112 := fun k hk => by
  rcases List.mem_append.mp hk with h | h
  · rw [(List.mem_replicate.mp h).2]; decide
  · obtain ⟨c, _, rfl⟩ := List.mem_map.mp h
    exact char_cp c
theorem two_cp {a b : Nat} (ha : a < 1114112) (hb : b < 1114112) : ∀ k ∈ [a, b], k < 1114112 := fun k hk => by
  simp only [List.mem_cons, List.not_mem_nil, or_false] at hk
  rcases hk with rfl | rfl
  · exact ha
  · exact hb
theorem reprChar_cp {q c : Nat} (hc : c < 1114112) : ∀ k ∈ reprChar q c, k < 1114112 := by
  have ap : ∀ {a b : Nat} {l : List Nat}, a < 1114112 → b < 1114112 → (∀ k ∈ l, k < 1114112) → ∀ k ∈ [a, b] ++ l, k < 1114112 := fun ha hb hl k hk => by
    rcases List.mem_append.mp hk with h | h
    · exact two_cp ha hb k h
    · exact hl k h
  unfold reprChar
  dsimp only
  repeat' split
  · exact two_cp (by decide) hc
  · exact two_cp (by decide) (by decide)
  · exact two_cp (by decide) (by decide)
  · exact two_cp (by decide) (by decide)
  · intro k hk; rw [List.mem_singleton.mp hk]; exact hc
  · exact ap (by decide) (by decide) hex_cp
  · exact ap (by decide) (by decide) hex_cp
  · exact ap (by decide) (by decide) hex_cp
theorem foldl_repr_cp {q : Nat} : ∀ (l : List Nat) (acc : Array Nat), (∀ c ∈ l, c < 1114112) → (∀ k ∈ acc.toList, k < 1114112) → ∀ k ∈ (l.foldl (fun out c => out ++ (reprChar q c).toArray) acc).toList, k < 1114112
  | [], acc, _, h => h
  | c :: r, acc, h, ha => by
    simp only [List.foldl_cons]
    refine foldl_repr_cp r _ (fun d hd => h d (List.mem_cons_of_mem _ hd)) fun k hk => ?_
    rw [Array.toList_append] at hk
    rcases List.mem_append.mp hk with z | z
    · exact ha k z
    · exact reprChar_cp (h c List.mem_cons_self) k z
theorem reprText_cp {x : Str} (hx : CpOk x) : CpOk (reprText x) := fun k hk => by
  have hq : reprQuote x < 1114112 := by unfold reprQuote; split <;> decide
  have hk : k ∈ ((x.cps.foldl (fun out c => out ++ (reprChar (reprQuote x) c).toArray) #[reprQuote x]).push (reprQuote x)).toList := hk
  rw [Array.toList_push, ← Array.foldl_toList] at hk
  rcases List.mem_append.mp hk with z | z
  · refine foldl_repr_cp _ _ hx (fun k hk => ?_) k z
    rw [show (#[reprQuote x] : Array Nat).toList = [reprQuote x] from rfl, List.mem_singleton] at hk
    rw [hk]; exact hq
  · rw [List.mem_singleton.mp z]; exact hq
theorem textFrom_cp : ∀ (ts : List Str) (k : Nat) (acc : Str), CpOk acc → (∀ t ∈ ts, CpOk t) → CpOk (textFrom k acc ts)
  | [], _, _, h, _ => h
  | t :: ts, k, acc, h, h2 => textFrom_cp ts (k + 1) _ (cpok_app (cpok_app h (by split <;> exact cpok_of _)) (h2 t List.mem_cons_self)) fun u hu => h2 u (List.mem_cons_of_mem _ hu)
theorem join_cp {sep : Str} {ts : List Str} (hs : CpOk sep) (h : ∀ t ∈ ts, CpOk t) : CpOk (Str.join sep ts) := fun k hk => by
  rcases (mem_join sep k ts).mp hk with ⟨t, ht, hk⟩ | ⟨_, hk⟩
  · exact h t ht k hk
  · exact hs k hk
mutual
theorem shown_cp : ∀ p : PyData, bP p = true → CpOk p.shown
  | .none, _ => cpok_of _
  | .bool b, _ => by cases b <;> exact cpok_of _
  | .int i, _ => cpok_of _
  | .str s, h => reprText_cp fun k hk => of_decide_eq_true (List.all_eq_true.mp (show (s.cps.toList.all fun k => decide (k < 1114112)) = true from h) k hk)
  | .list xs, h => cpok_app (textFrom_cp _ _ _ (cpok_of _) (shownAll_cp xs h)) (cpok_of _)
  | .tuple xs, h => cpok_app (cpok_app (cpok_of _) (join_cp (cpok_of _) (shownAll_cp xs h))) (by split <;> exact cpok_of _)
  | .dict kvs, h => cpok_app (cpok_app (cpok_of _) (join_cp (cpok_of _) (shownKv_cp kvs h))) (cpok_of _)
theorem shownAll_cp : ∀ ps : List PyData, bPs ps = true → ∀ t ∈ PyData.shownAll ps, CpOk t
  | [], _, t, ht => nomatch ht
  | p :: ps, h, t, ht => by
    simp only [bPs, Bool.and_eq_true] at h
    rcases List.mem_cons.mp ht with rfl | ht
    · exact shown_cp p h.1
    · exact shownAll_cp ps h.2 t ht
theorem shownKv_cp : ∀ ps : List (PyData × PyData), bPk ps = true → ∀ t ∈ PyData.shownKv ps, CpOk t
  | [], _, t, ht => nomatch ht
  | (k, v) :: ps, h, t, ht => by
    simp only [bPk, Bool.and_eq_true] at h
    rcases List.mem_cons.mp ht with rfl | ht
    · exact cpok_app (cpok_app (shown_cp k h.1.1) (cpok_of _)) (shown_cp v h.1.2)
    · exact shownKv_cp ps h.2 t ht
end
end L2.Mi

namespace L2.Mi
open PySem PySem.Spec PyProof.Rows L2
/-! plain reasoning, third part: what the walker uses -/
theorem ok_slY {a : ME} {lo hi : MO} {l : Ls} {c : Cs} {Q : D → Cs → Prop} (h : Ok (a l c) fun x c1 => Ok (lo l c1) fun i c2 => Ok (hi l c2) fun j c3 => Ok (sliceY x i j c3) Q) : Ok (mSliceY a lo hi l c) Q :=
  Ok.bind (h.mono fun _ _ h => Ok.bind (h.mono fun _ _ h => Ok.bind h))
theorem ok_len_map {α : Type} {f : α → D} {xs : List α} {c : Cs} {Q : D → Cs → Prop} (q : Q (.int xs.length) c) : Ok (lenD [.lst (xs.map f)] c) Q :=
  Ok.of (show lenD [.lst (xs.map f)] c = .ok (.int xs.length) c by
    show R.ok (D.int ((xs.map f).length : Nat)) c = _
    rw [List.length_map]) q
section
variable {α : Type} {g : MG} {t : MT} {a e : ME} {js : List Nat} {l : Ls} {c : Cs} {Q : D → Cs → Prop}
end
end L2.Mi

/-! lambdas of one parameter that their bodies do not read, handed to a def that calls them -/
namespace LamY
open PySem PySem.Spec PyProof.Rows L2 LamX
/-- one parameter; captured names and globals -/
structure LamS1 (sc scope : Scope) (par : Str) : Prop where
  kind : scope.kind = .function
  co : scope.isCoroutine = false
  gen : scope.isGenerator = false
  parl : scope.names.lookup par = some .local
  own : ∀ y ∈ scope.names, (y.2 = .local → y.1 = par) ∧ y.2 ≠ .cell
  free : ∀ y ∈ scope.names, y.2 = .free → sc.names.lookup y.1 = some .cell ∨ sc.names.lookup y.1 = some .free
theorem LamS1.has {X : Cx} {scope : Scope} {par : Str} (L : LamS1 X.env.scope scope par) (ok : X.Ok) : ∀ y ∈ scope.names, y.2 = .free → ∃ c, X.env.cells.lookup y.1 = some c := fun y hy e => by
  rcases L.free y hy e with k | k
  · exact ok.has _ (.inl k)
  · exact ok.has _ (.inr k)
section
variable {X : Cx} {pins : List (Addr × Obj)} {σ : L2.St} {H HZ : Hp} {s s1 : Shared}
end
end LamY
namespace L2.Mi
open PySem PySem.Spec PyProof.Rows L2 LamX LamY
section
variable {K : PySem.W.Frag} {I H H1 : Hp} {m : List Addr} {c : Cs}
theorem Locs.up {I' : Hp} {m' : List Addr} {σ : St} {l : Ls} (L : Locs K I m σ l) (s : Same I I') (p : Pre m m') : Locs K I' m' σ l := ⟨L.len, fun i d h => let ⟨v, h1, h2⟩ := L.at_ i d h; ⟨v, h1, h2.mono s p⟩⟩
end
/-- a def that calls the lambda it gets -/
structure LamFn (P : Program) (w : World) (K : PySem.W.Frag) (mg : Str → Option Value) (base : Heap) (k : Nat) (f : Addr) (x : Str) (st : Stmt) (N : List Str) (a : Str) (b : ME → MS) : Prop where
  run : ∀ (cdv : Value) (A : Around) (outer : List Env) (s : Shared) (H : Hp) (E : XK), Room k (A.deeper (envOfC x (defScope st) s.heap.objs.size f cdv)) → A.guards = some [] → ∀ act : ME,
    (∀ (W : WX) (pn : List (Addr × Obj)) (xe : Value → Shared → Prop), Takes ((cxOf (CX P w) P w K mg base N x (defScope st) f cdv A outer s H E).tr pn xe) W → ∀ p1 p2 j p3,
      PE ((cxOf (CX P w) P w K mg base N x (defScope st) f cdv A outer s H E).tr pn xe) (.Call (.Name a p1) [.Constant (.int 0) j p3] [] p2) (rdE K W act)) →
    PSs (cxOf (CX P w) P w K mg base N x (defScope st) f cdv A outer s H E) (defBody st) (rdS K (fun cls d _ H' => E cls d H') (b act))
theorem LamFn.mono {P : Program} {w : World} {K : PySem.W.Frag} {mg : Str → Option Value} {base : Heap} {j k : Nat} {f : Addr} {x : Str} {st : Stmt} {N : List Str} {a : Str} {b : ME → MS} (F : LamFn P w K mg base j f x st N a b) (h : j ≤ k) : LamFn P w K mg base k f x st N a b :=
  ⟨fun cdv A outer s H E hr => F.run cdv A outer s H E (hr.mono h)⟩
/-! the outcome does not lie on the locals -/
end L2.Mi

/-! (a dict,) == (a text,) -/
namespace L2.Mi
open PySem PySem.Spec PyProof.Rows L2 PySem.SeqAt PySem.AutoSeq1
section
variable {K : PySem.W.Frag}
end
/-! slices of tuples, the whole too -/
end L2.Mi

/-! own == within an except suite -/
namespace L2.Mi
open PySem PySem.Spec PyProof.Rows L2
theorem _root_.L2H.RoomH.units {k : Nat} {A : Around} (r : L2H.RoomH k A) : A.units + 64 < cLine := by have := r.un; omega
/-- the def at f does what g says, also where an exception is handled; it raises none -/
structure HFn (P : Program) (w : World) (K : PySem.W.Frag) (mg : Str → Option Value) (base : Heap) (k : Nat) (f : Addr) (fd : FuncData) (ps : List Str) (g : List D → Cs → R D) : Prop where
  len : ∀ ds c, g ds c ≠ .stuck → ds.length = ps.length
  run : ∀ (A : Around) (outer : List Env) (s : Shared) (H : Hp) (args : Args) (us : List Value) (vs : List V) (Q : VK) (E : XK) (I : Hp) (m : List Addr) (c : Cs) (ds : List D) (q : Addr × Obj), L2H.RoomH k A → L2H.PinOk outer H s q → A.guards = some [] → Env0 P w K mg base A outer s H →
    BindsTo s fd args (ps.zip us) → Vals vs us → Rel K I H m c → Reps K I m vs ds → After (rD K) K I m H E Q (g ds c) → codeAny (model P w) A (.call (.ref f) args) (CR (CX P w) outer P w H s Q E) s
theorem HFn.mono {P : Program} {w : World} {K : PySem.W.Frag} {mg : Str → Option Value} {base : Heap} {j k : Nat} {f : Addr} {fd : FuncData} {ps : List Str} {g : List D → Cs → R D} (F : HFn P w K mg base j f fd ps g) (h : j ≤ k) : HFn P w K mg base k f fd ps g :=
  ⟨F.len, fun A outer s H args us vs Q E I m c ds q hr => F.run A outer s H args us vs Q E I m c ds q (hr.mono h)⟩
section
variable {X : Cx} {W : WX} {k : Nat} {tbl : Tbl} {mm : Str} {g0 : D → D → Cs → R D}
end
end L2.Mi

/-! plain reasoning, fourth part: comprehensions of two clauses -/
namespace L2.Mi
open PySem PySem.Spec PyProof.Rows L2
section
variable {α β : Type} {g g1 : MG} {t t1 : MT} {e : ME} {it it1 : MK} {js js1 : List Nat} {l lw : Ls} {c : Cs} {Q : D → Cs → Prop}
theorem compW_T {w : Wk} (xs : List α) (enc F : α → D) (P : α → Bool) (hw : ∀ i, i ≤ xs.length → w i c = some (xs.map enc)[i]?)
    (h : ∀ a ∈ xs, Ok (g (enc a) lw c) fun l1 c1 => c1 = c ∧ Ok (t l1 c) fun k c2 => k = P a ∧ c2 = c ∧ (P a = true → Ok (e l1 c) fun d c3 => d = F a ∧ c3 = c)) :
    ∀ (k n i : Nat) (acc : List D), xs.length - i = k → i ≤ xs.length → k < n → acc.length + k ≤ sizeLine → compW g t e lw w n i acc c = .ok (acc ++ ((xs.drop i).filter P).map F) c := by
  intro k
  induction k with
  | zero =>
    intro n i acc hk hi hn hl
    cases n with
    | zero => omega
    | succ n =>
      unfold compW
      rw [hw i (by omega), List.getElem?_eq_none (by simp; omega), List.drop_eq_nil_of_le (by omega)]
      simp
  | succ k ih =>
    intro n i acc hk hi hn hl
    cases n with
    | zero => omega
    | succ n =>
      have hi : i < xs.length := by omega
      obtain ⟨l1, c1', e1, rfl, kb, c2, e2, hkb, rfl, h3⟩ := h xs[i] (List.getElem_mem hi)
      have hd : xs.drop i = xs[i] :: xs.drop (i + 1) := List.drop_eq_getElem_cons hi
      unfold compW
      rw [hw i (by omega), List.getElem?_map, List.getElem?_eq_getElem hi]
      simp only [Option.map_some, e1, R.nox_ok, R.bind_ok, e2]
      cases qq : P xs[i] with
      | true =>
        rw [qq] at hkb
        subst hkb
        obtain ⟨d, c3, e3, rfl, rfl⟩ := h3 qq
        simp only [e3, R.nox_ok, R.bind_ok]
        rw [if_pos (by omega), ih n (i + 1) _ (by omega) (by omega) (by omega) (by simp; omega), hd, List.filter_cons_of_pos qq]
        simp
      | false =>
        rw [qq] at hkb
        subst hkb
        simp only []
        rw [ih n (i + 1) _ (by omega) (by omega) (by omega) (by omega), hd, List.filter_cons_of_neg (by rw [qq]; exact Bool.false_ne_true)]
/-- [e for x in xs if t for y in ys if t1] -/
theorem ok_lc2 (xs : List α) (enc : α → D) (P : α → Bool) (ys : α → List β) (enc2 : β → D) (P2 : α → β → Bool) (F : α → β → D) (hl : xs.length ≤ 1000)
    (hit : Ok (it l c) fun w c1 => c1 = c ∧ ∀ i, i ≤ xs.length → w i c = some (xs.map enc)[i]?)
    (h : ∀ a ∈ xs, Ok (g (enc a) (wipeL l js) c) fun l1 c1 => c1 = c ∧ Ok (t l1 c) fun k c2 => k = P a ∧ c2 = c ∧ (P a = true → (ys a).length ≤ 1000 ∧ Ok (it1 l1 c) (fun w c3 => c3 = c ∧ ∀ i, i ≤ (ys a).length → w i c = some ((ys a).map enc2)[i]?) ∧
      ∀ b ∈ ys a, Ok (g1 (enc2 b) (wipeL l1 js1) c) fun l2 c4 => c4 = c ∧ Ok (t1 l2 c) fun k c5 => k = P2 a b ∧ c5 = c ∧ (P2 a b = true → Ok (e l2 c) fun d c6 => d = F a b ∧ c6 = c)))
    (q : Q (.lst ((xs.filter P).flatMap fun a => ((ys a).filter (P2 a)).map (F a))) c) : Ok (mLc2 it js g t it1 js1 g1 t1 e l c) Q := by
  have hz : sizeLine = 16777216 := sizeLine_eq
  refine Ok.bind (hit.mono fun w c1 ⟨p1, hw⟩ => ?_)
  subst p1
  have go : ∀ (k n i : Nat) (acc : List D), xs.length - i = k → i ≤ xs.length → k < n → acc.length + 1000 * k ≤ sizeLine → comp2 g t it1 js1 g1 t1 e (wipeL l js) w n i acc c1 = .ok (acc ++ ((xs.drop i).filter P).flatMap fun a => ((ys a).filter (P2 a)).map (F a)) c1 := by
    intro k
    induction k with
    | zero =>
      intro n i acc hk hi hn hl
      cases n with
      | zero => omega
      | succ n =>
        unfold comp2
        rw [hw i (by omega), List.getElem?_eq_none (by simp; omega), List.drop_eq_nil_of_le (by omega)]
        simp
    | succ k ih =>
      intro n i acc hk hi hn hl
      cases n with
      | zero => omega
      | succ n =>
        have hi : i < xs.length := by omega
        obtain ⟨l1, c1', e1, rfl, kb, c2, e2, hkb, rfl, h3⟩ := h xs[i] (List.getElem_mem hi)
        have hd : xs.drop i = xs[i] :: xs.drop (i + 1) := List.drop_eq_getElem_cons hi
        unfold comp2
        rw [hw i (by omega), List.getElem?_map, List.getElem?_eq_getElem hi]
        simp only [Option.map_some, e1, R.nox_ok, R.bind_ok, e2]
        cases qq : P xs[i] with
        | true =>
          rw [qq] at hkb
          subst hkb
          obtain ⟨hy, ⟨w1, c3, e3, rfl, hw1⟩, h4⟩ := h3 qq
          simp only [e3, R.nox_ok, R.bind_ok]
          rw [compW_T (ys xs[i]) enc2 (F xs[i]) (P2 xs[i]) hw1 h4 (ys xs[i]).length fuelW 0 acc (by omega) (by omega) (by unfold fuelW; omega) (by omega)]
          simp only [R.bind_ok]
          have hfl := List.length_filter_le (P2 xs[i]) (ys xs[i])
          rw [ih n (i + 1) _ (by omega) (by omega) (by omega) (by simp; omega), hd, List.filter_cons_of_pos qq]
          simp
        | false =>
          rw [qq] at hkb
          subst hkb
          simp only []
          rw [ih n (i + 1) _ (by omega) (by omega) (by omega) (by omega), hd, List.filter_cons_of_neg (by rw [qq]; exact Bool.false_ne_true)]
  exact ⟨_, _, by rw [go xs.length fuelW 0 [] (by omega) (by omega) (by unfold fuelW; omega) (by simp; omega)]; rfl, by simpa using q⟩
/-- a range's walk -/
theorem ok_kr {m : MA} {n : Nat} (h : Ok (m l c) fun xs c1 => c1 = c ∧ xs = [.int (n : Int)]) (hn : n ≤ 1000000) : Ok (kFix (iR1 m) l c) fun w c1 => c1 = c ∧ ∀ i, i ≤ (List.range n).length → w i c = some ((List.range n).map fun i => D.int (i : Nat))[i]? :=
  ok_kr1 h hn ⟨rfl, fun _ _ => rfl⟩
/-- a comprehension whose list is changed later -/
theorem ok_lcMW {it : MK} {js : List Nat} (h : Ok (mLcW it js g t e l c) fun d c2 => ∃ xs, d = .lst xs ∧ Q (.ref c2.length) (c2 ++ [.lst xs])) : Ok (mLcMW it js g t e l c) Q := by
  unfold mLcW at h
  unfold mLcMW
  cases e1 : it l c with
  | stuck => rw [e1] at h; obtain ⟨_, _, h, _⟩ := h; cases h
  | exc => rw [e1] at h; obtain ⟨_, _, h, _⟩ := h; cases h
  | ok w c1 =>
    rw [e1] at h
    simp only [R.bind_ok] at h ⊢
    cases e2 : compW g t e (wipeL l js) w fuelW 0 [] c1 with
    | stuck => rw [e2] at h; obtain ⟨_, _, h, _⟩ := h; cases h
    | exc => rw [e2] at h; obtain ⟨_, _, h, _⟩ := h; cases h
    | ok xs c2 =>
      rw [e2] at h
      obtain ⟨d, c3, e3, ys, rfl, q⟩ := h
      cases e3
      exact ⟨_, _, rfl, q⟩
end
end L2.Mi

/-! for .. else -/
namespace L2.Mi
open PySem PySem.Spec PyProof.Rows L2
end L2.Mi

/-! an instance called -/
namespace L2.Mi
open PySem PySem.Spec PyProof.Rows L2 StX
section
variable {X : Cx} {W : WX} {fe e : Expr} {es : List Expr} {fo : ME} {ga : MA} {pos : Pos} {k : Nat} {tbl : Tbl}
end
end L2.Mi

namespace ScI
open PySem PySem.Spec PyProof.Rows L2 PpSet
section
variable {X : Cx}
end
end ScI
namespace ScI
open PySem
open Sem (wp)
open AutoSeq1 (wpAny_loadPart')
section
variable {prog : Program} {w : World} {A : Around} {E : Value → Shared → Prop} {s : Shared}
end
end ScI
namespace L2.Mi
open PySem PySem.Spec PyProof.Rows L2 PpSet ScI
/-! ### the members of a list of whole numbers, ascending -/
/-! ### whole numbers in a list, a tuple, a cell -/
section
variable {X : Cx} {W : WX}
/-! sorted(e) -/
/-! len(set(e)) -/
end
/-! sorted({x for x in e}) -/
section
variable {X : Cx} {W : WX}
end
end L2.Mi

/-! x == y, x != y by an own == where y may be an instance of another class -/
namespace L2.Mi
open PySem PySem.Spec PyProof.Rows L2
section
variable {X : Cx} {W : WX} {k : Nat} {tbl : Tbl} {g0 : D → D → Cs → R D} {ns : List Str}
end
/-! plain -/
section
variable {c : Cs} {x y : D} {Q : D → Cs → Prop} {n : Str} {g : List D → Cs → R D} {g0 : D → D → Cs → R D} {fs : List (Str × D)} {ns : List Str}
end
end L2.Mi

/-! zip(*rows) over texts of one length, as many as eight -/
namespace L2.Mi
open PySem PySem.Spec PyProof.Rows L2

/-- text iterators: each stands where it stands -/
def ItsAt (h : Heap) (its : List Addr) (zs : List Str) (f : Nat → Nat) : Prop :=
  ∀ (j : Nat) (it : Addr) (z : Str), its[j]? = some it → zs[j]? = some z → ∃ t, h.IsStrIter it (strIterType z) z t (f j)
section
variable {M : Model} {A : Around} {E : Value → Shared → Prop} {β : Type}
end

section
variable {prog : Program} {w : World} {A : Around} {E : Value → Shared → Prop}
theorem IsStrIter_at {h h' : Heap} {it : Addr} {ty : String} {z : Str} {t : Tok} {i : Nat} (st : h.IsStrIter it ty z t i) (k : ∀ o, h.get? it = some o → h'.get? it = some o) : h'.IsStrIter it ty z t i := by
  obtain ⟨o, h1, h2⟩ := st; exact ⟨o, k o h1, h2⟩
theorem ItsAt.at {h h' : Heap} {its : List Addr} {zs : List Str} {f : Nat → Nat} (st : ItsAt h its zs f) (k : ∀ it ∈ its, ∀ o, h.get? it = some o → h'.get? it = some o) : ItsAt h' its zs f := fun j it z e1 e2 => by
  obtain ⟨t, st⟩ := st j it z e1 e2
  exact ⟨t, IsStrIter_at st (k it (List.mem_of_getElem? e1))⟩
end
/-! ### the walk -/
/-! ### over plain values -/
/-! ### list(d) of a dict: its keys -/
end L2.Mi

/-! zip of three over lists, tuples, texts in any mix; the target is a tuple -/
namespace L2.Mi
open PySem PySem.Spec PyProof.Rows L2
end L2.Mi

/-! [f, g, ..][i](x, ..): a def chosen by index -/
namespace L2.Mi
open PySem PySem.Spec PyProof.Rows L2
section
variable {X : Cx} {W : WX} {e : Expr} {es : List Expr} {fe : Expr} {fi : ME} {ga gt : MA} {pos : Pos}
end
/-! ### three names as a comprehension's target -/
end L2.Mi

/-! lambdas that are kept in a list and called by a comprehension -/
namespace LamZ
open PySem PySem.Spec PyProof.Rows L2 LamX LamY
section
variable {X : Cx} {pins : List (Addr × Obj)} {σ : L2.St} {H HZ : Hp} {s s1 : Shared}
end
end LamZ
namespace LamZ
open PySem PySem.Spec PyProof.Rows L2 LamX LamY
section
variable {X : Cx} {pins : List (Addr × Obj)} {σ : L2.St} {elt tg iter : Expr} {ifs : List Expr} {scope : Scope} {own : List (Str × Nat)} {pos : Pos} {g : TG} {tt : TT} {te : TE} {Q : VK}
end
end LamZ
namespace L2.Mi
open PySem PySem.Spec PyProof.Rows L2 LamX LamY LamZ
/-! a def whose text does not lie on the frame's ghosts -/
end L2.Mi

/-! dicts whose keys are (text, number): made, written, walked by items() -/
namespace L2.Mi
open PySem PySem.Spec PyProof.Rows L2
def putKT (kvs : List (List Key × D)) (k : List Key) (d : D) : List (List Key × D) :=
  if (kvs.any fun kv => decide (kv.1 = k)) = true then kvs.map (fun kv => if kv.1 = k then (kv.1, d) else kv) else kvs ++ [(k, d)]
section
variable {K : PySem.W.Frag} {I : Hp} {m : List Addr}
theorem RepT.nil : RepT K I m [] [] := ⟨rfl, .nil⟩
theorem RepT.cons {k : List Key} {v : V} {d : D} {vs : List (List Key × V)} {ds : List (List Key × D)} (h : Rep K I m v d) (t : RepT K I m vs ds) : RepT K I m ((k, v) :: vs) ((k, d) :: ds) := ⟨by simp [t.1], .cons h t.2⟩
theorem RepT.inv {x : List Key × V} {vs : List (List Key × V)} {y : List Key × D} {ds : List (List Key × D)} (r : RepT K I m (x :: vs) (y :: ds)) : x.1 = y.1 ∧ Rep K I m x.2 y.2 ∧ RepT K I m vs ds := by
  obtain ⟨r1, r2⟩ := r
  simp only [List.map_cons, List.cons.injEq] at r1
  cases r2 with
  | cons h t => exact ⟨r1.1, h, r1.2, t⟩
theorem RepT.length {vs : List (List Key × V)} {ds : List (List Key × D)} (r : RepT K I m vs ds) : vs.length = ds.length := by simpa using congrArg List.length r.1
theorem RepT.ind {P : List (List Key × V) → List (List Key × D) → Prop} (h0 : P [] []) (hc : ∀ (k : List Key) (v : V) (d : D) (vs : List (List Key × V)) (ds : List (List Key × D)), Rep K I m v d → RepT K I m vs ds → P vs ds → P ((k, v) :: vs) ((k, d) :: ds)) :
    ∀ {vs : List (List Key × V)} {ds : List (List Key × D)}, RepT K I m vs ds → P vs ds := by
  intro vs
  induction vs with
  | nil => intro ds r; cases ds with
    | nil => exact h0
    | cons y ds => have := r.length; simp at this
  | cons x vs ih => intro ds r; cases ds with
    | nil => have := r.length; simp at this
    | cons y ds =>
      obtain ⟨k, v⟩ := x
      obtain ⟨k', d⟩ := y
      obtain ⟨e, h, t⟩ := r.inv
      obtain rfl : k = k' := e
      exact hc k v d vs ds h t (ih t)
theorem RepT.any {k : List Key} {vs : List (List Key × V)} {ds : List (List Key × D)} (r : RepT K I m vs ds) : (vs.any fun kv => decide (kv.1 = k)) = (ds.any fun kv => decide (kv.1 = k)) :=
  RepT.ind (P := fun vs ds => (vs.any fun kv => decide (kv.1 = k)) = (ds.any fun kv => decide (kv.1 = k))) rfl (fun k' v d vs ds _ _ ih => by simp only [List.any_cons, ih]) r
theorem RepT.put {k : List Key} {v : V} {d : D} (p : Rep K I m v d) {vs : List (List Key × V)} {ds : List (List Key × D)} (r : RepT K I m vs ds) : RepT K I m (putK vs k v) (putKT ds k d) := by
  have app : RepT K I m (vs ++ [(k, v)]) (ds ++ [(k, d)]) :=
    RepT.ind (P := fun vs ds => RepT K I m (vs ++ [(k, v)]) (ds ++ [(k, d)])) (.cons p .nil) (fun k' v' d' vs ds h _ ih => .cons h ih) r
  have mp : RepT K I m (vs.map fun kv => if kv.1 = k then (kv.1, v) else kv) (ds.map fun kv => if kv.1 = k then (kv.1, d) else kv) :=
    RepT.ind (P := fun vs ds => RepT K I m (vs.map fun kv => if kv.1 = k then (kv.1, v) else kv) (ds.map fun kv => if kv.1 = k then (kv.1, d) else kv)) .nil (fun k' v' d' vs ds h _ ih => by
      simp only [List.map_cons]
      by_cases e : k' = k
      · rw [if_pos e, if_pos e]; exact .cons p ih
      · rw [if_neg e, if_neg e]; exact .cons h ih) r
  unfold putK putKT
  rw [r.any]
  by_cases h : (ds.any fun kv => decide (kv.1 = k)) = true
  · rw [if_pos h, if_pos h]; exact mp
  · rw [if_neg h, if_neg h]; exact app
def getKT (ds : List (List Key × D)) (k : List Key) : Option D := (ds.find? fun kv => decide (kv.1 = k)).map (·.2)
theorem RepT.get {k : List Key} {d : D} {vs : List (List Key × V)} {ds : List (List Key × D)} (r : RepT K I m vs ds) : getKT ds k = some d → ∃ v, valV vs k = some v ∧ Rep K I m v d :=
  RepT.ind (P := fun vs ds => getKT ds k = some d → ∃ v, valV vs k = some v ∧ Rep K I m v d) (fun e => by cases e) (fun k1 v d' vs ds h t ih e => by
    unfold getKT at e
    unfold valV
    rw [List.find?_cons] at e ⊢
    by_cases hk : k1 = k
    · simp only [hk, decide_true] at e ⊢
      cases e
      exact ⟨_, rfl, h⟩
    · simp only [hk, decide_false] at e ⊢
      exact ih e) r
theorem RepT.at_ {vs : List (List Key × V)} {ds : List (List Key × D)} (r : RepT K I m vs ds) : ∀ {i : Nat} {k : List Key} {d : D}, ds[i]? = some (k, d) → ∃ v, vs[i]? = some (k, v) ∧ Rep K I m v d :=
  RepT.ind (P := fun vs ds => ∀ {i : Nat} {k : List Key} {d : D}, ds[i]? = some (k, d) → ∃ v, vs[i]? = some (k, v) ∧ Rep K I m v d) (fun e => by simp at e) (fun k' v d' vs ds h t ih => by
    intro i k d e
    cases i with
    | zero => simp at e; obtain ⟨rfl, rfl⟩ := e; exact ⟨v, rfl, h⟩
    | succ i => exact ih (by simpa using e)) r
end
section
variable {K : PySem.W.Frag} {I H : Hp} {m : List Addr} {c : Cs}
end
section
variable {X : Cx} {W : WX} {pos : Pos}
end
end L2.Mi

/-! items() of a dict whose keys are tuples: the dict is locked for good -/
namespace L2.Mi
open PySem PySem.Spec PyProof.Rows L2
section
variable {P : Program} {w : World} {K : PySem.W.Frag} {d : Addr} {o : Obj} {es : Array DictEntry} {ep : Nat}
end
end L2.Mi

/-! dicts with tuple keys: d[t], t in d, len(d), {t: v}, dict(pairs) -/
namespace L2.Mi
open PySem PySem.Spec PyProof.Rows L2
theorem RepT.val {K : PySem.W.Frag} {I : Hp} {m : List Addr} {k : List Key} {vs : List (List Key × V)} {ds : List (List Key × D)} (r : RepT K I m vs ds) : (valV vs k).isSome = (getKT ds k).isSome :=
  RepT.ind (P := fun vs ds => (valV vs k).isSome = (getKT ds k).isSome) rfl (fun k1 v d' vs ds h t ih => by
    unfold getKT valV at ih ⊢
    rw [List.find?_cons, List.find?_cons]
    by_cases hk : k1 = k
    · simp only [hk, decide_true]; rfl
    · simp only [hk, decide_false]; exact ih) r
section
variable {X : Cx} {W : WX} {o i : Expr} {fo fi : ME} {pos : Pos}
end
/-- dict(pairs) -/
def mergeT (kvs more : List (List Key × V)) : List (List Key × V) := more.foldl (fun acc kv => putK acc kv.1 kv.2) kvs
def mergeTD (kvs more : List (List Key × D)) : List (List Key × D) := more.foldl (fun acc kv => putKT acc kv.1 kv.2) kvs
theorem RepT.merge {K : PySem.W.Frag} {I : Hp} {m : List Addr} {more : List (List Key × V)} {md : List (List Key × D)} (r : RepT K I m more md) : ∀ {kvs : List (List Key × V)} {ks : List (List Key × D)}, RepT K I m kvs ks → RepT K I m (mergeT kvs more) (mergeTD ks md) :=
  RepT.ind (P := fun more md => ∀ {kvs : List (List Key × V)} {ks : List (List Key × D)}, RepT K I m kvs ks → RepT K I m (mergeT kvs more) (mergeTD ks md)) (fun q => q) (fun k v d vs ds h t ih => by
    intro kvs ks q
    exact ih (q.put h)) r
end L2.Mi

/-! for t in a dict whose keys are (text, number): the dict is locked for good, the keys are known -/
namespace L2.Mi
open PySem PySem.Spec PyProof.Rows L2
end L2.Mi

/-! first, *others = a list -/
namespace L2.Mi
open PySem PySem.Spec PyProof.Rows L2
section
variable {prog : Program} {w : World} {A : Around} {E : Value → Shared → Prop} {s : Shared}
end
theorem u2 {A : Around} {k : Nat} (hr : Room k A) : A.units + 2 < cLine := by have := hr.un; omega
end L2.Mi

/-! xs[lo:hi:step] of a list: a new list that is changed later (a cell) -/
namespace L2.Mi
open PySem PySem.Spec PyProof.Rows L2
section
variable {X : Cx} {W : WX} {e : Expr} {lo hi st : Option Expr} {te : TE} {tl th tk : TO} {p2 pos : Pos}
end
end L2.Mi

/-! sets of tuples of whole numbers and texts: what adding does to such a set, and how many members it has -/
namespace SetM
open PySem PySem.Spec PyProof.Rows L2
section
variable {P : Program} {w : World} {A : Around} {E : Value → Shared → Prop} {s : Shared}
abbrev hsh (P : Program) (w : World) (k : List Key) : Int := tupleKeyHash (mixKind P w) k
abbrev IsM (P : Program) (w : World) (h : Heap) (k : List Key) (a : Addr) : Prop := IsTupleKey (mixKind P w) h k a
def Leaf (v : Value) : Prop := (∃ i t, v = Value.int i t) ∨ ∃ x t, v = Value.str x t
theorem leaves {k : List Key} {vs : List Value} (h : ItemsAre (mixKind P w) k vs) : ∀ v ∈ vs, Leaf v := by
  induction h with
  | nil => intro v hv; cases hv
  | cons h1 _ ih =>
    intro v hv
    rcases List.mem_cons.mp hv with rfl | hv
    · rcases keyIs_shape h1 with ⟨i, t, _, e⟩ | ⟨x, t, _, e⟩
      · exact .inl ⟨i, t, e⟩
      · exact .inr ⟨x, t, e⟩
    · exact ih v hv
theorem leaf_cls (n : Nat) {v : Value} (h : Leaf v) : ofAClassStatement n v = pure false := by
  rcases h with ⟨i, t, rfl⟩ | ⟨x, t, rfl⟩ <;> cases n <;> rfl
theorem leaf_hash (n : Nat) {v : Value} (h : Leaf v) : ∃ b, hashByValue n v = pure b := by
  rcases h with ⟨i, t, rfl⟩ | ⟨x, t, rfl⟩
  · exact ⟨true, by cases n <;> rfl⟩
  · exact ⟨false, by cases n <;> rfl⟩
theorem tup_cls {k : List Key} {b : Addr} {Q : Bool → Shared → Prop} (hk : IsM P w s.heap k b) (q : Q false s) : wpAny (model P w) A (ofAClassStatement 8 (.ref b)) Q E s := by
  have hT := hk.typeIs
  obtain ⟨o, items, n, ho, _, hd, hi⟩ := hk
  have hl := leaves hi
  unfold ofAClassStatement
  refine wpAny_bind (wpAny_typeOf hT ?_)
  have e : (("tuple" : String) == "tuple") = true := by decide
  simp only [e, if_true]
  try refine wpAny_bind (wpAny_pure ?_)
  simp only [Bool.not_true, Bool.false_eq_true, if_false]
  refine wpAny_bind (wpAny_seqItems ho hd ?_)
  dsimp only
  refine wpAny_bind ?_
  rw [← Array.forIn_toList]
  refine wpAny_forIn_list _ (fun rest r s' => (∀ v ∈ rest, Leaf v) ∧ s' = s ∧ r.1 = none) _ ?_ ?_ _ _ ⟨hl, rfl, rfl⟩
  · rintro v rest r s' ⟨hv, rfl, hr⟩
    rw [leaf_cls 7 (hv v List.mem_cons_self)]
    refine wpAny_bind (wpAny_pure ?_)
    simp only [Bool.false_eq_true, if_false]
    exact wpAny_pure ⟨fun u hu => hv u (List.mem_cons_of_mem _ hu), rfl, rfl⟩
  · rintro ⟨r1, r2⟩ s' ⟨_, rfl, hr⟩
    have hr : r1 = none := hr
    subst hr
    exact wpAny_pure q
theorem tup_hash {k : List Key} {b : Addr} {Q : Bool → Shared → Prop} (hk : IsM P w s.heap k b) (q : ∀ z, Q z s) : wpAny (model P w) A (hashByValue 8 (.ref b)) Q E s := by
  have hT := hk.typeIs
  obtain ⟨o, items, n, ho, _, hd, hi⟩ := hk
  have hl := leaves hi
  unfold hashByValue
  refine wpAny_bind (wpAny_specialOf hT F.slot_tuple_hash.lookup ?_)
  show wpAny _ _ (seqItems? (.ref b) >>= _) _ _ s
  refine wpAny_bind (wpAny_seqItems ho hd ?_)
  refine wpAny_bind ?_
  show wpAny _ _ (forIn items _ _) _ _ s
  rw [← Array.forIn_toList]
  refine wpAny_forIn_list _ (fun rest r s' => (∀ v ∈ rest, Leaf v) ∧ s' = s ∧ r.1 = none) _ ?_ ?_ _ _ ⟨hl, rfl, rfl⟩
  · rintro v rest r s' ⟨hv, rfl, hr⟩
    obtain ⟨z, e⟩ := leaf_hash 7 (hv v List.mem_cons_self)
    rw [e]
    refine wpAny_bind (wpAny_pure ?_)
    cases z with
    | true =>
      simp only [Bool.not_true, Bool.false_eq_true, if_false]
      exact wpAny_pure ⟨fun u hu => hv u (List.mem_cons_of_mem _ hu), rfl, rfl⟩
    | false =>
      simp only [Bool.not_false, if_true]
      exact wpAny_pure (wpAny_pure (q false))
  · rintro ⟨r1, r2⟩ s' ⟨_, rfl, hr⟩
    have hr : r1 = none := hr
    subst hr
    exact wpAny_pure (q true)
theorem tup_seen {k : List Key} {b : Addr} {Q : Bool → Shared → Prop} (hk : IsM P w s.heap k b) {ys : List Value} (hy : ∀ y ∈ ys, ∃ k' c, y = Value.ref c ∧ IsM P w s.heap k' c) (q : Q false s) :
    wpAny (model P w) A (searchCouldBeSeen (.ref b) ys) Q E s := by
  unfold searchCouldBeSeen
  refine wpAny_bind ?_
  refine wpAny_forIn_list _ (fun rest r s' => (∀ y ∈ rest, ∃ k' c, y = Value.ref c ∧ IsM P w s.heap k' c) ∧ s' = s ∧ r.1 = none) _ ?_ ?_ _ _ ⟨hy, rfl, rfl⟩
  · rintro v rest r s' ⟨hv, rfl, hr⟩
    obtain ⟨k', c, rfl, hc⟩ := hv v List.mem_cons_self
    have next := fun u hu => hv u (List.mem_cons_of_mem _ hu)
    dsimp only
    by_cases z : (b == c || (carriedByValue (.ref b) && carriedByValue (.ref c))) = true
    · exact wp_if_pos z (wpAny_pure ⟨next, rfl, rfl⟩)
    · refine wp_if_neg z ?_
      refine wpAny_bind (wpAny_eqIsQuiet_tuple hk ?_)
      simp only [Bool.not_true, Bool.false_eq_true, if_false]
      refine wpAny_bind (wpAny_eqIsQuiet_tuple hc ?_)
      simp only [Bool.not_true, Bool.false_eq_true, if_false]
      refine wpAny_bind (tup_cls hk ?_)
      simp only [Bool.false_eq_true, if_false]
      refine wpAny_bind (tup_cls hc ?_)
      simp only [Bool.false_eq_true, if_false]
      exact wpAny_pure ⟨next, rfl, rfl⟩
  · rintro ⟨r1, r2⟩ s' ⟨_, rfl, hr⟩
    have hr : r1 = none := hr
    subst hr
    exact wpAny_pure q
/-! ### the state of such a set -/
def ents (P : Program) (w : World) (L : List (Addr × List Key)) : List (Int × Value) := L.map fun p => (hsh P w p.2, Value.ref p.1)
structure SetMR (P : Program) (w : World) (h : Heap) (a : Addr) (L : List (Addr × List Key)) (es : Array (Int × Value)) (ep : Nat) (t : SetTable) : Prop where
  ob : ∃ o, h.get? a = some o ∧ o.ExactSet ∧ o.data = .set es ep t
  rows : es.toList = ents P w L
  tab : TabOk t (L.map fun p => hsh P w p.2)
  nd : (L.map (·.2)).Nodup
  tup : ∀ p ∈ L, IsM P w h p.2 p.1
  room : L.length * 5 < t.mask * 3
  few : L.length < 64
variable {a : Addr} {L : List (Addr × List Key)} {es : Array (Int × Value)} {ep : Nat} {t : SetTable}
theorem ents_size (h : es.toList = ents P w L) : es.size = L.length := by
  have e := congrArg List.length h
  unfold ents at e
  rwa [Array.length_toList, List.length_map] at e
theorem ents_at (h : es.toList = ents P w L) {i : Nat} {p : Addr × List Key} (hp : L[i]? = some p) : es[i]? = some (hsh P w p.2, Value.ref p.1) := by
  rw [← Array.getElem?_toList, h]
  unfold ents
  rw [List.getElem?_map, hp]
  rfl
theorem fits_of {n : Nat} (hn : t.place.size = n) (hd : t.dummies = #[]) (hm : n ≤ t.mask) : t.fits n = true := by
  unfold SetTable.fits SetTable.fill
  rw [hd, hn, Bool.and_eq_true, beq_iff_eq, decide_eq_true_eq]
  exact ⟨rfl, by simpa using hm⟩
theorem SetMR.plc (R : SetMR P w s.heap a L es ep t) : t.place.size = L.length := by
  have := R.tab.sz
  rwa [List.length_map] at this
theorem SetMR.fits (R : SetMR P w s.heap a L es ep t) : t.fits es.size = true := by
  have h1 := R.plc
  have h2 := ents_size R.rows
  have h3 := R.room
  exact fits_of (by omega) R.tab.dm (by omega)
theorem odd_gw {m : Nat} (h : MaskOk m) (hm : t.mask = m) : ¬ t.gaveWay = true := by
  unfold SetTable.gaveWay
  rw [hm, mask_odd h]
  decide
/-- the probe's c-th state -/
abbrev stt (m : Nat) (h : Int) (c : Nat) : SetTable.Probe := nth m (runAt m (SetTable.bits h % (m + 1)) (SetTable.bits h)) c
theorem stt_dummy (m : Nat) (h : Int) : ∀ c, (stt m h c).dummy = none := by
  have key : ∀ (c : Nat) (p : SetTable.Probe), p.dummy = none → (nth m p c).dummy = none := by
    intro c
    induction c with
    | zero => exact fun p h => h
    | succ c ih =>
      intro p hp
      refine ih (adv m p) ?_
      unfold adv
      split <;> exact hp
  exact fun c => key c _ rfl
theorem stt_add (m : Nat) (h : Int) (c q : Nat) : nth m (stt m h c) q = stt m h (c + q) := (nth_add m c _ q).symm
/-- the search, begun at the c-th place of the way -/
theorem find_from (R : SetMR P w s.heap a L es ep t) {x : Addr} {k : List Key} (hx : IsM P w s.heap k x) (hu : A.units < cLine) {N : Nat} (hN : N < 10 * SetTable.turns t.mask)
    (free : way t.mask (hsh P w k) N ∉ t.place.toList) (full : ∀ c, c < N → way t.mask (hsh P w k) c ∈ t.place.toList) {Q : SetFound → Shared → Prop}
    (q1 : k ∈ L.map (·.2) → Q (.there none) s) (q2 : k ∉ L.map (·.2) → Q (.free (way t.mask (hsh P w k) N) false) s) :
    ∀ (f c : Nat) (stand : Option SetTable.Probe), stand.getD (t.probeStart (hsh P w k)) = stt t.mask (hsh P w k) c → c ≤ N → N - c < f →
      (∀ (i : Nat) p, L[i]? = some p → p.2 = k → ∃ c', c ≤ c' ∧ c' < N ∧ t.place.toList[i]? = some (way t.mask (hsh P w k) c')) →
      wpAny (model P w) A (setSearchFrom a (.ref x) (hsh P w k) true f stand) Q E s := by
  obtain ⟨o, ho, hex, hd⟩ := R.ob
  intro f
  induction f with
  | zero => exact fun c stand _ _ hf _ => absurd hf (Nat.not_lt_zero _)
  | succ f ih =>
    intro c stand hst hc hf ahead
    rw [setSearchFrom_succ]
    refine wpAny_bind (wpAny_setState_of ho hd R.fits ?_)
    dsimp only
    refine wp_if_neg (odd_gw R.tab.mok rfl) ?_
    try refine wpAny_bind (wpAny_pure ?_)
    have wy : ∀ q, (nth t.mask (stt t.mask (hsh P w k) c) q).j = way t.mask (hsh P w k) (c + q) := fun q => congrArg SetTable.Probe.j (stt_add ..)
    have hcN : c + (N - c) = N := by omega
    have hash_at : ∀ (i : Nat) p, L[i]? = some p → (fun i => (es[i]?.map (·.1)).getD 0) i = hsh P w p.2 := fun i p hp => by
      show (es[i]?.map (·.1)).getD 0 = _
      rw [ents_at R.rows hp]
      rfl
    rcases go_spec t R.tab.ris R.tab.dm (fun i => (es[i]?.map (·.1)).getD 0) (hsh P w k) (10 * SetTable.turns t.mask) (N - c) _ (stt_dummy t.mask (hsh P w k) c) (by omega)
      (fun q hq => by rw [wy]; exact full (c + q) (by omega)) (by rw [wy, hcN]; exact free) with ⟨q, i, hq, hi, _, older, hpr⟩ | ⟨older, hpr⟩
    · -- an entry of the same hash
      have hpr' : t.probe (fun i => (es[i]?.map (·.1)).getD 0) (hsh P w k) (stand.getD (t.probeStart (hsh P w k))) = some (.candidate (way t.mask (hsh P w k) (c + q)) i (stt t.mask (hsh P w k) (c + (q + 1)))) := by
        rw [hst, ← wy, ← stt_add]
        exact hpr
      rw [hpr']
      dsimp only
      rw [wy] at hi
      obtain ⟨p, hp⟩ : ∃ p, L[i]? = some p := ⟨_, List.getElem?_eq_getElem (by
        have h1 := (List.getElem?_eq_some_iff.mp hi).1
        rw [Array.length_toList, R.plc] at h1
        exact h1)⟩
      have hpm : p ∈ L := List.mem_of_getElem? hp
      have hent := ents_at R.rows hp
      have body : wpAny (model P w) A (searchRest a (.ref x) (hsh P w k) true f es t (way t.mask (hsh P w k) (c + q)) i (stt t.mask (hsh P w k) (c + (q + 1)))) Q E s := by
        unfold searchRest
        rw [hent]
        dsimp only
        refine wpAny_bind (wpAny_holding (wpAny_eqBool_tuple hu (R.tup p hpm) hx ?_))
        refine wpAny_bind (wpAny_setState_of ho hd R.fits ?_)
        dsimp only
        by_cases hk : p.2 = k
        · exact wp_if_pos (by simp [hk]) (wpAny_pure (q1 (List.mem_map.mpr ⟨p, hpm, hk⟩)))
        · refine wp_if_neg (by simp [hk]) ?_
          try refine wpAny_bind (wpAny_pure ?_)
          rw [sameMem]
          dsimp only
          have hsl : t.slot (way t.mask (hsh P w k) (c + q)) = .live i := slot_live R.tab.ris hi
          simp only [if_true, hsl, hent]
          refine wpAny_bind (wpAny_isSame_ref_self (wpAny_bind (wpAny_pure ?_)))
          simp only [if_true]
          refine wp_if_neg (by simp [hk]) ?_
          refine ih (c + (q + 1)) _ rfl (by omega) (by omega) fun i0 p0 h0 hk0 => ?_
          obtain ⟨c', a1, a2, a3⟩ := ahead i0 p0 h0 hk0
          have ne1 : ¬ c' < c + q := fun z => older (c' - c) i0 (by omega) (by rw [wy, show c + (c' - c) = c' by omega]; exact a3) ((hash_at i0 p0 h0).trans (congrArg (hsh P w) hk0))
          have ne2 : c' ≠ c + q := fun z => by
            rw [z] at a3
            have e := slot_live R.tab.ris a3
            rw [hsl] at e
            injection e with e
            rw [← e, hp] at h0
            exact hk ((congrArg Prod.snd (Option.some.inj h0)).trans hk0)
          exact ⟨c', by omega, a2, a3⟩
      by_cases hl : t.led = true
      · refine wp_if_neg (by simp [hl]) ?_
        try refine wpAny_bind (wpAny_pure ?_)
        exact body
      · refine wp_if_pos (by simp [hl]) ?_
        refine wpAny_bind (tup_seen hx (fun y hy => ?_) ?_)
        · obtain ⟨e, he, ee⟩ := List.mem_map.mp hy
          have he1 : e ∈ es ∧ e.1 = hsh P w k := by simpa using he
          have he2 : e ∈ es.toList := by simpa using he1.1
          rw [R.rows] at he2
          obtain ⟨p2, hp2, e2⟩ := List.mem_map.mp he2
          exact ⟨p2.2, p2.1, by rw [← ee, ← e2], R.tup p2 hp2⟩
        · refine wp_if_neg (by decide) ?_
          try refine wpAny_bind (wpAny_pure ?_)
          exact body
    · -- a free slot
      have hpr' : t.probe (fun i => (es[i]?.map (·.1)).getD 0) (hsh P w k) (stand.getD (t.probeStart (hsh P w k))) = some (.empty (way t.mask (hsh P w k) N) none) := by
        have e2 := wy (N - c)
        rw [hcN] at e2
        rw [hst, ← e2]
        exact hpr
      rw [hpr']
      dsimp only
      refine wpAny_pure (q2 fun hm => ?_)
      obtain ⟨p0, h0, hk0⟩ := List.mem_map.mp hm
      obtain ⟨i0, h00⟩ := List.mem_iff_getElem?.mp h0
      obtain ⟨c', a1, a2, a3⟩ := ahead i0 p0 h00 hk0
      exact older (c' - c) i0 (by omega) (by rw [wy, show c + (c' - c) = c' by omega]; exact a3) ((hash_at i0 p0 h00).trans (congrArg (hsh P w) hk0))
/-- the search that adding asks for -/
theorem find_at (R : SetMR P w s.heap a L es ep t) {x : Addr} {k : List Key} (hx : IsM P w s.heap k x) (hu : A.units < cLine) {Q : SetFound → Shared → Prop}
    (q1 : k ∈ L.map (·.2) → Q (.there none) s)
    (q2 : ∀ N, k ∉ L.map (·.2) → way t.mask (hsh P w k) N ∉ t.place.toList → (∀ c, c < N → way t.mask (hsh P w k) c ∈ t.place.toList) → Q (.free (way t.mask (hsh P w k) N) false) s) :
    wpAny (model P w) A (setSearch a (.ref x) (hsh P w k) true) Q E s := by
  have hroom := R.room
  obtain ⟨N, hN, free, full⟩ := R.tab.first (by rw [List.length_map]; omega) (hsh P w k)
  have hbig : N < 100000 := by
    have : 10 * SetTable.turns t.mask ≤ 1420 := by
      unfold SetTable.turns
      rcases R.tab.mok with e | e | e <;> omega
    omega
  unfold setSearch
  refine find_from R hx hu hN free full q1 (fun hn => q2 N hn free full) 100000 0 none rfl (Nat.zero_le _) (by omega) fun i p hp hk => ?_
  obtain ⟨j, hj⟩ : ∃ j, t.place.toList[i]? = some j := ⟨_, List.getElem?_eq_getElem (by rw [Array.length_toList, R.plc]; exact (List.getElem?_eq_some_iff.mp hp).1)⟩
  obtain ⟨c, hc, e⟩ := R.tab.before free (by rw [List.getElem?_map, hp, ← hk]; rfl) hj
  exact ⟨c, Nat.zero_le _, hc, by rw [hj, e]⟩
/-! ### adding -/
theorem tup_same {h h' : Heap} {k : List Key} {b : Addr} {o : Obj} (hb : IsM P w h k b) (ho : h.get? a = some o) (hd : o.data = .set es ep t) (hs : Heap.SameBut a h h') : IsM P w h' k b := by
  obtain ⟨o', items, n, ho', hc, hd', hi⟩ := hb
  refine ⟨o', items, n, (hs.2 b fun e => ?_).trans ho', hc, hd', hi⟩
  rw [e, ho] at ho'
  cases ho'
  rw [hd] at hd'
  cases hd'
/-- the entries picked by a reordering of their places -/
theorem reorder {order : Array Nat} (hr : es.toList = ents P w L) (hp : order.toList.Perm (List.range L.length)) :
    ∃ M : List (Addr × List Key), (order.filterMap (es[·]?)).toList = ents P w M ∧ M.Perm L ∧ (M.map fun p => hsh P w p.2) = order.toList.map fun i => (es.map (·.1)).getD i 0 := by
  have hall : ∀ i ∈ order.toList, i < L.length := fun i hi => List.mem_range.mp (hp.mem_iff.mp hi)
  have pick : ∀ l : List Nat, (∀ i ∈ l, i < L.length) → l.filterMap (fun i => es[i]?) = ents P w (l.filterMap fun i => L[i]?) ∧ ((l.filterMap fun i => L[i]?).map fun p => hsh P w p.2) = l.map fun i => (es.map (·.1)).getD i 0 := by
    intro l
    induction l with
    | nil => exact fun _ => ⟨rfl, rfl⟩
    | cons i l ih =>
      intro hl
      obtain ⟨p, hpi⟩ : ∃ p, L[i]? = some p := ⟨_, List.getElem?_eq_getElem (hl i List.mem_cons_self)⟩
      obtain ⟨e1, e2⟩ := ih fun j hj => hl j (List.mem_cons_of_mem _ hj)
      have e3 := ents_at hr hpi
      rw [List.filterMap_cons_some (f := fun i => es[i]?) e3, List.filterMap_cons_some (f := fun i => L[i]?) hpi, e1, List.map_cons, List.map_cons, e2]
      refine ⟨rfl, ?_⟩
      have e5 : (es.map (·.1))[i]? = some (hsh P w p.2) := by rw [Array.getElem?_map, e3]; rfl
      simp [Array.getD_eq_getD_getElem?, e5]
  obtain ⟨e1, e2⟩ := pick order.toList hall
  refine ⟨order.toList.filterMap fun i => L[i]?, by first | (rw [Array.toList_filterMap]; exact e1) | simpa using e1, ?_, e2⟩
  have all : ∀ (xs : List (Addr × List Key)), (List.range xs.length).filterMap (fun i => xs[i]?) = xs := by
    intro xs
    induction xs with
    | nil => rfl
    | cons x xs ih =>
      rw [List.length_cons, List.range_succ_eq_map, List.filterMap_cons_some (f := fun i => (x :: xs)[i]?) (a := 0) (b := x) rfl, List.filterMap_map]
      exact congrArg (x :: ·) ih
  have := hp.filterMap fun i => L[i]?
  rw [all L] at this
  exact this
/-- the table laid anew -/
theorem grow_at {o : Obj} (ho : s.heap.get? a = some o) (hex : o.ExactSet) (hd : o.data = .set es ep t) (hr : es.toList = ents P w L) (hsz : t.place.size = es.size) (hdm : t.dummies = #[]) (hfl : es.size ≤ t.mask)
    (nd : (L.map (·.2)).Nodup) (tup : ∀ p ∈ L, IsM P w s.heap p.2 p.1) (few : L.length < 64) {wanted M : Nat}
    (hw : SetTable.sizeAbove wanted - 1 = M) (hM : MaskOk M) (hw2 : SetTable.sizeAbove wanted ≤ 128) (hn : L.length * 5 < M * 3) {Q : Unit → Shared → Prop}
    (q : ∀ h' L' es' ep' t', Heap.SameBut a s.heap h' → SetMR P w h' a L' es' ep' t' → L'.Perm L → Q () { s with heap := h' }) : wpAny (model P w) A (setRelay a wanted) Q E s := by
  have hsl := ents_size hr
  obtain ⟨t', order, e, hp, T, em, _, _, ed⟩ := relaid_ok t (hs := es.map (·.1)) (wanted := wanted) hw hM (by rw [Array.size_map]; omega)
  rw [Array.size_map, hsl] at hp
  obtain ⟨L2, r1, r2, r3⟩ := reorder hr hp
  rw [← r3] at T
  have hs2 : (order.filterMap (es[·]?)).size = es.size := by rw [ents_size r1, r2.length_eq, hsl]
  rw [setRelay_eq]
  refine wpAny_bind (wpAny_setState_of ho hd (fits_of hsz hdm hfl) ?_)
  dsimp only
  refine wp_if_neg (by rw [sizeLine_eq]; omega) ?_
  try refine wpAny_bind (wpAny_pure ?_)
  rw [e]
  dsimp only
  refine wpAny_bind ?_
  refine wp_if_neg (by rw [hs2]; simp) ?_
  try refine wpAny_bind (wpAny_pure ?_)
  refine wpAny_pure ?_
  dsimp only
  refine wpAny_storeSet_of ho hd ?_ (by rw [hs2, hsl, sizeLine_eq]; omega)
  have sb : Heap.SameBut a s.heap (s.heap.update a (Obj.putSet (order.filterMap (es[·]?)) t')) := Heap.SameBut.update ..
  refine q _ L2 (order.filterMap (es[·]?)) (ep + 1) t' sb ⟨⟨_, store_at ho hd, ⟨hex.1, hex.2.1, hex.2.2⟩, rfl⟩, r1, T, ?_, fun p hpm => tup_same (tup p (r2.mem_iff.mp hpm)) ho hd sb, ?_, ?_⟩ r2
  · exact (r2.map (·.2)).nodup_iff.mpr nd
  · rw [r2.length_eq, em]; exact hn
  · rw [r2.length_eq]; exact few
theorem perm_in {α : Type} (l : List α) (p : Nat) (x : α) : (l.take p ++ x :: l.drop p).Perm (x :: l) := by
  have := List.perm_middle (a := x) (l₁ := l.take p) (l₂ := l.drop p)
  rwa [List.take_append_drop] at this
/-- what adding a tuple does -/
theorem put_at (R : SetMR P w s.heap a L es ep t) {x : Addr} {k : List Key} (hx : IsM P w s.heap k x) (hu : A.units < cLine) (few : L.length + 1 < 64) {Q : Bool → Shared → Prop}
    (q : ∀ b h' L' es' ep' t', Heap.SameBut a s.heap h' → SetMR P w h' a L' es' ep' t' → (k ∈ L.map (·.2) → L' = L) → (k ∉ L.map (·.2) → L'.Perm ((x, k) :: L)) → Q b { s with heap := h' }) :
    wpAny (model P w) A (setAddHashed a (.ref x) (hsh P w k)) Q E s := by
  obtain ⟨o, ho, hex, hd⟩ := R.ob
  have hsl := ents_size R.rows
  have hroom := R.room
  unfold setAddHashed
  refine wpAny_holding ?_
  rw [show (100000 : Nat) = 99999 + 1 from rfl, setAddHashedIn_succ]
  refine wpAny_bind (wpAny_setState_of ho hd R.fits ?_)
  dsimp only
  refine wp_if_neg (by simp [byScan, Value.scannable]) ?_
  try refine wpAny_bind (wpAny_pure ?_)
  refine wpAny_bind (find_at R hx hu (fun hm => ?_) fun N hm free full => ?_)
  · exact wpAny_pure (q false s.heap L es ep t (Heap.SameBut.refl a s.heap) R (fun _ => rfl) fun z => absurd hm z)
  · dsimp only
    refine wpAny_bind (wpAny_setState_of ho hd R.fits ?_)
    dsimp only
    obtain ⟨u1, u2, u3, u4, _, _, _, _, u9⟩ := R.tab.put free full
    generalize hpt : t.put (way t.mask (hsh P w k) N) = pt at u1 u3 u4 u9 ⊢
    obtain ⟨t1, p⟩ := pt
    dsimp only at u1 u3 u4 u9 ⊢
    subst u1
    -- whether it goes by value is not asked
    have go : ∀ t2 : SetTable, t2.place = t1.place → t2.mask = t1.mask → t2.dummies = t1.dummies → wpAny (model P w) A (do
        storeSet a (SetTable.insertAt es (SetTable.below t.place (way t.mask (hsh P w k) N)) (hsh P w k, Value.ref x)) t2
        if (!false && t2.tooFull) = true then setRelay a (SetTable.grown (es.size + 1))
        return true) Q E s := fun t2 g1 g2 g3 => by
      have T2 : TabOk t2 ((L.map fun p => hsh P w p.2).take (SetTable.below t.place (way t.mask (hsh P w k) N)) ++ hsh P w k :: (L.map fun p => hsh P w p.2).drop (SetTable.below t.place (way t.mask (hsh P w k) N))) :=
        ⟨by rw [g1]; exact u3.ris, by rw [g3]; exact u3.dm, by rw [g1]; exact u3.sz, by rw [g2]; exact u3.mok, by rw [g1, g2]; exact u3.bd, by rw [g1, g2]; exact u3.reach⟩
      have hin : (SetTable.insertAt es (SetTable.below t.place (way t.mask (hsh P w k) N)) (hsh P w k, Value.ref x)).toList = ents P w (L.take (SetTable.below t.place (way t.mask (hsh P w k) N)) ++ (x, k) :: L.drop (SetTable.below t.place (way t.mask (hsh P w k) N))) := by
        rw [SetTable.toList_insertAt, R.rows]
        unfold ents
        rw [List.map_append, List.map_cons, List.map_take, List.map_drop]
      generalize SetTable.below t.place (way t.mask (hsh P w k) N) = p at T2 hin ⊢
      have pm := perm_in L p (x, k)
      have hhs : (L.take p ++ (x, k) :: L.drop p).map (fun p => hsh P w p.2) = (L.map fun p => hsh P w p.2).take p ++ hsh P w k :: (L.map fun p => hsh P w p.2).drop p := by
        rw [List.map_append, List.map_cons, List.map_take, List.map_drop]
      rw [← hhs] at T2
      generalize SetTable.insertAt es p (hsh P w k, Value.ref x) = es1 at hin ⊢
      generalize L.take p ++ (x, k) :: L.drop p = L1 at pm T2 hin
      have hlen : L1.length = L.length + 1 := pm.length_eq
      have hes := ents_size hin
      have nd1 : (L1.map (·.2)).Nodup := (pm.map (·.2)).nodup_iff.mpr (List.nodup_cons.mpr ⟨hm, R.nd⟩)
      refine wpAny_bind (wpAny_storeSet_of ho hd ?_ (by rw [hes, hlen, sizeLine_eq]; omega))
      have sb : Heap.SameBut a s.heap (s.heap.update a (Obj.putSet es1 t2)) := Heap.SameBut.update ..
      have ho1 := store_at (es' := es1) (t' := t2) ho hd
      generalize s.heap.update a (Obj.putSet es1 t2) = h1 at sb ho1 ⊢
      have tup1 : ∀ p ∈ L1, IsM P w h1 p.2 p.1 := fun p hp => by
        rcases List.mem_cons.mp (pm.mem_iff.mp hp) with e | hp
        · rw [e]; exact tup_same hx ho hd sb
        · exact tup_same (R.tup p hp) ho hd sb
      have hsz2 : t2.place.size = es1.size := by
        have h := T2.sz
        rw [List.length_map] at h
        rw [h, hes]
      have hmask : t2.mask = t.mask := g2.trans u4
      have hfull : t2.tooFull = decide ((L.length + 1) * 5 ≥ t.mask * 3) := by
        unfold SetTable.tooFull SetTable.fill
        rw [hsz2, hes, hlen, T2.dm, hmask]
        rfl
      by_cases hf : t2.tooFull = true
      · have hf2 : (L.length + 1) * 5 ≥ t.mask * 3 := of_decide_eq_true (hfull ▸ hf)
        have two : (t.mask = 7 ∧ L.length = 4) ∨ (t.mask = 31 ∧ L.length = 18) := by
          rcases R.tab.mok with e | e | e
          · left; rw [e] at hroom hf2; exact ⟨e, by omega⟩
          · right; rw [e] at hroom hf2; exact ⟨e, by omega⟩
          · rw [e] at hf2; omega
        have again : ∀ M, SetTable.sizeAbove (SetTable.grown (L.length + 1)) - 1 = M → MaskOk M → SetTable.sizeAbove (SetTable.grown (L.length + 1)) ≤ 128 → (L.length + 1) * 5 < M * 3 →
            wpAny (model P w) A (setRelay a (SetTable.grown (es.size + 1))) (fun _ s' => wpAny (model P w) A (pure true) Q E s') E { s with heap := h1 } := fun M a1 a2 a3 a4 => by
          rw [hsl]
          refine grow_at (s := { s with heap := h1 }) ho1 ⟨hex.1, hex.2.1, hex.2.2⟩ rfl hin hsz2 T2.dm (by rw [hes, hlen, hmask]; rcases two with ⟨e, e2⟩ | ⟨e, e2⟩ <;> omega) nd1 tup1 (by omega) a1 a2 a3 (by rw [hlen]; exact a4) ?_
          intro h2 L2 es2 ep2 t2' sb2 R2 pm2
          exact wpAny_pure (q true h2 L2 es2 ep2 t2' (sb.trans sb2) R2 (fun z => absurd z hm) fun _ => pm2.trans pm)
        first
          | (refine wpAny_bind ?_; refine wp_if_pos (by simp [hf]) ?_)
          | (refine wp_if_pos (by simp [hf]) ?_; refine wpAny_bind ?_)
        rcases two with ⟨_, e2⟩ | ⟨_, e2⟩
        · exact again 31 (by rw [e2, size_20]) (.inr (.inl rfl)) (by rw [e2, size_20]; decide) (by omega)
        · exact again 127 (by rw [e2, size_76]) (.inr (.inr rfl)) (by rw [e2, size_76]; decide) (by omega)
      · have hf2 : ¬ (L.length + 1) * 5 ≥ t.mask * 3 := fun z => hf (by rw [hfull]; exact decide_eq_true z)
        first
          | refine wp_if_neg (by simp [hf]) ?_
          | (refine wpAny_bind ?_; refine wp_if_neg (by simp [hf]) ?_; refine wpAny_pure ?_)
        exact wpAny_pure (q true h1 L1 es1 (ep + 1) t2 sb ⟨⟨_, ho1, ⟨hex.1, hex.2.1, hex.2.2⟩, rfl⟩, hin, T2, nd1, tup1, by rw [hlen, hmask]; omega, by omega⟩ (fun z => absurd z hm) fun _ => pm)
    by_cases hpl : t1.plain = true
    · first
        | (refine wpAny_bind ?_; refine wp_if_pos hpl ?_; refine tup_hash hx fun z => ?_)
        | refine wp_if_pos hpl (wpAny_bind (tup_hash hx fun z => ?_))
      cases z with
      | true => simp only [if_true]; exact go t1 rfl rfl rfl
      | false => simp only [Bool.false_eq_true, if_false]; exact go { t1 with plain := false } rfl rfl rfl
    · first
        | (refine wpAny_bind ?_; refine wp_if_neg hpl ?_; refine wpAny_pure ?_)
        | refine wp_if_neg hpl (wpAny_bind (wpAny_pure ?_))
      simp only [if_true]
      exact go t1 rfl rfl rfl
end
end SetM

namespace SetM
open PySem PySem.Spec PyProof.Rows L2 PpSet
section
structure Set0 (P : Program) (w : World) (h : Heap) (a : Addr) (L : List (Addr × List Key)) : Prop where
  ex : ∃ (es : Array (Int × Value)) (ep : Nat) (t : SetTable), (∃ o, h.get? a = some o ∧ o.ExactSet ∧ o.data = .set es ep t) ∧ es.toList = ents P w L ∧ TabOk t (L.map fun p => hsh P w p.2) ∧ (L.map (·.2)).Nodup ∧ L.length * 5 < t.mask * 3 ∧ L.length < 64
def SetMO (P : Program) (w : World) (a : Addr) (L : List (Addr × List Key)) : HO := .ext fun h => Set0 P w h a L
theorem SetMR.zero {P : Program} {w : World} {h : Heap} {a : Addr} {L : List (Addr × List Key)} {es : Array (Int × Value)} {ep : Nat} {t : SetTable} (R : SetMR P w h a L es ep t) : Set0 P w h a L := ⟨es, ep, t, R.ob, R.rows, R.tab, R.nd, R.room, R.few⟩
theorem Set0.full {P : Program} {w : World} {h : Heap} {a : Addr} {L : List (Addr × List Key)} (R : Set0 P w h a L) (ht : ∀ p ∈ L, IsM P w h p.2 p.1) : ∃ es ep t, SetMR P w h a L es ep t := by
  obtain ⟨es, ep, t, h1, h2, h3, h4, h5, h6⟩ := R.ex
  exact ⟨es, ep, t, h1, h2, h3, h4, ht, h5, h6⟩
theorem setM_new {P : Program} {w : World} {H : Hp} {h : Heap} {a : Addr} {L : List (Addr × List Key)} (R : Set0 P w h a L) : ObjOk P w H h a (SetMO P w a L) := by
  obtain ⟨es, ep, t, ⟨o, ho, r⟩, q⟩ := R.ex
  refine ⟨⟨es, ep, t, ⟨o, ho, r⟩, q⟩, ⟨o, ho⟩, fun h1 h2 p k => ?_⟩
  obtain ⟨es', ep', t', ⟨o', ho', r'⟩, q'⟩ := Set0.ex p
  exact ⟨es', ep', t', ⟨o', k o' ho', r'⟩, q'⟩
variable {X : Cx}
theorem addM_ok {pins : List (Addr × Obj)} {σ : L2.St} {H : Hp} {s : Shared} {E : Value → Shared → Prop} {D b : Addr} {k : List Key} {L : List (Addr × List Key)} {Q : Value → Shared → Prop} (I : Inv X pins σ H s) (hD : H D = some (SetMO X.prog X.w D L))
    (hb : H b = some (.tup (k.map kV))) (hL : ∀ p ∈ L, H p.1 = some (.tup (p.2.map kV))) (few : L.length + 1 < 64) (hu : X.A.units + 64 < cLine)
    (h : ∀ s' L', (k ∈ L.map (·.2) → L' = L) → (k ∉ L.map (·.2) → L'.Perm ((b, k) :: L)) → Inv X pins σ (upd H D (SetMO X.prog X.w D L')) s' → Q .none s') : wpAny (model X.prog X.w) X.A (call (.builtin "set.add") [.ref D, .ref b]) Q E s := by
  have R0 : Set0 X.prog X.w s.heap D L := (I.hok D _ hD).1
  have hx : IsM X.prog X.w s.heap k b := key_of I.hok hb
  obtain ⟨es, ep, t, R⟩ := R0.full fun p hp => key_of I.hok (hL p hp)
  obtain ⟨o, ho, hex, hd⟩ := R.ob
  have hT : s.TypeIs (.ref D) "set" := ⟨o, ho, hex.1⟩
  have hu1 : X.A.in1.units < cLine := by
    show X.A.units + _ < cLine
    omega
  refine wpAny_call_entry F.slot_set_add hT F.entry_set_add ?_ (F.args_set_add_2 _ _)
  unfold Builtin.«set.add» Builtin.Frozenset.oneOther
  simp only [List.isEmpty_nil, bind_assoc]
  unfold Builtin.Frozenset.addrOf setAdd
  refine wpAny_bind (wpAny_pure ?_)
  try dsimp only
  refine wpAny_bind (wpAny_pure ?_)
  try dsimp only
  refine wpAny_bind ?_
  refine wpAny_holding ?_
  refine wpAny_bind (wpAny_pyHash_tuple (knd := mixKind X.prog X.w) hu1 hx ?_)
  refine put_at (s := { s with toks := s.toks + (k.length + 1) }) R hx hu1 few fun z h' L' es' ep' t' sb R2 c1 c2 => ?_
  show wpAny _ _ (ret Value.none) _ _ _
  obtain ⟨o2, ho2, _⟩ := R2.ob
  exact wpAny_pure ⟨_, rfl, h _ L' c1 c2 (I.write (e := D) (t' := s.toks + (k.length + 1)) (by rw [hD]; trivial) (.inl rfl) (fun b u hb hu => (sb.2 b hb).trans hu) ⟨o2, ho2⟩ (setM_new R2.zero))⟩
end
end SetM
namespace L2.Mi
open PySem PySem.Spec PyProof.Rows L2 PpSet ScI SetM
/-! ### the keys met, each once -/
section
variable {X : Cx} {W : WX}
end
end L2.Mi

/-! xs.index(y) of a list of data, found -/
namespace L2.Mi
open PySem PySem.Spec PyProof.Rows L2
section
variable {K : PySem.W.Frag}
theorem u65 {A : Around} {k : Nat} (hr : Room k A) : A.units + 65 < cLine := by have := hr.un; omega
end
end L2.Mi

/-! isinstance(x, (list, tuple)) where x may be an own instance -/
namespace L2.Mi
open PySem PySem.Spec PyProof.Rows L2
end L2.Mi

/-! x is not True, x is not False, of truth values -/
namespace L2.Mi
open PySem PySem.Spec PyProof.Rows L2
end L2.Mi

/-! while (x := a) op b: .. -/
namespace L2.Mi
open PySem PySem.Spec PyProof.Rows L2
section
variable {X : Cx} {W : WX}
end
end L2.Mi

/-! {t: v for x in xs if ..} with tuple keys: a new cell -/
namespace DcT
open PySem PySem.Spec PyProof.Rows L2
section
variable {X : Cx} {pins : List (Addr × Obj)} {σ : L2.St} {kx vx tg iter : Expr} {ifs : List Expr} {scope : Scope} {own : List (Str × Nat)} {pos : Pos} {g : TG} {tt : TT} {tk tv : TE} {Q : VK}
end
end DcT

/-! dict comprehensions with tuple keys: the reading, and plain reasoning -/
namespace L2.Mi
open PySem PySem.Spec PyProof.Rows L2
section
variable {α : Type} {it : MK} {js : List Nat} {g : MG} {t : MT} {kx vx : ME} {l : Ls} {c : Cs} {Q : D → Cs → Prop}
end
end L2.Mi

/-! xs.remove(y) of a cell of data, found; min of a list of (text, number) -/
namespace L2.Mi
open PySem PySem.Spec PyProof.Rows L2
section
variable {K : PySem.W.Frag} {X : Cx}
theorem rep_dps {I H : Hp} {m : List Addr} (s : Same I H) : ∀ {vs : List V} {xs : List D} {ds : List PyData}, Reps K I m vs xs → toPys xs = some ds → DpAll K H vs ds := by
  intro vs
  induction vs with
  | nil => intro xs ds r e; cases r; cases e; exact .nil
  | cons v vs ih =>
    intro xs ds r e
    cases r with
    | @cons _ _ d xs h t =>
      unfold toPys at e
      cases q1 : toPy d with
      | none => rw [q1] at e; simp at e
      | some p =>
        cases q2 : toPys xs with
        | none => rw [q1, q2] at e; simp at e
        | some ps =>
          rw [q1, q2] at e
          simp at e
          subst e
          exact .cons (rep_dp s h q1) (ih t q2)
/-! ### min of a list of (text, number) -/
def alikesB (xs : List PyData) : Bool := xs.all fun x => xs.all fun y => W.alike x y
theorem alikesB_of {xs : List PyData} (h : alikesB xs = true) : ∀ x ∈ xs, ∀ y ∈ xs, W.alike x y = true := fun x hx y hy => List.all_eq_true.mp (List.all_eq_true.mp h x hx) y hy
theorem toPys_len : ∀ {xs : List D} {ds : List PyData}, toPys xs = some ds → xs.length = ds.length := by
  intro xs
  induction xs with
  | nil => intro ds e; cases e; rfl
  | cons x xs ih =>
    intro ds e
    unfold toPys at e
    cases q1 : toPy x with
    | none => rw [q1] at e; simp at e
    | some p =>
      cases q2 : toPys xs with
      | none => rw [q1, q2] at e; simp at e
      | some ps =>
        rw [q1, q2] at e
        simp at e
        subst e
        exact congrArg (· + 1) (ih q2)
end
end L2.Mi

/-! xs.index(y), xs.count(n) of a list or a cell -/
namespace L2.Mi
open PySem PySem.Spec PyProof.Rows L2
section
variable {K : PySem.W.Frag}
end
end L2.Mi

/-! a op1 b op2 c op3 d, as a value -/
namespace L2.Mi
open PySem PySem.Spec PyProof.Rows L2
section
variable {X : Cx} {a b c d : Expr} {ta tb tc td : TE} {pos : Pos} {o1 o2 o3 : CmpOp} {r1 r2 r3 : R2}
end
section
variable {X : Cx} {W : WX} {a b c d : Expr} {fa fb fc fd : ME} {pos : Pos} {o1 o2 o3 : CmpOp} {r1 r2 r3 : R2} {g1 g2 g3 : D → D → Cs → R D}
end
/-! ### a def that calls itself -/
end L2.Mi

/-! sorted(xs, key=f), f a call of one's own: what holds between the calls is told by J -/
namespace L2.Mi.Sk
open PySem PySem.W PySem.Calls PyProof.Rows
section
variable {prog : Program} {w : World} {A : Around} {E : Value → Shared → Prop} {s : Shared} {a kS : Addr} {b : Bool} {vs : List Value} {keys : Array Value} {e e1 : Nat} {P : PySem.Fin → Shared → Prop} {kz : List Int}
/-- all but the two -/
def But2 (a k : Addr) (h h' : Heap) : Prop := ∀ b o, b ≠ a → b ≠ k → h.get? b = some o → h'.get? b = some o
theorem jtail {st : SortSt} {out : List Value} (nk : s.heap.get? kS = some (seqObj "list" keys e)) (na : s.heap.get? a = some (seqObj "list" #[] e1)) (hka : kS ≠ a)
    (hsz : keys.size ≤ sizeLine) (hz : out.length ≤ sizeLine) (hfl : failedOf st = none) (ho : (if b = true then ((arrOf st).map (·.2)).reverse else (arrOf st).map (·.2)) = out.toArray)
    (h : ∀ h' tk c, But2 a kS s.heap h' → h'.get? a = some (seqObj "list" out.toArray c) → P (.done (.ret .none)) { s with heap := h', toks := tk }) :
    wpAny (model prog w) A (ksk_tail a b e1 (.ref kS) st) P E s := by
  have s1 := Heap.SameBut.update s.heap kS (Obj.mapSeq fun _ => (#[] : Array Value))
  have na1 : (s.heap.update kS (Obj.mapSeq fun _ => (#[] : Array Value))).get? a = some (seqObj "list" #[] e1) := (s1.2 a hka.symm).trans na
  have s2 := Heap.SameBut.update (s.heap.update kS (Obj.mapSeq fun _ => (#[] : Array Value))) a (Obj.mapSeq fun _ => out.toArray)
  obtain ⟨c2, hc2⟩ : ∃ c2, ((s.heap.update kS (Obj.mapSeq fun _ => (#[] : Array Value))).update a (Obj.mapSeq fun _ => out.toArray)).get? a = some (seqObj "list" out.toArray c2) :=
    ⟨_, get?_update_seq na1 fun _ => out.toArray⟩
  have hz2 : out.toArray.size ≤ sizeLine + 1 := by
    rw [List.size_toArray]
    exact Nat.le_succ_of_le hz
  unfold ksk_tail
  try dsimp only
  rw [ho]
  refine wpAny_bind (listUpdate_at nk rfl ?_ hsz (Nat.zero_le _))
  refine wpAny_bind (wpAny_letGo ?_)
  refine wpAny_bind (seqEpoch_at na1 rfl ?_)
  refine wpAny_bind (listUpdate_at na1 rfl ?_ (Nat.zero_le _) hz2)
  rw [hfl]
  simp only [bne_self_eq_false, Bool.false_eq_true, if_false]
  exact wpAny_pure (h _ _ c2 (fun x o h1 h2 q => (s2.2 x h1).trans ((s1.2 x h2).trans q)) hc2)
theorem jend {κ : PyProof.Rows.KeyKind} (nk : s.heap.get? kS = some (seqObj "list" keys e)) (na : s.heap.get? a = some (seqObj "list" #[] e1)) (hka : kS ≠ a)
    (S : SortsAt prog w A s κ keys.toList) (hsz : keys.size = vs.length) (hZ : vs.length ≤ sizeLine)
    (h : ∀ h' tk c, But2 a kS s.heap h' → h'.get? a = some (seqObj "list" (sortVals κ b keys.toList vs).toArray c) → P (.done (.ret .none)) { s with heap := h', toks := tk }) :
    wpAny (model prog w) A (ksk_end a b vs.toArray e1 (.ref kS) keys) P E s := by
  obtain ⟨kd, h1, h2⟩ := S.kind
  have hkl : keys.toList.length = vs.length := by
    rw [Array.length_toList]
    exact hsz
  have hK : PyProof.Rows.KeysOf κ (keys.zip vs.toArray) := keysOf_zip S.keys
  have hol : (sortVals κ b keys.toList vs).length = vs.length := sortVals_length b hkl
  have hstart : (if b = true then (keys.zip vs.toArray).reverse else keys.zip vs.toArray).Perm (keys.zip vs.toArray) := by
    cases b with
    | false => exact Array.Perm.refl _
    | true => exact Array.perm_iff_toList_perm.mpr (by rw [if_pos rfl, Array.toList_reverse]; exact List.reverse_perm _)
  have hss : (if b = true then (keys.zip vs.toArray).reverse else keys.zip vs.toArray).size = vs.length := by rw [hstart.size_eq, Array.size_zip, hsz, List.size_toArray, Nat.min_self]
  have fin : ∀ st' : SortSt, (arrOf st').Perm (if b = true then (keys.zip vs.toArray).reverse else keys.zip vs.toArray) → SortedToK κ (arrOf st') (if b = true then (keys.zip vs.toArray).reverse else keys.zip vs.toArray).size →
      Stable κ (arrOf st') (if b = true then (keys.zip vs.toArray).reverse else keys.zip vs.toArray) → (if b = true then ((arrOf st').map (·.2)).reverse else (arrOf st').map (·.2)) = (sortVals κ b keys.toList vs).toArray := by
    intro st' hp hs ht
    have e := sort_out (rev := b) (keys := keys) (items := vs.toArray) (xs := arrOf st') (κ := κ) hK hp hs ht
    have e' := congrArg List.toArray e
    rw [Array.toArray_toList] at e'
    exact e'
  have step : ∀ t : Sem PySem.Fin, wpAny (model prog w) A t P E s → wpAny (model prog w) A (if b = true then (do let _ ← rule "list.sort.reverse"; t) else t) P E s := by
    intro t ht
    split
    · exact wpAny_bind (wpAny_rule ht)
    · exact ht
  unfold ksk_end
  try dsimp only
  refine step _ ?_
  by_cases hl2 : vs.toArray.size < 2
  · rw [if_pos hl2, if_pos hl2]
    refine wpAny_bind (wpAny_pure ?_)
    rw [StateT.run_pure]
    refine wpAny_bind (wpAny_pure ?_)
    try dsimp only
    refine jtail (st := SortSt.mk' general' (if b = true then (keys.zip vs.toArray).reverse else keys.zip vs.toArray) #[] 7 none) nk na hka (by rw [hsz]; exact hZ) (by rw [hol]; exact hZ) rfl (fin _ (Array.Perm.refl _) ?_ (Stable.refl _)) h
    intro i j hij hj
    rw [hss] at hj
    rw [List.size_toArray] at hl2
    have : i = j := by omega
    subst this
    exact KeyOrd.kle_refl _
  · rw [if_neg hl2, if_neg hl2]
    rw [List.size_toArray] at hl2
    refine wpAny_bind (h2 (by omega) _ ?_)
    refine wpAny_bind (wpAny_mono (H.wpS_sortRunsSt (κ := κ) (kd := kd) (a₀ := if b = true then (keys.zip vs.toArray).reverse else keys.zip vs.toArray)
      (st := SortSt.mk' kd (if b = true then (keys.zip vs.toArray).reverse else keys.zip vs.toArray) #[] 7 none)
      (Q := fun _ st' => failedOf st' = none ∧ (if b = true then ((arrOf st').map (·.2)).reverse else (arrOf st').map (·.2)) = (sortVals κ b keys.toList vs).toArray)
      h1 (hK.perm hstart) ⟨Array.Perm.refl _, rfl, rfl⟩ rfl (Stable.refl _) (by rw [hss]; omega) fun st' a1 a2 a3 a4 => ⟨a2, fin st' a1 a3 a4⟩) ?_ fun _ _ e => e)
    rintro ⟨⟨⟩, st'⟩ s' ⟨rfl, hf, ho⟩
    try dsimp only at ho ⊢
    exact jtail nk na hka (by rw [hsz]; exact hZ) (by rw [hol]; exact hZ) hf ho h
theorem each_ints (h : Heap) : ∀ {ks : List Value} {ns : List Int}, EachIs (fun v k => ∃ t, v = Value.int k t) ks ns → EachIs (fun v d => ∃ as, Reads h v d as) ks (ns.map PyData.int)
  | _, _, .nil => .nil
  | _, _, .cons ⟨t, e⟩ r => by
    subst e
    exact .cons ⟨[], .int _ t⟩ (each_ints h r)
/-- the keys are asked for, one after the other -/
theorem jrest {f : Value} {J : Nat → Shared → Prop} (j0 : J 0 s) (nk : s.heap.get? kS = some (seqObj "list" #[] 0)) (na : s.heap.get? a = some (seqObj "list" #[] e1)) (hka : kS ≠ a)
    (hlen : kz.length = vs.length) (hZ : vs.length ≤ sizeLine) (hu : A.units < cLine)
    (turn : ∀ (i : Nat) (v : Value) (k : Int) (s' : Shared) (kA : Array Value) (e : Nat), vs[i]? = some v → kz[i]? = some k → J i s' → s'.heap.get? kS = some (seqObj "list" kA e) → s'.heap.get? a = some (seqObj "list" #[] e1) →
      wpAny (model prog w) A (call f [v]) (fun u s2 => (∃ t, u = .int k t) ∧ J (i + 1) s2 ∧ s2.heap.get? kS = some (seqObj "list" kA e) ∧ s2.heap.get? a = some (seqObj "list" #[] e1)) (fun _ _ => False) s')
    (push : ∀ (i : Nat) (s' : Shared) (h' : Heap), J i s' → (∀ b o, b ≠ kS → s'.heap.get? b = some o → h'.get? b = some o) → J i { s' with heap := h' })
    (h : ∀ s' h' tk out c, J vs.length s' → But2 a kS s'.heap h' → h'.get? a = some (seqObj "list" (List.toArray out) c) → KeyedOut b (kz.map PyData.int) vs out → P (.done (.ret .none)) { s' with heap := h', toks := tk }) :
    wpAny (model prog w) A (ksk_rest a f b vs.toArray e1 (.ref kS)) P E s := by
  unfold ksk_rest
  refine wpAny_bind (wpAny_rule ?_)
  first
    | rw [List.forIn_toArray]
    | (rw [← Array.forIn_toList]; simp only [List.toList_toArray])
    | rw [← Array.forIn_toList]
  refine wpAny_bind (ksk_fold (fun i s' => ∃ kA e, J i s' ∧ s'.heap.get? kS = some (seqObj "list" kA e) ∧ s'.heap.get? a = some (seqObj "list" #[] e1) ∧ EachIs (fun v k => ∃ t, v = Value.int k t) kA.toList (kz.take i)) vs 0 s
    ⟨#[], 0, j0, nk, na, by rw [List.take_zero]; exact EachIs.nil⟩ ?step ?done)
  case step =>
    rintro j x s' hx ⟨kA, e, jj, nk', na', hk⟩
    simp only [Nat.zero_add] at jj hk ⊢
    have hj : j < vs.length := (List.getElem?_eq_some_iff.mp hx).1
    obtain ⟨k, hkj⟩ : ∃ k, kz[j]? = some k := ⟨_, List.getElem?_eq_getElem (by omega)⟩
    have hz : kA.size ≤ vs.length := by
      have h1 := hk.length
      rw [Array.length_toList, List.length_take] at h1
      omega
    refine wpAny_bind (wpAny_attempt (wpAny_mono (turn j x k s' kA e hx hkj jj nk' na') (fun v s'' he => ?_) fun _ _ hF => hF.elim))
    obtain ⟨⟨t, rfl⟩, jj2, nk2, na2⟩ := he
    try dsimp only
    have s1 := Heap.SameBut.update s''.heap kS (Obj.mapSeq (·.push (Value.int k t)))
    obtain ⟨c2, hc2⟩ : ∃ c2, (s''.heap.update kS (Obj.mapSeq (·.push (Value.int k t)))).get? kS = some (seqObj "list" (kA.push (Value.int k t)) c2) := ⟨_, get?_update_seq nk2 (·.push (Value.int k t))⟩
    have ek : kz.take (j + 1) = kz.take j ++ [k] := by rw [List.take_add_one, hkj]; simp
    have ea : (kA.push (Value.int k t)).toList = kA.toList ++ [Value.int k t] := by simp
    refine wpAny_bind (listUpdate_at nk2 rfl ?_ (Nat.le_trans hz hZ) (Nat.le_trans (Nat.le_of_eq (Array.size_push ..)) (Nat.succ_le_succ (Nat.le_trans hz hZ))))
    refine wpAny_pure ⟨rfl, kA.push (Value.int k t), c2, push _ _ _ jj2 (fun b o hb e => (s1.2 b hb).trans e), hc2, (s1.2 a hka.symm).trans na2, ?_⟩
    rw [ea, ek]
    exact each_snoc (R := fun (v : Value) (k : Int) => ∃ t, v = Value.int k t) ⟨t, rfl⟩ hk
  case done =>
    rintro s' ⟨kA, e, jj, nk', na', hk⟩
    rw [Nat.zero_add] at jj
    have hk2 : EachIs (fun v k => ∃ t, v = Value.int k t) kA.toList kz := by
      have e3 : kz.take (0 + vs.length) = kz := List.take_of_length_le (by omega)
      rw [e3] at hk
      exact hk
    have hk' : EachIs (fun v d => ∃ as, Reads s'.heap v d as) kA.toList (kz.map PyData.int) := each_ints s'.heap hk2
    have hsz : kA.size = vs.length := by
      have h1 := hk'.length
      rw [Array.length_toList, List.length_map] at h1
      omega
    try dsimp only
    refine wpAny_bind (listItems_at nk' rfl ?_)
    have hal : AllAlike (kz.map PyData.int) := AllAlike.of fun _ _ => by simp [alike]
    have hsk : Sortable (kz.map PyData.int) := Sortable.others fun _ => ⟨by simp, by simp⟩
    have hdp : ∀ d, d ∈ kz.map PyData.int → A.units + d.depth < cLine := fun d hd => by
      obtain ⟨n, _, rfl⟩ := List.mem_map.mp hd
      simpa [PyData.depth] using hu
    exact jend (κ := dataKind s'.heap (kz.map PyData.int)) nk' na' hka (SortsAt.data (s := s') hk' hal hsk hdp) hsz hZ fun h3 tk3 c k3 n3 => h s' h3 tk3 _ c jj k3 n3 ⟨s'.heap, kA.toList, hal, rfl, hk'⟩
theorem jtree {f : Value} {n : Nat} {J : Nat → Nat → Shared → Prop} (ho : s.heap.get? a = some (seqObj "list" vs.toArray n)) (hlen : kz.length = vs.length) (hZ : vs.length ≤ sizeLine) (hu : A.units < cLine)
    (j0 : ∀ kS, s.heap.objs.size ≤ kS → ∀ h', (∀ b o, b ≠ a → s.heap.get? b = some o → h'.get? b = some o) → J kS 0 { s with heap := h' })
    (turn : ∀ (kS e1 : Nat), s.heap.objs.size ≤ kS → ∀ (i : Nat) (v : Value) (k : Int) (s' : Shared) (kA : Array Value) (e : Nat), vs[i]? = some v → kz[i]? = some k → J kS i s' → s'.heap.get? kS = some (seqObj "list" kA e) → s'.heap.get? a = some (seqObj "list" #[] e1) →
      wpAny (model prog w) A (call f [v]) (fun u s2 => (∃ t, u = .int k t) ∧ J kS (i + 1) s2 ∧ s2.heap.get? kS = some (seqObj "list" kA e) ∧ s2.heap.get? a = some (seqObj "list" #[] e1)) (fun _ _ => False) s')
    (push : ∀ kS, s.heap.objs.size ≤ kS → ∀ (i : Nat) (s' : Shared) (h' : Heap), J kS i s' → (∀ b o, b ≠ kS → s'.heap.get? b = some o → h'.get? b = some o) → J kS i { s' with heap := h' })
    (h : ∀ kS, s.heap.objs.size ≤ kS → ∀ s' h' tk out c, J kS vs.length s' → But2 a kS s'.heap h' → h'.get? a = some (seqObj "list" (List.toArray out) c) → KeyedOut b (kz.map PyData.int) vs out → P (.done (.ret .none)) { s' with heap := h', toks := tk }) :
    wpAny (model prog w) A (ksk_tree a f b) P E s := by
  have ha : a < s.heap.objs.size := Heap.lt_size ho
  obtain ⟨e1, ho1⟩ : ∃ e1, (s.heap.update a (Obj.mapSeq fun _ => (#[] : Array Value))).get? a = some (seqObj "list" #[] e1) := ⟨_, get?_update_seq ho fun _ => #[]⟩
  have hkS : ((s.heap.update a (Obj.mapSeq fun _ => (#[] : Array Value))).push (seqObj "tuple" vs.toArray 0)).objs.size = s.heap.objs.size + 1 := by rw [size_push', Heap.size_update]
  unfold ksk_tree
  refine wpAny_bind (listItems_at ho rfl ?_)
  refine wpAny_bind (listUpdate_at ho rfl ?_ (by rw [List.size_toArray]; exact hZ) (Nat.zero_le _))
  refine wpAny_bind (seqEpoch_at ho1 rfl ?_)
  refine wpAny_bind (wpAny_newTuple ?_ (by show vs.length ≤ _; exact hZ))
  refine wpAny_bind (wpAny_newList ?_ (Nat.zero_le _))
  refine wpAny_holding ?_
  have kp : ∀ b o, b ≠ a → s.heap.get? b = some o → (sortingHeap s.heap a vs).get? b = some o := fun b o hb q => sortingHeap_old hb q
  have hle : s.heap.objs.size ≤ ((s.heap.update a (Obj.mapSeq fun _ => (#[] : Array Value))).push (seqObj "tuple" vs.toArray 0)).objs.size := by rw [hkS]; exact Nat.le_succ _
  refine jrest (J := J ((s.heap.update a (Obj.mapSeq fun _ => (#[] : Array Value))).push (seqObj "tuple" vs.toArray 0)).objs.size) (kz := kz) (s := { s with heap := ((s.heap.update a (Obj.mapSeq fun _ => (#[] : Array Value))).push (seqObj "tuple" vs.toArray 0)).push (seqObj "list" #[] 0) }) (kS := ((s.heap.update a (Obj.mapSeq fun _ => (#[] : Array Value))).push (seqObj "tuple" vs.toArray 0)).objs.size)
    (j0 _ hle _ kp) (Heap.get?_push_size _ rfl) (Heap.get?_push_of_some _ (Heap.get?_push_of_some _ ho1)) (by rw [hkS]; exact Nat.ne_of_gt (Nat.lt_succ_of_lt ha)) hlen hZ hu (turn _ e1 hle) (push _ hle) (h _ hle)
/-- sorted(xs, key=f) -/
theorem jsorted {l : Addr} {f : Value} {kw : List (Str × Value)} {Q : Value → Shared → Prop} {J : Nat → Nat → Nat → Shared → Prop} (hl : s.heap.IsList l vs.toArray) (hlen : kz.length = vs.length) (hZ : vs.length ≤ sizeLine) (hu : A.units + 2 < cLine)
    (ha1 : argsOk "sorted" ⟨[.ref l], kw⟩) (ha2 : ∀ x, argsOk "list.sort" ⟨[.ref x], kw⟩) (ht : ∀ x, Builtin.«list.sort» ⟨[.ref x], kw⟩ = ksk_tree x f b)
    (j0 : ∀ a kS, s.heap.objs.size ≤ a → s.heap.objs.size ≤ kS → ∀ h', (∀ b o, s.heap.get? b = some o → h'.get? b = some o) → J a kS 0 { s with heap := h' })
    (turn : ∀ (a kS e1 : Nat), s.heap.objs.size ≤ a → s.heap.objs.size ≤ kS → ∀ (i : Nat) (v : Value) (k : Int) (s' : Shared) (kA : Array Value) (e : Nat), vs[i]? = some v → kz[i]? = some k → J a kS i s' → s'.heap.get? kS = some (seqObj "list" kA e) → s'.heap.get? a = some (seqObj "list" #[] e1) →
      wpAny (model prog w) A.in1.in1 (call f [v]) (fun u s2 => (∃ t, u = .int k t) ∧ J a kS (i + 1) s2 ∧ s2.heap.get? kS = some (seqObj "list" kA e) ∧ s2.heap.get? a = some (seqObj "list" #[] e1)) (fun _ _ => False) s')
    (push : ∀ a kS, s.heap.objs.size ≤ a → s.heap.objs.size ≤ kS → ∀ (i : Nat) (s' : Shared) (h' : Heap), J a kS i s' → (∀ b o, b ≠ kS → s'.heap.get? b = some o → h'.get? b = some o) → J a kS i { s' with heap := h' })
    (h : ∀ a kS, s.heap.objs.size ≤ a → s.heap.objs.size ≤ kS → ∀ s' h' tk out c, J a kS vs.length s' → But2 a kS s'.heap h' → h'.get? a = some (seqObj "list" (List.toArray out) c) → KeyedOut b (kz.map PyData.int) vs out → Q (.ref a) { s' with heap := h', toks := tk }) :
    wpAny (model prog w) A (call (.builtin "sorted") [.ref l] kw) Q E s := by
  have le2 : s.heap.objs.size ≤ (copyHeap s.heap vs).objs.size := by
    have : s.heap.objs.size + 1 < (copyHeap s.heap vs).objs.size := Heap.lt_size (copyHeap_at s.heap vs)
    omega
  have hle : s.heap.objs.size ≤ s.heap.objs.size + 1 := Nat.le_succ _
  refine sorted_of_sort hl hZ ha1 ha2 fun E' => ?_
  rw [ht]
  refine jtree (J := J (s.heap.objs.size + 1)) (kz := kz) (s := { s with heap := copyHeap s.heap vs }) (copyHeap_at s.heap vs) hlen hZ (by simpa using hu)
    (fun kS hk h' k => j0 _ kS hle (Nat.le_trans le2 hk) h' fun b o q => k b o (Nat.ne_of_lt (Nat.lt_succ_of_lt (Heap.lt_size q))) (copyHeap_old q))
    (fun kS e1 hk => turn _ kS e1 hle (Nat.le_trans le2 hk)) (fun kS hk => push _ kS hle (Nat.le_trans le2 hk)) fun kS hk s' h' tk out c jj k2 n3 ko => ⟨rfl, h _ kS hle (Nat.le_trans le2 hk) s' h' tk out c jj k2 n3 ko⟩
end
end L2.Mi.Sk

/-! sorted(xs, key=o.m), m a method of an own class that answers with ints -/
namespace L2.Mi
open PySem PySem.Spec PyProof.Rows L2
/-- the keys, one after the other -/
def keysK (g : D → Cs → R D) : List D → Cs → R (List Int)
  | [], c => .ok [] c
  | x :: xs, c => match g x c with
    | .ok (.int i) c1 => match keysK g xs c1 with
      | .ok is c2 => .ok (i :: is) c2
      | _ => .stuck
    | _ => .stuck
theorem keysK_at {g : D → Cs → R D} : ∀ {xs : List D} {c c' : Cs} {is : List Int}, keysK g xs c = .ok is c' → is.length = xs.length ∧ ∃ cs : Nat → Cs, cs 0 = c ∧ cs xs.length = c' ∧ ∀ (i : Nat) (x : D) (k : Int), xs[i]? = some x → is[i]? = some k → g x (cs i) = .ok (.int k) (cs (i + 1))
  | [], c, c', is, h => by
    cases h
    exact ⟨rfl, fun _ => c, rfl, rfl, fun i x k hx _ => by simp at hx⟩
  | x :: xs, c, c', is, h => by
    unfold keysK at h
    split at h
    · rename_i i c1 e1
      split at h
      · rename_i is2 c2 e2
        cases h
        obtain ⟨h1, cs, h2, h3, h4⟩ := keysK_at e2
        refine ⟨by simp [h1], fun n => match n with | 0 => c | n + 1 => cs n, rfl, h3, fun j y k hy hk => ?_⟩
        cases j with
        | zero =>
          simp at hy hk
          subst hy hk
          show g x c = .ok (.int i) (cs 0)
          rw [h2]
          exact e1
        | succ j => exact h4 j y k (by simpa using hy) (by simpa using hk)
      · cases h
    · cases h
def sortBy (is : List Int) (ds : List D) : List D := ((is.zip ds).mergeSort fun p q => decide (p.1 ≤ q.1)).map Prod.snd
def sortK (g : D → Cs → R D) (x : D) (c : Cs) : R D := match lstOf x c with
  | none => .stuck
  | some ds => match keysK g ds c with
    | .ok is c' => .ok (.lst (sortBy is ds)) c'
    | _ => .stuck
/-- the two objects of the sort's own are done with, the list is tracked -/
theorem inv_sorted {X : Cx} {pins : List (Addr × Obj)} {σ : St} {H : Hp} {s : Shared} {a kS : Addr} {h' : Heap} {t' : Nat} {out : List Value} {c : Nat} {vs : List V} (I : Inv X pins σ H s) (na : H a = none) (nk : H kS = none) (k : Sk.But2 a kS s.heap h')
    (e : h'.get? a = some (seqObj "list" out.toArray c)) (r : Vals vs out) (hz : vs.length ≤ sizeLine)
    (hch : ∀ b ∈ [a, kS], (b ∈ X.ex ∨ X.s_0.heap.objs.size ≤ b) ∧ b ≠ X.env.locals ∧ (∀ x c, X.env.cells.lookup x = some c → c ≠ b) ∧ ∀ p ∈ X.pn ++ pins, p.1 ≠ b) : Inv X pins σ (upd H a (.lst vs)) { s with heap := h', toks := t' } := by
  have n2 : ∀ {b : Addr}, b ∉ [a, kS] → b ≠ a ∧ b ≠ kS := fun {b} h => by simpa using h
  refine I.step (g' := s.gens) (d' := s.drawn) (ch := [a, kS]) hch (fun b o _ _ hc e _ => k b o (n2 hc).1 (n2 hc).2 e) (fun b o _ _ hc e _ => ⟨o.slots, k b o (n2 hc).1 (n2 hc).2 e⟩) (fun b o hc _ n => by rw [upd_ne (n2 hc).1]; exact n)
    (fun b o hc e => ⟨o, k b o (n2 hc).1 (n2 hc).2 e⟩) (fun b xs q => by rw [upd_ne (ne_of_none q na)]; exact q) (fun b o u q => by rw [upd_ne (ne_of_none q na)]; exact q) (fun b ps q => ⟨#[], by rw [upd_ne (ne_of_none q na), q]; simp⟩) (fun m hm => ?_) (fun b u q => ?_) I.bare
  · obtain ⟨o, es, ep, ho, r⟩ := hm
    exact ⟨o, es, ep, k _ o (Ne.symm (hch a (by simp)).2.1) (Ne.symm (hch kS (by simp)).2.1) ho, r⟩
  · by_cases hb : b = a
    · subst hb
      rw [upd_same] at q
      cases q
      exact ⟨hz, out, c, r, e⟩
    · rw [upd_ne hb] at q
      refine (I.hok b u q).stay (fun c' v hc q2 => k c' v ?_ ?_ q2) (fun d z => by rw [upd_ne (ne_of_none z na)]; exact z) fun d xs z => by rw [upd_ne (ne_of_none z na)]; exact z
      · rcases hc with z | z
        · rw [z]; exact hb
        · exact ne_of_none z na
      · rcases hc with z | z
        · rw [z]; exact ne_of_none q nk
        · exact ne_of_none z nk
theorem each_zip {K : PySem.W.Frag} {I : Hp} {m : List Addr} : ∀ {is : List Int} {vs : List V} {ds : List D} {us : List Value}, is.length = ds.length → Vals vs us → Reps K I m vs ds →
    PySem.W.EachIs (fun (u : Value) (p : Int × V × D) => RelV p.2.1 u ∧ Rep K I m p.2.1 p.2.2) us (is.zip (vs.zip ds))
  | [], _, _, _, hl, r, p => by
    cases p with
    | nil => cases r; exact .nil
    | cons _ _ => simp at hl
  | i :: is, _, _, _, hl, r, p => by
    cases p with
    | nil => simp at hl
    | cons p0 ps =>
      cases r with
      | cons r0 rs => exact .cons ⟨r0, p0⟩ (each_zip (by simpa using hl) rs ps)
theorem each_out {K : PySem.W.Frag} {I : Hp} {m : List Addr} : ∀ {us : List Value} {bs : List (Int × V × D)}, PySem.W.EachIs (fun (u : Value) (p : Int × V × D) => RelV p.2.1 u ∧ Rep K I m p.2.1 p.2.2) us bs → Vals (bs.map fun p => p.2.1) us ∧ Reps K I m (bs.map fun p => p.2.1) (bs.map fun p => p.2.2)
  | _, _, .nil => ⟨.nil, .nil⟩
  | _, _, .cons h r => ⟨.cons h.1 (each_out r).1, .cons h.2 (each_out r).2⟩
theorem zip_keys : ∀ {is : List Int} {vs : List V} {ds : List D}, is.length = ds.length → vs.length = ds.length → (is.zip (vs.zip ds)).map (fun p => PyData.int p.1) = is.map PyData.int ∧ (is.zip (vs.zip ds)).map (fun p => (p.1, p.2.2)) = is.zip ds
  | [], vs, ds, h1, h2 => by
    simp
  | i :: is, vs, ds, h1, h2 => by
    cases ds with
    | nil => simp at h1
    | cons d ds =>
      cases vs with
      | nil => simp at h2
      | cons v vs =>
        obtain ⟨e1, e2⟩ := zip_keys (is := is) (vs := vs) (ds := ds) (by simpa using h1) (by simpa using h2)
        simp [e1, e2]
theorem sort_out {is : List Int} {vs : List V} {ds : List D} (h1 : is.length = ds.length) (h2 : vs.length = ds.length) : ((is.zip (vs.zip ds)).mergeSort fun p q => decide (p.1 ≤ q.1)).map (fun p => p.2.2) = sortBy is ds := by
  unfold sortBy
  rw [← (zip_keys h1 h2).2, ← List.map_mergeSort (r := fun p q : Int × V × D => decide (p.1 ≤ q.1)) (f := fun p : Int × V × D => (p.1, p.2.2)) (fun a _ b _ => rfl), List.map_map]
  rfl
section
variable {X : Cx} {W : WX} {k : Nat}
theorem wish_none {pins : List (Addr × Obj)} {σ : St} {H : Hp} {s : Shared} {E : XK} {u : Value} {s' : Shared} (J : Inv X pins σ H s) (hE : ∀ cls d H', ¬ E cls d H') (c : CX X.prog X.w X.stack H s E u s') : False := by
  obtain ⟨a, B, sI, p, σ', H', cls, d, _, _, _, _, _, _, _, _, w⟩ := XE.of_call (W := fun cls d _ H' => E cls d H') J (fun _ _ _ h => h) c
  exact hE _ _ _ w
theorem run_sortK {pins : List (Addr × Obj)} {σ : St} {H : Hp} {s : Shared} {Q : VK} {I : Hp} {m : List Addr} {c c' : Cs} {l q a0 f : Addr} {vs : List V} {ds : List D} {od : D} {is : List Int} {fd : FuncData} {ps : List Str} {g : List D → Cs → R D}
    (J : Inv X pins σ H s) (R : Rel X.K I H m c) (hl : SqL X.K H l vs) (pv : Reps X.K I m vs ds) (hq : I q = some (.met f a0)) (po : Rep X.K I m (.ref a0) od) (F : GFn X.prog X.w X.K X.mg X.base k f fd ps g) (hb : Binds X.K fd ps []) (hr : Room (k + 2) X.A) (hgd : X.A.guards = some [])
    (ek : keysK (fun y => g [od, y]) ds c = .ok is c') (A : After (rD X.K) X.K I m H (fun cls d H' => W cls d σ H') Q (.ok (.lst (sortBy is ds)) c')) :
    wpAny (model X.prog X.w) X.A (call (.builtin "sorted") [.ref l] [(Str.ofString "key", .ref q)]) (EP X pins σ Q) X.xe s := by
  obtain ⟨its, rv, hlp, hz⟩ := J.list hl
  obtain ⟨hil, cs, c0, cn, hst⟩ := keysK_at ek
  have n1 := rv.length
  have n2 := pv.length
  have hr2 : Room k X.A.in1.in1 := Room.in1 (Room.in1 hr)
  have hun := hr.units0
  have hu2 : X.A.units + 2 < cLine := by have := hr.un; omega
  have own : ∀ b, s.heap.objs.size ≤ b → (b ∈ X.ex ∨ X.s_0.heap.objs.size ≤ b) ∧ b ≠ X.env.locals ∧ (∀ x c, X.env.cells.lookup x = some c → c ≠ b) ∧ ∀ p ∈ X.pn ++ pins, p.1 ≠ b := fun b hb => by
    refine ⟨.inr (Nat.le_trans J.sz hb), fun e => ?_, fun x c e z => ?_, fun p hp e => ?_⟩
    · exact absurd (e ▸ hb) (Nat.not_le.mpr J.lt)
    · obtain ⟨v, o, ho, _⟩ := J.cell x c e
      exact absurd (z.symm ▸ hb) (Nat.not_le.mpr (Heap.lt_size ho))
    · exact absurd (e.symm ▸ hb) (Nat.not_le.mpr (Heap.lt_size (J.pin p hp).1))
  refine Sk.jsorted (b := false) (kz := is) (vs := its) (J := fun a kS i s' => ∃ I' m' H', Inv X pins σ H' s' ∧ Ext I m H I' m' H' ∧ Rel X.K I' H' m' (cs i) ∧ H' a = none ∧ H' kS = none) hlp.isList (by omega) (by omega) hu2 (PyProof.Rows.ksk_s1 _ _) (fun _ => PyProof.Rows.ksk_l1 _ _) (fun _ => PyProof.Rows.ksk_t1 _ _) ?_ ?_ ?_ ?_
  · intro a kS ha hk h' kept
    exact ⟨I, m, H, J.kept (t' := s.toks) kept, Ext.refl I m H, by rw [c0]; exact R, J.hok.fresh ha, J.hok.fresh hk⟩
  · rintro a kS e1 ha hk i v ky s' kA e hv hkz ⟨I', m', H', J', X1, R', na, nk⟩ ek' ea'
    have hi : i < its.length := (List.getElem?_eq_some_iff.mp hv).1
    obtain ⟨d, hd⟩ : ∃ d, ds[i]? = some d := ⟨_, List.getElem?_eq_getElem (by omega)⟩
    obtain ⟨x, hx, px⟩ := pv.get hd
    obtain ⟨v2, hv2, rx⟩ := Vals.get rv hx
    rw [hv] at hv2
    cases hv2
    have hg := hst i d ky hd hkz
    have ow := own a ha
    have ow2 := own kS hk
    have Jp : Inv X ((kS, seqObj "list" kA e) :: (a, seqObj "list" #[] e1) :: pins) σ H' s' := J'.pins_of fun p hp => by
      rcases List.mem_cons.mp hp with rfl | hp
      · exact ⟨ek', nk, ow2.2.1, J.nofs hk, fun v => nofun⟩
      rcases List.mem_cons.mp hp with rfl | hp
      · exact ⟨ea', na, ow.2.1, J.nofs ha, fun v => nofun⟩
      · exact J'.pin p (List.mem_append_right _ hp)
    have hoq : s'.heap.get? q = some (PySem.W.methodObj (.ref f) (.ref a0)) := J'.hok q _ (R'.same _ _ (X1.same _ _ hq))
    have hb2 : BindsTo s' fd ⟨[.ref a0, v], []⟩ (ps.zip [.ref a0, v]) := by
      have z := hb s' [.ref a0, v] J'.kIn (by
        rw [List.append_nil]
        exact F.len [od, d] (cs i) (by rw [hg]; nofun))
      rw [List.append_nil] at z
      exact z
    refine wpAny_call (PySem.W.method_call hoq (codeAny_mono (F.run X.A.in1.in1 X.stack s' H' ⟨[.ref a0, v], []⟩ [.ref a0, v] [.ref a0, x] (fun y H2 => y = .int ky ∧ ∃ I2 m2, Ext I' m' H' I2 m2 H2 ∧ Rel X.K I2 H2 m2 (cs (i + 1))) (fun _ _ _ => False) I' m' (cs i) [od, d] hr2 hgd (Env0.in1 (Env0.in1 J'.env0)) hb2 (.cons rfl (.cons rx .nil)) R' (.cons (Rep.ext po X1) (.cons (Rep.ext px X1) .nil)) ?_) fun res s2 hq2 => ?_))
    · rw [hg]
      intro I2 m2 H2 y X2 R2 p2
      cases p2
      exact ⟨rfl, I2, m2, X2, R2⟩
    cases res with
    | error z => exact (wish_none J' (fun _ _ _ h => h) hq2).elim
    | ok fl =>
      cases fl with
      | ret u =>
        obtain ⟨y, H2, J2, ry, rfl, I2, m2, X2, R2⟩ := Jp.after hq2
        obtain ⟨p1, p2, _⟩ := J2.pin (kS, seqObj "list" kA e) (List.mem_append_right _ List.mem_cons_self)
        obtain ⟨p3, p4, _⟩ := J2.pin (a, seqObj "list" #[] e1) (List.mem_append_right _ (List.mem_cons_of_mem _ List.mem_cons_self))
        exact ⟨ry, ⟨I2, m2, H2, J2.pins_of fun p hp => J2.pin p (List.mem_append_right _ (List.mem_cons_of_mem _ (List.mem_cons_of_mem _ hp))), X1.trans X2, R2, p4, p2⟩, p1, p3⟩
      | next => exact False.elim hq2
      | brk => exact False.elim hq2
      | cont => exact False.elim hq2
  · rintro a kS ha hk i s' h' ⟨I', m', H', J', X1, R', na, nk⟩ kept
    have ow2 := own kS hk
    exact ⟨I', m', H', J'.turned (t' := s'.toks) kept nk ow2.2.1 ow2.1 ow2.2.2.1 ow2.2.2.2, X1, R', na, nk⟩
  · rintro a kS ha hk s' h' tk out cc ⟨I', m', H', J', X1, R', na, nk⟩ b2 ea ko
    have en : cs its.length = c' := by rw [← n1, n2]; exact cn
    rw [en] at R'
    obtain ⟨z1, z2⟩ := zip_keys (is := is) (vs := vs) (ds := ds) hil n2
    have eo := PySem.W.keyedOut_each (rev := false) (fun p : Int × V × D => PyData.int p.1) (bs := is.zip (vs.zip ds)) (by rw [z1]; exact ko) (each_zip hil rv pv)
    rw [PySem.W.dataLe_int (fun p : Int × V × D => p.1)] at eo
    obtain ⟨o1, o2⟩ := each_out eo
    rw [sort_out hil n2] at o2
    have hlen : (((is.zip (vs.zip ds)).mergeSort fun p q => decide (p.1 ≤ q.1)).map fun p => p.2.1).length ≤ sizeLine := by
      rw [List.length_map, List.length_mergeSort, List.length_zip, List.length_zip]
      omega
    have J2 := inv_sorted (t' := tk) J' na nk b2 ea o1 hlen (fun b hb => by
      simp only [List.mem_cons, List.not_mem_nil, or_false] at hb
      rcases hb with rfl | rfl
      · exact own _ ha
      · exact own _ hk)
    obtain ⟨R2, X2⟩ := alloc (o := .lst (((is.zip (vs.zip ds)).mergeSort fun p q => decide (p.1 ≤ q.1)).map fun p => p.2.1)) R' na
    exact ⟨.ref a, _, J2, rfl, A _ _ _ _ (X1.trans X2) R2 (.lst upd_same (o2.ext (X1.trans X2)))⟩
end
structure BMthK (P : Program) (w : World) (K : PySem.W.Frag) (mg : Str → Option Value) (base : Heap) (n mm : Str) (g : List D → Cs → R D) (k : Nat) : Prop where
  ex : ∃ (C f : Addr) (fd : FuncData) (ps : List Str), NamV K n (.ref C) ∧ Cls K C ∧ BMeth K C mm f ∧ GFn P w K mg base k f fd ps g ∧ Binds K fd ps []
/-- sorted(ga, key=o.mm) -/
def on1K (h : D → R D) : List D → R D
  | [x] => h x
  | _ => .stuck
def viaK (tbl : Tbl) (mm : Str) (x o : D) (c : Cs) : R D := viaT tbl o c fun g fs => match fs.lookup mm with
  | none => sortK (fun y => g [o, y]) x c
  | some _ => .stuck
def mSortM (tbl : Tbl) (mm : Str) (ga : MA) (fo : ME) : ME := fun l c => (ga l c).bind fun xs c1 => on1K (fun x => (fo l c1).bind fun o c2 => viaK tbl mm x o c2) xs
section
variable {X : Cx} {W : WX} {k : Nat} {e o : Expr} {ga : MA} {fo : ME} {mm x : Str} {p apos kpos pos : Pos} {tbl : Tbl}
def tBnd (K : PySem.W.Frag) (W : WX) (mm : Str) (fo : ME) : TE := fun σ H Q => rdE K W fo σ H fun v H1 => ∃ (a C dx f : Addr) (fs : List (Str × V)), v = .ref a ∧ H1 a = some (.ins C dx fs) ∧ Cls K C ∧ BMeth K C mm f ∧ fs.lookup mm = none ∧ ∀ p, H1 p = none → Q (.ref p) (upd H1 p (.met f a))
theorem pe_bnd (ho : PE X o (rdE X.K W fo)) (hb : attributeBase o mm X.env (eval o X.env) = eval o X.env := by rfl) : PE X (.Attribute o mm apos) (tBnd X.K W mm fo) := by
  refine ⟨fun pins s σ H Q J h => attr_of hb (thn (ho.run pins s σ H _ J h) fun u s1 ⟨v, H1, J1, rv, a, C, dx, f, fs, ev, ea, cl, bm, lk, q⟩ => ?_)⟩
  subst ev
  exact op_getbound J1 ea cl bm lk rv q
theorem me_sortM (hT : ∀ q ∈ tbl, BMthK X.prog X.w X.K X.mg X.base q.1 mm q.2 k) (hr : Room (k + 2) X.A) (hgd : X.A.guards = some []) (hg : Gl X x) (hm : X.mg x = none) (hv : bootBuiltins x = some (.builtin "sorted")) (ha : PA X [e] (rdA X.K W ga)) (ho : PE X o (rdE X.K W fo))
    (hn : x ≠ "__name__" := by decide) (hdb : (x == ("__debug__" : Str)) = false := by decide) (hb : attributeBase o mm X.env (eval o X.env) = eval o X.env := by rfl)
    (he : backTo pos (starEach [e] X.env) = (false, eval e X.env) :: backTo pos (starEach [] X.env) := by rfl) (hpl : (backTo pos (starEach [e] X.env)).any (·.1) = false := by rfl)
    (hall : (backToKw pos (keywordEach [⟨some (Str.ofString "key"), .Attribute o mm apos, kpos⟩] X.env)).all (·.1.isSome) = true := by rfl) (hnone : (backToKw pos (keywordEach [⟨some (Str.ofString "key"), .Attribute o mm apos, kpos⟩] X.env)).any (·.1.isNone) = false := by rfl)
    (hks : (backToKw pos (keywordEach [⟨some (Str.ofString "key"), .Attribute o mm apos, kpos⟩] X.env)).filterMap (·.1) = [Str.ofString "key"] := by rfl) :
    PE X (.Call (.Name x p) [e] [⟨some (Str.ofString "key"), .Attribute o mm apos, kpos⟩] pos) (rdE X.K W (mSortM tbl mm ga fo)) := by
  refine ⟨fun pins s σ H Q J ⟨I, m, l, c, R, L, A⟩ => ?_⟩
  have hk : PK X [⟨some (Str.ofString "key"), .Attribute o mm apos, kpos⟩] (tCons (tBnd X.K W mm fo) tNil) := pk_cons (pe_bnd ho hb) pk_nil
  refine wpAny_Call_Name_kw (ld_blt J hg hm hv ?_ hn hdb)
  refine PyProof.Rows.callWith_kw (thn (ha.run pos pins s σ H _ J ⟨I, m, l, c, R, L, After.bind (rep := rA X.K) A⟩) fun us s1 ⟨vs, H1, J1, r1, I1, m1, c1, ds, E1, R1, p1, A1⟩ => ?_) he hpl hall hnone
  have A1 : After (rD X.K) X.K I1 m1 H1 (fun cls dd H' => W cls dd σ H') Q (on1K (fun x => (fo l c1).bind fun o c2 => viaK tbl mm x o c2) ds) := A1
  cases p1 with
  | nil => exact A1.elim
  | @cons v vs0 x0 ds0 pv ps =>
    cases ps with
    | cons _ _ => exact A1.elim
    | nil =>
      have A1 : After (rD X.K) X.K I1 m1 H1 (fun cls dd H' => W cls dd σ H') Q ((fo l c1).bind fun o c2 => viaK tbl mm x0 o c2) := A1
      refine thn (hk.run pos pins s1 σ H1 (fun zs H3 => ∃ (q lA : Addr), zs = [.ref q] ∧ v = .ref lA ∧ ∀ (s3 : Shared), Inv X pins σ H3 s3 → wpAny (model X.prog X.w) X.A (call (.builtin "sorted") [.ref lA] [(Str.ofString "key", .ref q)]) (EP X pins σ Q) X.xe s3) J1 ?_) fun ws s2 ⟨zs, H2, J2, r2, q, lA, ez, ev, run⟩ => ?_
      · refine ⟨I1, m1, l, c1, R1, L.ext E1, After.mono (After.bind (rep := rD X.K) A1) fun v2 H2 ⟨I2, m2, c2, d2, E2, R2, p2, A2⟩ => ?_⟩
        obtain ⟨a, C, dx, vs2, n, fs, g, rfl, h1, h2, h3, h4, A3⟩ := via_read R2 p2 A2
        obtain ⟨C', f, fd, ps, k1, k2, k3, F, hbi⟩ := (hT _ h4).ex
        cases h1.one k1
        cases z : fs.lookup mm with
        | some d => rw [z] at A3; exact A3.elim
        | none =>
          rw [z] at A3
          have A3 : After (rD X.K) X.K I2 m2 H2 (fun cls dd H' => W cls dd σ H') Q (sortK (fun y => g [d2, y]) x0 c2) := A3
          refine ⟨a, C, dx, f, vs2, rfl, h2, k2, k3, h3.lookN z, fun q nq => ?_⟩
          obtain ⟨R3, E3⟩ := alloc (o := .met f a) R2 nq
          unfold sortK at A3
          cases y : lstOf x0 c2 with
          | none => rw [y] at A3; exact A3.elim
          | some ds1 =>
            rw [y] at A3
            have A3 : After (rD X.K) X.K I2 m2 H2 (fun cls dd H' => W cls dd σ H') Q (match keysK (fun y => g [d2, y]) ds1 c2 with
              | .ok is c' => .ok (.lst (sortBy is ds1)) c'
              | _ => .stuck) := A3
            obtain ⟨lA, vs3, rfl, hl, hp⟩ := lstOf_at R3 (Rep.ext (Rep.ext pv E2) E3) y
            cases kk : keysK (fun y => g [d2, y]) ds1 c2 with
            | stuck => rw [kk] at A3; exact A3.elim
            | exc _ _ => rw [kk] at A3; exact A3.elim
            | ok is c' =>
              rw [kk] at A3
              exact ⟨q, lA, rfl, rfl, fun s3 J3 => run_sortK (k := k) J3 R3 hl hp upd_same (Rep.ext p2 E3) F hbi hr hgd kk (After.ext E3 A3)⟩
      · subst ez ev
        rw [hks]
        cases r2 with
        | cons r2 r3 =>
          cases r3
          cases r1 with
          | cons r1 r4 =>
            cases r4
            obtain rfl := r1
            obtain rfl := r2
            exact run s2 J2
end
end L2.Mi

/-! sorted of tuples of data; sorted(ints, reverse=True) -/
namespace L2.Mi
open PySem PySem.Spec PyProof.Rows L2
def tup1B : PyData → Bool
  | .tuple (_ :: _) => true
  | _ => false
theorem tup1_at {d : PyData} (h : tup1B d = true) : ∃ x r, d = .tuple (x :: r) := by
  unfold tup1B at h
  split at h
  · exact ⟨_, _, rfl⟩
  · cases h
theorem depth_mem : ∀ {ds : List PyData} {d : PyData}, d ∈ ds → d.depth ≤ PyData.depthAll ds
  | x :: xs, d, h => by
    rcases List.mem_cons.mp h with rfl | h
    · simp only [PyData.depthAll]; omega
    · have := depth_mem h
      simp only [PyData.depthAll]; omega
def sortD {α : Type} (ps : List PyData) (xs : List α) : List α := ((ps.zip xs).mergeSort (W.dataLe false Prod.fst)).map Prod.snd
def rSortT (K : PySem.W.Frag) : List V → Hp → VK → Prop := fun vs H Q => ∃ (a : Addr) (ws : List V) (ps : List PyData), vs = [V.ref a] ∧ SqL K H a ws ∧ DpAll K H ws ps ∧ W.AllAlike ps ∧ W.Sortable ps ∧ PyData.depthAll ps ≤ 60 ∧ ws.length = ps.length ∧
  ∀ p, H p = none → Q (.ref p) (upd H p (.lst (sortD ps ws)))
section
variable {X : Cx}
theorem each_pv {h : Heap} : ∀ {ps : List PyData} {ws : List V} {us : List Value} {as : List Addr}, ReadsAll h us ps as → Vals ws us → W.EachIs (fun (u : Value) (b : PyData × V) => RelV b.2 u) us (ps.zip ws) ∧ W.EachIs (fun (u : Value) (b : PyData × V) => ∃ as, Reads h u b.1 as) us (ps.zip ws)
  | _, _, _, _, .nil, r => by
    cases r
    exact ⟨.nil, .nil⟩
  | _, _, _, _, .cons h1 h2, r => by
    cases r with
    | cons r0 rs =>
      obtain ⟨a, b⟩ := each_pv h2 rs
      exact ⟨.cons r0 a, .cons ⟨_, h1⟩ b⟩
theorem each_vals : ∀ {us : List Value} {bs : List (PyData × V)}, W.EachIs (fun (u : Value) (b : PyData × V) => RelV b.2 u) us bs → Vals (bs.map Prod.snd) us
  | _, _, .nil => .nil
  | _, _, .cons h r => .cons h (each_vals r)
theorem zip_fst {α β : Type} : ∀ {ps : List α} {ws : List β}, ws.length = ps.length → (ps.zip ws).map Prod.fst = ps
  | [], _, _ => by simp
  | p :: ps, [], h => by simp at h
  | p :: ps, w :: ws, h => by simp [zip_fst (ps := ps) (ws := ws) (by simpa using h)]
theorem cr_srtTup (hu : X.A.units + 65 < cLine) : CallR X (.builtin "sorted") (rSortT X.K) := by
  intro pins s σ H vs us Q I r h
  obtain ⟨a, ws, ps, rfl, hs, da, al, so, de, hl, q⟩ := h
  obtain ⟨its, rv, hlp, hz⟩ := I.list hs
  rw [Vals.ref1 r]
  obtain ⟨as, h4⟩ := Dp.readsAll I ps _ its da rv
  obtain ⟨e1, e2⟩ := each_pv h4 rv
  have hf := zip_fst (ps := ps) (ws := ws) hl
  refine W.sorted_data (bs := ps.zip ws) (enc := Prod.fst) hlp.isList e1 e2 (by rw [hf]; exact al) (by rw [hf]; exact so) (by rw [List.length_zip]; omega) (fun b hb => ?_) fun out hlen eo => ?_
  · have h1 : b.1 ∈ ps := by rw [← hf]; exact List.mem_map.mpr ⟨b, hb, rfl⟩
    have := depth_mem h1
    omega
  · obtain ⟨ep, he'⟩ := PyProof.Rows.sortedAll_at s.heap its out.toArray
    have hln : (sortD ps ws).length ≤ sizeLine := by
      unfold sortD
      rw [List.length_map, List.length_mergeSort, List.length_zip]
      omega
    exact ⟨.ref _, upd H (s.heap.objs.size + 1) (.lst (sortD ps ws)), I.laid (t' := s.toks) (fun _ _ => PyProof.Rows.sortedAll_old) (Nat.le_succ _) ⟨hln, out, ep, each_vals eo, he'⟩, rfl, q _ (I.hok.fresh (Nat.le_succ _))⟩
end
def sortTP (xs : List D) : Option (List D) := match toPys xs with
  | some ps => if alikesB ps = true ∧ ps.all tup1B = true ∧ PyData.depthAll ps ≤ 60 then some (sortD ps xs) else none
  | none => none
def sortT : List D → Cs → R D := fun es c => match es with
  | [.lst xs] => match sortTP xs with
    | some ds => .ok (.lst ds) c
    | none => .stuck
  | _ => .stuck
theorem each_rep {K : PySem.W.Frag} {I : Hp} {m : List Addr} : ∀ {vs : List V} {ds : List D}, Reps K I m vs ds → ∀ (ps : List PyData), ps.length = ds.length → ∃ bs : List (PyData × V × D), bs.map (fun b => (b.1, b.2.1)) = ps.zip vs ∧ bs.map (fun b => (b.1, b.2.2)) = ps.zip ds ∧ ∀ b ∈ bs, Rep K I m b.2.1 b.2.2
  | [], [], .nil, ps, h => ⟨[], by simp, by simp, fun b hb => absurd hb List.not_mem_nil⟩
  | v :: vs, d :: ds, .cons p r, [], h => by simp at h
  | v :: vs, d :: ds, .cons p r, q :: ps, h => by
    obtain ⟨bs, h1, h2, h3⟩ := each_rep r ps (by simpa using h)
    refine ⟨(q, v, d) :: bs, by simp [h1], by simp [h2], fun b hb => ?_⟩
    rcases List.mem_cons.mp hb with rfl | hb
    · exact p
    · exact h3 b hb
theorem reps_of {K : PySem.W.Frag} {I : Hp} {m : List Addr} : ∀ {bs : List (PyData × V × D)}, (∀ b ∈ bs, Rep K I m b.2.1 b.2.2) → Reps K I m (bs.map fun b => b.2.1) (bs.map fun b => b.2.2)
  | [], _ => .nil
  | b :: bs, h => .cons (h b List.mem_cons_self) (reps_of fun x hx => h x (List.mem_cons_of_mem _ hx))
theorem reps_sort {K : PySem.W.Frag} {I : Hp} {m : List Addr} {vs : List V} {ds : List D} (r : Reps K I m vs ds) {ps : List PyData} (h : ps.length = ds.length) : Reps K I m (sortD ps vs) (sortD ps ds) := by
  obtain ⟨bs, h1, h2, h3⟩ := each_rep r ps h
  have e1 : sortD ps vs = (bs.mergeSort (W.dataLe false Prod.fst)).map fun b => b.2.1 := by
    unfold sortD
    rw [← h1, ← List.map_mergeSort (r := W.dataLe false Prod.fst) (f := fun b : PyData × V × D => (b.1, b.2.1)) (fun a _ b _ => rfl), List.map_map]
    rfl
  have e2 : sortD ps ds = (bs.mergeSort (W.dataLe false Prod.fst)).map fun b => b.2.2 := by
    unfold sortD
    rw [← h2, ← List.map_mergeSort (r := W.dataLe false Prod.fst) (f := fun b : PyData × V × D => (b.1, b.2.2)) (fun a _ b _ => rfl), List.map_map]
    rfl
  rw [e1, e2]
  exact reps_of fun b hb => h3 b (List.mem_mergeSort.mp hb)
theorem cs_sortT {K : PySem.W.Frag} : CallS K (rSortT K) sortT := fun I H m c vs es W Q R p A => by
  unfold sortT at A
  cases p with
  | nil => exact (show False from A).elim
  | cons p0 p1 =>
    cases p1 with
    | cons _ _ => cases p0 <;> exact (show False from A).elim
    | nil =>
      cases p0 with
      | @lst a ws xs h r =>
        have A : After (rD K) K I m H W Q (match sortTP xs with
          | some ds => .ok (.lst ds) c
          | none => .stuck) := A
        cases y : sortTP xs with
        | none => rw [y] at A; exact A.elim
        | some ds =>
          rw [y] at A
          unfold sortTP at y
          cases z : toPys xs with
          | none => rw [z] at y; cases y
          | some ps =>
            rw [z] at y
            have y : (if alikesB ps = true ∧ ps.all tup1B = true ∧ PyData.depthAll ps ≤ 60 then some (sortD ps xs) else none) = some ds := y
            split at y
            · rename_i hc
              obtain ⟨c1, c2, c3⟩ := hc
              cases y
              have hl := toPys_len z
              have hl2 := r.length
              refine ⟨a, ws, ps, rfl, SqL.of (R.same _ _ h), rep_dps R.same r z, alikesB_of c1, .inl fun d hd => tup1_at (List.all_eq_true.mp c2 d hd), c3, by omega, fun p np => ?_⟩
              exact A.new R np (.lst upd_same (reps_sort (Reps.mono (alloc (o := .lst (sortD ps ws)) R np).2.same (Pre.refl m) r) hl.symm))
            · cases y
      | _ => exact (show False from A).elim
/-- .. as a list of its own -/
def sortTM : List D → Cs → R D := fun es c => match es with
  | [.lst xs] => match sortTP xs with
    | some ds => .ok (.ref c.length) (c ++ [.lst ds])
    | none => .stuck
  | _ => .stuck
theorem cs_sortTM {K : PySem.W.Frag} : CallS K (rSortT K) sortTM := fun I H m c vs es W Q R p A => by
  unfold sortTM at A
  cases p with
  | nil => exact (show False from A).elim
  | cons p0 p1 =>
    cases p1 with
    | cons _ _ => cases p0 <;> exact (show False from A).elim
    | nil =>
      cases p0 with
      | @lst a ws xs h r =>
        have A : After (rD K) K I m H W Q (match sortTP xs with
          | some ds => .ok (.ref c.length) (c ++ [.lst ds])
          | none => .stuck) := A
        cases y : sortTP xs with
        | none => rw [y] at A; exact A.elim
        | some ds =>
          rw [y] at A
          unfold sortTP at y
          cases z : toPys xs with
          | none => rw [z] at y; cases y
          | some ps =>
            rw [z] at y
            have y : (if alikesB ps = true ∧ ps.all tup1B = true ∧ PyData.depthAll ps ≤ 60 then some (sortD ps xs) else none) = some ds := y
            split at y
            · rename_i hc
              obtain ⟨c1, c2, c3⟩ := hc
              cases y
              have hl := toPys_len z
              have hl2 := r.length
              refine ⟨a, ws, ps, rfl, SqL.of (R.same _ _ h), rep_dps R.same r z, alikesB_of c1, .inl fun d hd => tup1_at (List.all_eq_true.mp c2 d hd), c3, by omega, fun p np => ?_⟩
              exact After.cell A R np (reps_sort r hl.symm)
            · cases y
      | _ => exact (show False from A).elim
/-! ### sorted(ints, reverse=True) -/
def sortRVd (d : D) (c : Cs) : R D := match d with
  | .lst ds => match intsOf ds with
    | some ns => .ok (.lst ((sortI ns).reverse.map D.int)) c
    | none => .stuck
  | _ => .stuck
def sortRV : List D → Cs → R D := on1 sortRVd
theorem rev_one {ns ns' : List Int} (h1 : ns'.Perm ns) (h2 : ns'.Pairwise (· ≥ ·)) : ns' = (sortI ns).reverse := by
  have e : ns'.reverse = sortI ns := sorted_one (((List.reverse_perm _).trans h1).trans (sortI_perm ns).symm) (by rw [List.pairwise_reverse]; exact h2) (sortI_sorted ns)
  rw [← e, List.reverse_reverse]
theorem me_sortRV {X : Cx} {W : WX} {e : Expr} {ga : MA} {x : Str} {p cpos kpos pos : Pos} {j : Nat} (hg : Gl X x) (hm : X.mg x = none) (hv : bootBuiltins x = some (.builtin "sorted")) (ha : PA X [e] (rdA X.K W ga))
    (hn : x ≠ "__name__" := by decide) (hdb : (x == ("__debug__" : Str)) = false := by decide)
    (he : backTo pos (starEach [e] X.env) = (false, eval e X.env) :: backTo pos (starEach [] X.env) := by rfl) (hpl : (backTo pos (starEach [e] X.env)).any (·.1) = false := by rfl)
    (hall : (backToKw pos (keywordEach [⟨some (Str.ofString "reverse"), .Constant (.bool true) j cpos, kpos⟩] X.env)).all (·.1.isSome) = true := by rfl) (hnone : (backToKw pos (keywordEach [⟨some (Str.ofString "reverse"), .Constant (.bool true) j cpos, kpos⟩] X.env)).any (·.1.isNone) = false := by rfl)
    (hks : (backToKw pos (keywordEach [⟨some (Str.ofString "reverse"), .Constant (.bool true) j cpos, kpos⟩] X.env)).filterMap (·.1) = [Str.ofString "reverse"] := by rfl) :
    PE X (.Call (.Name x p) [e] [⟨some (Str.ofString "reverse"), .Constant (.bool true) j cpos, kpos⟩] pos) (rdE X.K W (mCB sortRV ga)) := by
  refine PEi (pe_callBK (cr_sortedRev (b := true)) hg hm hv ha (pk_cons pe_bl pk_nil) hn hdb he hpl hall hnone hks) fun σ H Q ⟨I, m, l, c, R, L, A⟩ => ?_
  refine ⟨I, m, l, c, R, L, After.mono (After.bind (rep := rA X.K) A) fun vs H1 ⟨I1, m1, c1, ds, E1, R1, p1, A1⟩ => ?_⟩
  obtain ⟨v, d, rfl, rfl, pd, A1⟩ := on1_arg p1 A1
  cases pd with
  | @lst a ws es h r =>
    have A1 : After (rD X.K) X.K I1 m1 H1 (fun cls dd H' => W cls dd σ H') Q (match intsOf es with
      | some ns => .ok (.lst ((sortI ns).reverse.map D.int)) c1
      | none => .stuck) := A1
    cases q : intsOf es with
    | none => rw [q] at A1; exact A1.elim
    | some ns =>
      rw [q] at A1
      refine ⟨a, ns, rfl, rfl, by rw [← ints_reps r q]; exact SqL.of (R1.same _ _ h), fun ns' p2 hp hs np => ?_⟩
      rw [rev_one hp hs]
      exact A1.new R1 np (.lst upd_same (reps_ints _))
  | _ => exact A1.elim
end L2.Mi

namespace L2.Lw
open PySem PySem.Spec PyProof.Rows L2 L2.Mi
def top (i : Nat) : Stmt := PySem.Challenge.pw_weavegraph_k24_violations.main.body.getD i (.Pass ⟨0, 0, 0, 0⟩)
abbrev s_law_box : Stmt := top 21
abbrev s_law_cell : Stmt := top 20
abbrev s_law_take : Stmt := top 22
abbrev s_law_far : Stmt := top 27
abbrev s_law_lists : Stmt := top 24
abbrev s_law_rows : Stmt := top 23
abbrev s_law_drawn : Stmt := top 25
abbrev sis_sequence : Stmt := top 12
abbrev sneed_integers : Stmt := top 15
abbrev sis_integer : Stmt := top 11
abbrev sneed_range : Stmt := top 16
abbrev sScores____init__ : Stmt := inClass (top 17) 0
abbrev s_law_fits : Stmt := top 26
abbrev s_law_lowest : Stmt := top 28
abbrev s_law_due : Stmt := top 29
abbrev sScores__pairs : Stmt := inClass (top 17) 14
abbrev sScores__threads : Stmt := inClass (top 17) 8
abbrev sScores__score_of : Stmt := inClass (top 17) 9
abbrev sScores__lowest : Stmt := inClass (top 17) 13
abbrev sScores__lowest_excess : Stmt := inClass (top 17) 15
abbrev sScores__violation : Stmt := inClass (top 17) 18
abbrev sScores__is_feasible : Stmt := inClass (top 17) 19
abbrev slaw : Stmt := top 30
abbrev sxInvalidScores : Stmt := inClass (top 5) 0
abbrev sxWrongTotal : Stmt := inClass (top 6) 0
def c_law_box : MS := sRet (mLstM (aCons (mCB max2 (aCons (mC (.int 0)) (aCons (mOp subD (mVar 0) (mOp powI (mC (.int 10)) (mC (.int 18)))) (aNil)))) (aCons (mOp modI (mVar 0) (mC (.int 2147483629))) (aCons (mC (.int 0)) (aNil)))))
abbrev g_law_box : List D → Cs → R D := mFun 1 1 c_law_box
theorem sc_law_box : FnScope ["_law_cell_here"] ["_law_cell_here"] (defScope s_law_box) := ⟨rfl, rfl, rfl, by decide +kernel, rfl, by decide +kernel, by decide +kernel⟩
def c_law_cell : MS := sSeq (sIf (mT (mOp ltD (mVar 1) (mCB lenD (aCons (mVar 0) (aNil))))) (sRet (mOp itemD (mVar 0) (mVar 1))) (sNil)) (sRet (mOp addD (mOp mulI (mC (.int 7919)) (mVar 1)) (mC (.int 613))))
abbrev g_law_cell : List D → Cs → R D := mFun 2 2 c_law_cell
theorem sc_law_cell : FnScope ["_law_script", "_law_k"] ["_law_script", "_law_k"] (defScope s_law_cell) := ⟨rfl, rfl, rfl, by decide +kernel, rfl, by decide +kernel, by decide +kernel⟩
def c_law_take : MS := sSeq (sIf (mT (mOp gtD (mOp itemD (mVar 0) (mC (.int 0))) (mC (.int 0)))) (sSeq (sSet 3 (mOp modI (mOp itemD (mVar 0) (mC (.int 0))) (mVar 1))) (sSeq (sAsg (mOp divI (mOp itemD (mVar 0) (mC (.int 0))) (mVar 1)) (gS (mVar 0) (mC (.int 0)))) (sRet (mVar 3)))) (sNil)) (sSeq (sAsg (mOp addD (mOp itemD (mVar 0) (mC (.int 2))) (mC (.int 1))) (gS (mVar 0) (mC (.int 2)))) (sSeq (sSet 2 (mOp modI (mOp powI (mOp addD (mOp addD (mOp itemD (mVar 0) (mC (.int 1))) (mOp mulI (mC (.int 7907)) (mOp itemD (mVar 0) (mC (.int 2))))) (mC (.int 613))) (mC (.int 5))) (mC (.int 2147483647)))) (sSeq (sSet 2 (mOp modI (mOp powI (mOp addD (mVar 2) (mOp mulI (mC (.int 104723)) (mOp itemD (mVar 0) (mC (.int 2))))) (mC (.int 3))) (mC (.int 2147483587)))) (sRet (mOp modI (mOp divI (mVar 2) (mC (.int 16))) (mVar 1))))))
abbrev g_law_take : List D → Cs → R D := mFun 4 2 c_law_take
theorem sc_law_take : FnScope ["_law_box_here", "_law_many", "_law_mixed", "_law_digit"] ["_law_box_here", "_law_many"] (defScope s_law_take) := ⟨rfl, rfl, rfl, by decide +kernel, rfl, by decide +kernel, by decide +kernel⟩
def c_law_far : MS := sSeq (sAsg (mTup (aCons (mOp addD (mC (.int 1)) (mCB g_law_take (aCons (mVar 0) (aCons (mC (.int 4)) (aNil))))) (aCons (mOp addD (mC (.int 1)) (mCB g_law_take (aCons (mVar 0) (aCons (mC (.int 4)) (aNil))))) (aCons (mCB g_law_take (aCons (mVar 0) (aCons (mC (.int 8)) (aNil)))) (aNil))))) (gT [2, 3, 4])) (sSeq (sSet 1 (mLst (aCons (mOp addD (mOp (mulX false) (mLst (aCons (mOp mulI (mC (.int 2)) (mVar 3)) (aNil))) (mVar 2)) (mOp (mulX false) (mLst (aCons (mC (.int 0)) (aNil))) (mVar 2))) (aCons (mOp addD (mOp (mulX false) (mLst (aCons (mOp mulI (mC (.int 2)) (mVar 2)) (aNil))) (mVar 3)) (mOp (mulX false) (mLst (aCons (mC (.int 0)) (aNil))) (mVar 3))) (aNil))))) (sRet (mLcW (kAny (mVar 1)) [5] (gN 5) (tYesM) (mOp addD (mSliceY (mVar 5) (oSome (mOp modI (mVar 4) (mCB lenD (aCons (mVar 5) (aNil))))) (oNone)) (mSliceY (mVar 5) (oNone) (oSome (mOp modI (mVar 4) (mCB lenD (aCons (mVar 5) (aNil))))))))))
abbrev g_law_far : List D → Cs → R D := mFun 6 1 c_law_far
theorem sc_law_far : FnScope ["_law_box_here", "_law_lists_here", "_law_warps", "_law_wefts", "_law_turn", "_law_one"] ["_law_box_here"] (defScope s_law_far) := ⟨rfl, rfl, rfl, by decide +kernel, rfl, by decide +kernel, by decide +kernel⟩
def c_law_lists : MS := sSeq (sSet 1 (mLcM (iR1 (aCons (mCB lenD (aCons (mOp itemD (mVar 0) (mC (.int 0))) (aNil))) (aNil))) [2] (gN 2) (tYesM) (mCB lenD (aCons (mLcW (kAny (mVar 0)) [3] (gN 3) (mT (mOp eqX (mOp itemD (mVar 3) (mVar 2)) (mC (.str "1")))) (mVar 3)) (aNil))))) (sRet (mLst (aCons (mVar 1) (aCons (mLcMW (kAny (mVar 0)) [3] (gN 3) (tYesM) (mM1 countD (mVar 3) (mC (.str "0")))) (aNil)))))
abbrev g_law_lists : List D → Cs → R D := mFun 4 1 c_law_lists
theorem sc_law_lists : FnScope ["_law_rows_here", "_law_warps", "_law_i", "_law_row"] ["_law_rows_here"] (defScope s_law_lists) := ⟨rfl, rfl, rfl, by decide +kernel, rfl, by decide +kernel, by decide +kernel⟩
def c_law_rows : MS := sSeq (sAsg (mTup (aCons (mOp addD (mC (.int 1)) (mCB g_law_take (aCons (mVar 0) (aCons (mC (.int 8)) (aNil))))) (aCons (mOp addD (mC (.int 1)) (mCB g_law_take (aCons (mVar 0) (aCons (mC (.int 8)) (aNil))))) (aCons (mOp itemD (mLst (aCons (mC (.int 1)) (aCons (mC (.int 2)) (aCons (mC (.int 3)) (aCons (mC (.int 5)) (aNil)))))) (mCB g_law_take (aCons (mVar 0) (aCons (mC (.int 4)) (aNil))))) (aNil))))) (gT [2, 3, 4])) (sSeq (sPar [5, 6] (aCons (mLc (iR1 (aCons (mVar 2) (aNil))) [10] (gN 10) (tYesM) (mCB g_law_take (aCons (mVar 0) (aCons (mVar 4) (aNil))))) (aCons (mLc (iR1 (aCons (mVar 3) (aNil))) [10] (gN 10) (tYesM) (mCB g_law_take (aCons (mVar 0) (aCons (mVar 4) (aNil))))) (aNil)))) (sSeq (sAsg (mTup (aCons (mOp itemD (mLst (aCons (mC (.int 2)) (aCons (mC (.int 2)) (aCons (mC (.int 3)) (aCons (mC (.int 6)) (aNil)))))) (mCB g_law_take (aCons (mVar 0) (aCons (mC (.int 4)) (aNil))))) (aCons (mLstM (aNil)) (aNil)))) (gT [7, 8])) (sSeq (sForW (kAny (mVar 6)) (gN 1) (sSeq (sSet 9 (mLcW (kAny (mVar 5)) [11] (gN 11) (tYesM) (mIf (mT (mOp neX (mVar 11) (mVar 1))) (mCB intFD (aCons (mOp gtD (mVar 11) (mVar 1)) (aNil))) (mCB intFD (aCons (mOp gtD (mCB g_law_take (aCons (mVar 0) (aCons (mVar 7) (aNil)))) (mC (.int 0))) (aNil)))))) (sExpr (mBM appendD (mVar 8) (aCons (mM1 joinX (mC (.str "")) (mLcW (kAny (mVar 9)) [12] (gN 12) (tYesM) (mCB strFD (aCons (mVar 12) (aNil))))) (aNil)))))) (sRet (mFrz (mVar 8))))))
abbrev g_law_rows : List D → Cs → R D := mFun 13 1 c_law_rows
theorem sc_law_rows : FnScope ["_law_box_here", "_law_low", "_law_warps", "_law_wefts", "_law_many", "_law_up", "_law_down", "_law_bias", "_law_rows_here", "_law_signs", "_law_k", "_law_high", "_law_sign"] ["_law_box_here"] (defScope s_law_rows) := ⟨rfl, rfl, rfl, by decide +kernel, rfl, by decide +kernel, by decide +kernel⟩
def c_law_drawn : MS := sSeq (sSet 1 (mCB g_law_lists (aCons (mCB g_law_rows (aCons (mVar 0) (aNil))) (aNil)))) (sSeq (sFor (iR1 (aCons (mOp itemD (mLst (aCons (mC (.int 0)) (aCons (mC (.int 0)) (aCons (mC (.int 1)) (aCons (mC (.int 3)) (aNil)))))) (mCB g_law_take (aCons (mVar 0) (aCons (mC (.int 4)) (aNil))))) (aNil))) (gN 2) (sSeq (sPar [3, 4] (aCons (mCB g_law_take (aCons (mVar 0) (aCons (mC (.int 2)) (aNil)))) (aCons (mCB g_law_take (aCons (mVar 0) (aCons (mC (.int 2)) (aNil)))) (aNil)))) (sSeq (sPar [5, 6] (aCons (mCB g_law_take (aCons (mVar 0) (aCons (mCB lenD (aCons (mOp itemD (mVar 1) (mVar 3)) (aNil))) (aNil)))) (aCons (mCB g_law_take (aCons (mVar 0) (aCons (mCB lenD (aCons (mOp itemD (mVar 1) (mVar 4)) (aNil))) (aNil)))) (aNil)))) (sIf (tAndM (mT (mOp ltD (mOp itemD (mOp itemD (mVar 1) (mVar 3)) (mVar 5)) (mCB lenD (aCons (mOp itemD (mVar 1) (mOp subD (mC (.int 1)) (mVar 3))) (aNil))))) (mT (mOp gtD (mOp itemD (mOp itemD (mVar 1) (mVar 4)) (mVar 6)) (mC (.int 0))))) (sSeq (sAsg (mOp addD (mOp itemD (mOp itemD (mVar 1) (mVar 3)) (mVar 5)) (mC (.int 1))) (gS (mOp itemD (mVar 1) (mVar 3)) (mVar 5))) (sAsg (mOp subD (mOp itemD (mOp itemD (mVar 1) (mVar 4)) (mVar 6)) (mC (.int 1))) (gS (mOp itemD (mVar 1) (mVar 4)) (mVar 6)))) (sNil))))) (sRet (mVar 1)))
abbrev g_law_drawn : List D → Cs → R D := mFun 7 1 c_law_drawn
theorem sc_law_drawn : FnScope ["_law_box_here", "_law_lists_here", "_law_turn", "_law_kind", "_law_other", "_law_one", "_law_two"] ["_law_box_here"] (defScope s_law_drawn) := ⟨rfl, rfl, rfl, by decide +kernel, rfl, by decide +kernel, by decide +kernel⟩
def cis_sequence : MS := sRet (mCB isiD (aCons (mVar 0) (aCons (mTup (aCons (mC (.ty "list")) (aCons (mC (.ty "tuple")) (aNil)))) (aNil))))
abbrev gis_sequence : List D → Cs → R D := mFun 1 1 cis_sequence
theorem scis_sequence : FnScope ["value"] ["value"] (defScope sis_sequence) := ⟨rfl, rfl, rfl, by decide +kernel, rfl, by decide +kernel, by decide +kernel⟩
def cneed_integers : MS := sSeq (sIf (tOrM (tNotM (mT (mCB gis_sequence (aCons (mVar 0) (aNil))))) (tNotM (mT (mChain leD leD (mC (.int 1)) (mCB lenD (aCons (mVar 0) (aNil))) (mC (.int 8)))))) (sRaise "InvalidScores" "value" (mVar 0)) (sNil)) (sIf (tNotM (mT (mCB allD (aCons (mLcW (kAny (mVar 0)) [1] (gN 1) (tYesM) (mAnd (mCB isiD (aCons (mVar 1) (aCons (mC (.ty "int")) (aNil)))) (mNot (mCB isiD (aCons (mVar 1) (aCons (mC (.ty "bool")) (aNil))))))) (aNil))))) (sRaise "InvalidScores" "value" (mVar 0)) (sNil))
abbrev gneed_integers : List D → Cs → R D := mFun 2 1 cneed_integers
theorem scneed_integers : FnScope ["value", "score"] ["value"] (defScope sneed_integers) := ⟨rfl, rfl, rfl, by decide +kernel, rfl, by decide +kernel, by decide +kernel⟩
def cis_integer : MS := sRet (mAnd (mCB isiD (aCons (mVar 0) (aCons (mC (.ty "int")) (aNil)))) (mAnd (mNot (mCB isiD (aCons (mVar 0) (aCons (mC (.ty "bool")) (aNil))))) (mChain leD leD (mVar 1) (mVar 0) (mVar 2))))
abbrev gis_integer : List D → Cs → R D := mFun 3 3 cis_integer
theorem scis_integer : FnScope ["value", "low", "high"] ["value", "low", "high"] (defScope sis_integer) := ⟨rfl, rfl, rfl, by decide +kernel, rfl, by decide +kernel, by decide +kernel⟩
def cneed_range : MS := sIf (tNotM (mT (mCB allD (aCons (mLcW (kAny (mVar 0)) [2] (gN 2) (tYesM) (mCB gis_integer (aCons (mVar 2) (aCons (mC (.int 0)) (aCons (mVar 1) (aNil)))))) (aNil))))) (sRaise "InvalidScores" "value" (mVar 0)) (sNil)
abbrev gneed_range : List D → Cs → R D := mFun 3 2 cneed_range
theorem scneed_range : FnScope ["value", "high", "score"] ["value", "high"] (defScope sneed_range) := ⟨rfl, rfl, rfl, by decide +kernel, rfl, by decide +kernel, by decide +kernel⟩
def cScores____init__ : MS := sSeq (sExpr (mCB gneed_integers (aCons (mVar 1) (aNil)))) (sSeq (sExpr (mCB gneed_integers (aCons (mVar 2) (aNil)))) (sSeq (sExpr (mCB gneed_range (aCons (mVar 1) (aCons (mCB lenD (aCons (mVar 2) (aNil))) (aNil))))) (sSeq (sExpr (mCB gneed_range (aCons (mVar 2) (aCons (mCB lenD (aCons (mVar 1) (aNil))) (aNil))))) (sSeq (sIfNm 3 neX (mOp addD (mCB sumY (aCons (mVar 1) (aNil))) (mCB sumY (aCons (mVar 2) (aNil)))) (mOp mulI (mCB lenD (aCons (mVar 1) (aNil))) (mCB lenD (aCons (mVar 2) (aNil)))) (sRaise "WrongTotal" "total" (mVar 3)) (sNil)) (sFldM ["Scores"] "kept_scores" (mVar 0) (mDict (dCons (mC (.str "warp")) (mCB listD (aCons (mVar 1) (aNil))) (dCons (mC (.str "weft")) (mCB listD (aCons (mVar 2) (aNil))) (dNil)))))))))
abbrev gScores____init__ : List D → Cs → R D := mFun 4 3 cScores____init__
theorem scScores____init__ : FnScope ["self", "warps", "wefts", "total"] ["self", "warps", "wefts"] (defScope sScores____init__) := ⟨rfl, rfl, rfl, by decide +kernel, rfl, by decide +kernel, by decide +kernel⟩
def c_law_fits : MS := sSeq (sSet 2 (mCB sortRV (aCons (mVar 1) (aNil)))) (sSeq (sIf (tOrM (mT (mOp neX (mCB sumY (aCons (mVar 0) (aNil))) (mCB sumY (aCons (mVar 1) (aNil))))) (tOrM (mT (mOp ltD (mCB minY (aCons (mOp addM (mVar 0) (mVar 1)) (aNil))) (mC (.int 0)))) (tOrM (mT (mOp gtD (mCB maxY (aCons (mVar 0) (aNil))) (mCB lenD (aCons (mVar 1) (aNil))))) (mT (mOp gtD (mCB maxY (aCons (mVar 1) (aNil))) (mCB lenD (aCons (mVar 0) (aNil)))))))) (sRet (mC (.bl false))) (sNil)) (sSeq (sFor (iR1 (aCons (mOp addD (mCB lenD (aCons (mVar 2) (aNil))) (mC (.int 1))) (aNil))) (gN 3) (sIf (mT (mOp gtD (mCB sumY (aCons (mSliceY (mVar 2) (oNone) (oSome (mVar 3))) (aNil))) (mCB sumY (aCons (mLcW (kAny (mVar 0)) [4] (gN 4) (tYesM) (mCB min2 (aCons (mVar 4) (aCons (mVar 3) (aNil))))) (aNil))))) (sRet (mC (.bl false))) (sNil))) (sRet (mC (.bl true)))))
abbrev g_law_fits : List D → Cs → R D := mFun 5 2 c_law_fits
theorem sc_law_fits : FnScope ["_law_needs", "_law_counts", "_law_ranks", "_law_many", "_law_need"] ["_law_needs", "_law_counts"] (defScope s_law_fits) := ⟨rfl, rfl, rfl, by decide +kernel, rfl, by decide +kernel, by decide +kernel⟩
def c_law_lowest : MS := sSeq (sSet 3 (mOp itemD (mVar 0) (mCB intFD (aCons (mOp eqX (mVar 1) (mC (.str "weft"))) (aNil))))) (sSeq (sSet 4 (mCB sortT (aCons (mLcW (kEnum (aCons (mVar 3) (aNil))) [6, 5] (gT [6, 5]) (tYesM) (mTup (aCons (mVar 5) (aCons (mVar 6) (aNil))))) (aNil)))) (sRet (mLcW (kAny (mSliceY (mVar 4) (oNone) (oSome (mVar 2)))) [5, 6] (gT [5, 6]) (tYesM) (mTup (aCons (mVar 1) (aCons (mVar 6) (aNil)))))))
abbrev g_law_lowest : List D → Cs → R D := mFun 7 3 c_law_lowest
theorem sc_law_lowest : FnScope ["_law_lists_here", "_law_kind", "_law_many", "_law_scores", "_law_order", "_law_score", "_law_number"] ["_law_lists_here", "_law_kind", "_law_many"] (defScope s_law_lowest) := ⟨rfl, rfl, rfl, by decide +kernel, rfl, by decide +kernel, by decide +kernel⟩
def c_law_due : MS := sSeq (sFor (iR1 (aCons (mOp addD (mCB lenD (aCons (mOp itemD (mVar 0) (mC (.int 0))) (aNil))) (mC (.int 1))) (aNil))) (gN 1) (sFor (iR1 (aCons (mOp addD (mCB lenD (aCons (mOp itemD (mVar 0) (mC (.int 1))) (aNil))) (mC (.int 1))) (aNil))) (gN 2) (sSeq (sSet 3 (mOp addD (mCB g_law_lowest (aCons (mVar 0) (aCons (mC (.str "warp")) (aCons (mVar 1) (aNil))))) (mCB g_law_lowest (aCons (mVar 0) (aCons (mC (.str "weft")) (aCons (mVar 2) (aNil))))))) (sIf (mT (mOp ltD (mCB sumY (aCons (mLcW (kAny (mVar 3)) [4, 5] (gT [4, 5]) (tYesM) (mOp itemD (mOp itemD (mVar 0) (mCB intFD (aCons (mOp eqX (mVar 4) (mC (.str "weft"))) (aNil)))) (mVar 5))) (aNil))) (mOp mulI (mVar 1) (mVar 2)))) (sRet (mCB sortT (aCons (mVar 3) (aNil)))) (sNil))))) (sRet (mC .non))
abbrev g_law_due : List D → Cs → R D := mFun 6 1 c_law_due
theorem sc_law_due : FnScope ["_law_lists_here", "_law_s", "_law_t", "_law_some", "_law_kind", "_law_number"] ["_law_lists_here"] (defScope s_law_due) := ⟨rfl, rfl, rfl, by decide +kernel, rfl, by decide +kernel, by decide +kernel⟩
def cScores__pairs : MS := sSeq (sAsg (mLc (iTup' (mC (.tup [.str "warp", .str "weft"]))) [3] (gN 3) (tYesM) (mCB lenD (aCons (mOp dgetI (mFld ["Scores"] "kept_scores" (mVar 0)) (mVar 3)) (aNil)))) (gTL [1, 2])) (sRet (mLc2 (kFix (iR1 (aCons (mOp addD (mVar 1) (mC (.int 1))) (aNil)))) [4, 5] (gN 4) (tYesM) (kFix (iR1 (aCons (mOp addD (mVar 2) (mC (.int 1))) (aNil)))) [5] (gN 5) (tYesM) (mTup (aCons (mVar 4) (aCons (mVar 5) (aNil))))))
abbrev gScores__pairs : List D → Cs → R D := mFun 6 1 cScores__pairs
theorem scScores__pairs : FnScope ["self", "warps", "wefts", "kind", "s", "t"] ["self"] (defScope sScores__pairs) := ⟨rfl, rfl, rfl, by decide +kernel, rfl, by decide +kernel, by decide +kernel⟩
def cScores__threads : MS := sRet (mLc2 (kFix (iTup' (mC (.tup [.str "warp", .str "weft"])))) [1, 2] (gN 1) (tYesM) (kFix (iR1 (aCons (mCB lenD (aCons (mOp dgetI (mFld ["Scores"] "kept_scores" (mVar 0)) (mVar 1)) (aNil))) (aNil)))) [2] (gN 2) (tYesM) (mTup (aCons (mVar 1) (aCons (mVar 2) (aNil)))))
abbrev gScores__threads : List D → Cs → R D := mFun 3 1 cScores__threads
theorem scScores__threads : FnScope ["self", "kind", "number"] ["self"] (defScope sScores__threads) := ⟨rfl, rfl, rfl, by decide +kernel, rfl, by decide +kernel, by decide +kernel⟩
def cScores__score_of : MS := sSeq (sAsg (mVar 1) (gT [2, 3])) (sRet (mOp itemD (mOp dgetI (mFld ["Scores"] "kept_scores" (mVar 0)) (mVar 2)) (mVar 3)))
abbrev gScores__score_of : List D → Cs → R D := mFun 4 2 cScores__score_of
theorem scScores__score_of : FnScope ["self", "thread", "kind", "number"] ["self", "thread"] (defScope sScores__score_of) := ⟨rfl, rfl, rfl, by decide +kernel, rfl, by decide +kernel, by decide +kernel⟩
def cScores__lowest : MS := sSeq (sSet 3 (mLstM (aNil))) (sSeq (sForW (kZip (aCons (mC (.tup [.str "warp", .str "weft"])) (aCons (mTup (aCons (mVar 1) (aCons (mVar 2) (aNil)))) (aNil)))) (gT [4, 5]) (sSeq (sSet 6 (mSortM [("Scores", gScores__score_of)] "score_of" (aCons (mLc (iLst (mMeth [("Scores", gScores__threads)] "threads" (mVar 0) aNil)) [7] (gN 7) (mT (mOp eqX (mOp itemD (mVar 7) (mC (.int 0))) (mVar 4))) (mVar 7)) (aNil)) (mVar 0))) (sExpr (mBM extendD (mVar 3) (aCons (mSliceY (mVar 6) (oNone) (oSome (mVar 5))) (aNil)))))) (sRet (mFrz (mVar 3))))
abbrev gScores__lowest : List D → Cs → R D := mFun 8 3 cScores__lowest
theorem scScores__lowest : FnScope ["self", "warps", "wefts", "found", "kind", "many", "order", "thread"] ["self", "warps", "wefts"] (defScope sScores__lowest) := ⟨rfl, rfl, rfl, by decide +kernel, rfl, by decide +kernel, by decide +kernel⟩
def cScores__lowest_excess : MS := sRet (mOp subD (mCB sumY (aCons (mLc (iLst (mMeth [("Scores", gScores__lowest)] "lowest" (mVar 0) (aCons (mVar 1) (aCons (mVar 2) (aNil))))) [3] (gN 3) (tYesM) (mMeth [("Scores", gScores__score_of)] "score_of" (mVar 0) (aCons (mVar 3) (aNil)))) (aNil))) (mOp mulI (mVar 1) (mVar 2)))
abbrev gScores__lowest_excess : List D → Cs → R D := mFun 4 3 cScores__lowest_excess
theorem scScores__lowest_excess : FnScope ["self", "s", "t", "thread"] ["self", "s", "t"] (defScope sScores__lowest_excess) := ⟨rfl, rfl, rfl, by decide +kernel, rfl, by decide +kernel, by decide +kernel⟩
def cScores__violation : MS := sSeq (sFor (iLst (mMeth [("Scores", gScores__pairs)] "pairs" (mVar 0) aNil)) (gT [1, 2]) (sIf (mT (mOp ltD (mMeth [("Scores", gScores__lowest_excess)] "lowest_excess" (mVar 0) (aCons (mVar 1) (aCons (mVar 2) (aNil)))) (mC (.int 0)))) (sRet (mCB sortTM (aCons (mMeth [("Scores", gScores__lowest)] "lowest" (mVar 0) (aCons (mVar 1) (aCons (mVar 2) (aNil)))) (aNil)))) (sNil))) (sRet (mC .non))
abbrev gScores__violation : List D → Cs → R D := mFun 3 1 cScores__violation
theorem scScores__violation : FnScope ["self", "s", "t"] ["self"] (defScope sScores__violation) := ⟨rfl, rfl, rfl, by decide +kernel, rfl, by decide +kernel, by decide +kernel⟩
def cScores__is_feasible : MS := sRet (mOp isD (mMeth [("Scores", gScores__violation)] "violation" (mVar 0) aNil) (mC .non))
abbrev gScores__is_feasible : List D → Cs → R D := mFun 1 1 cScores__is_feasible
theorem scScores__is_feasible : FnScope ["self"] ["self"] (defScope sScores__is_feasible) := ⟨rfl, rfl, rfl, by decide +kernel, rfl, by decide +kernel, by decide +kernel⟩
def claw : MS := sSeq (sFor (iR1 (aCons (mCB max2 (aCons (mC (.int 2)) (aCons (mCB min2 (aCons (mC (.int 8)) (aCons (mCB lenD (aCons (mVar 0) (aNil))) (aNil)))) (aNil)))) (aNil))) (gN 1) (sSeq (sSet 2 (mCB g_law_box (aCons (mCB g_law_cell (aCons (mVar 0) (aCons (mVar 1) (aNil)))) (aNil)))) (sFor (iR1 (aCons (mC (.int 6)) (aNil))) (gN 3) (sSeq (sSet 4 (mIf (mT (mOp eqX (mCB g_law_take (aCons (mVar 2) (aCons (mC (.int 3)) (aNil)))) (mC (.int 0)))) (mCB g_law_far (aCons (mVar 2) (aNil))) (mCB g_law_drawn (aCons (mVar 2) (aNil))))) (sSeq (sSet 5 (mFrzI (mMake "Scores" gScores____init__ (aCons (mOp itemD (mVar 4) (mC (.int 0))) (aCons (mOp itemD (mVar 4) (mC (.int 1))) (aNil)))))) (sSeq (sSet 6 (mCB g_law_fits (aCons (mOp itemD (mVar 4) (mC (.int 0))) (aCons (mLcW (kAny (mOp itemD (mVar 4) (mC (.int 1)))) [10] (gN 10) (tYesM) (mOp subD (mCB lenD (aCons (mOp itemD (mVar 4) (mC (.int 0))) (aNil))) (mVar 10))) (aNil))))) (sFor (iR1 (aCons (mC (.int 2)) (aNil))) (gN 7) (sSeq (sPar [8, 9] (aCons (mMeth [("Scores", gScores__violation)] "violation" (mVar 5) aNil) (aCons (mCB g_law_due (aCons (mVar 4) (aNil))) (aNil)))) (sSeq (sIf (tOrM (mT (mOp neX (mCB reprX (aCons (mVar 8) (aNil))) (mCB reprX (aCons (mVar 9) (aNil))))) (tOrM (mT (mOp neX (mCB reprX (aCons (mMeth [("Scores", gScores__is_feasible)] "is_feasible" (mVar 5) aNil) (aNil))) (mCB reprX (aCons (mVar 6) (aNil))))) (mT (mOp neX (mVar 6) (mOp isD (mVar 9) (mC .non)))))) (sRet (mC (.bl false))) (sNil)) (sIf (mT (mOp isntD (mVar 8) (mC .non))) (sExpr (mBM appendD (mVar 8) (aCons (mC (.str "more")) (aNil)))) (sNil))))))))))) (sRet (mC (.bl true)))
abbrev glaw : List D → Cs → R D := mFun 11 1 claw
theorem sclaw : FnScope ["_law_script", "_law_k", "_law_box_here", "_law_turn", "_law_lists_here", "_law_scores", "_law_good", "_law_lap", "_law_found", "_law_due_here", "_law_score"] ["_law_script"] (defScope slaw) := ⟨rfl, rfl, rfl, by decide +kernel, rfl, by decide +kernel, by decide +kernel⟩
/-- what the top leaves -/
structure Txt (P : Program) (K : PySem.W.Frag) (mg : Str → Option Value) where
  b_all : mg "all" = none
  b_bool : mg "bool" = none
  b_enumerate : mg "enumerate" = none
  b_int : mg "int" = none
  b_isinstance : mg "isinstance" = none
  b_len : mg "len" = none
  b_list : mg "list" = none
  b_max : mg "max" = none
  b_min : mg "min" = none
  b_range : mg "range" = none
  b_repr : mg "repr" = none
  b_sorted : mg "sorted" = none
  b_str : mg "str" = none
  b_sum : mg "sum" = none
  b_tuple : mg "tuple" = none
  b_zip : mg "zip" = none
  cKINDS : IsC K mg "KINDS" (.tup [.str "warp", .str "weft"])
  cMOST_THREADS : IsC K mg "MOST_THREADS" (.int 8)
  gx : ∀ n C, PySem.W.nsIn K mainGlobals n = some (some (.ref C)) → mg n = some (.ref C)
  xm : XMod K mg
  x_InvalidScores : XOwn P K "InvalidScores" "value"
  x_WrongTotal : XOwn P K "WrongTotal" "total"
  fl_Scores_kept_scores : FldK K "Scores" "kept_scores"
  mk_Scores : ∃ C f, PySem.W.nsIn K mainGlobals "Scores" = some (some (.ref C)) ∧ Mk K C f ∧ OwnF K "__init__" "Scores.__init__" sScores____init__ ["self", "warps", "wefts"] f
  me_Scores_is_feasible : ∃ C f, NamV K "Scores" (.ref C) ∧ Cls K C ∧ Meth K C "is_feasible" f ∧ OwnF K "is_feasible" "Scores.is_feasible" sScores__is_feasible ["self"] f
  me_Scores_lowest : ∃ C f, NamV K "Scores" (.ref C) ∧ Cls K C ∧ Meth K C "lowest" f ∧ OwnF K "lowest" "Scores.lowest" sScores__lowest ["self", "warps", "wefts"] f
  me_Scores_lowest_excess : ∃ C f, NamV K "Scores" (.ref C) ∧ Cls K C ∧ Meth K C "lowest_excess" f ∧ OwnF K "lowest_excess" "Scores.lowest_excess" sScores__lowest_excess ["self", "s", "t"] f
  me_Scores_pairs : ∃ C f, NamV K "Scores" (.ref C) ∧ Cls K C ∧ Meth K C "pairs" f ∧ OwnF K "pairs" "Scores.pairs" sScores__pairs ["self"] f
  me_Scores_score_of : ∃ C f, NamV K "Scores" (.ref C) ∧ Cls K C ∧ Meth K C "score_of" f ∧ OwnF K "score_of" "Scores.score_of" sScores__score_of ["self", "thread"] f
  mb_Scores_score_of : ∃ C f, NamV K "Scores" (.ref C) ∧ Cls K C ∧ BMeth K C "score_of" f ∧ OwnF K "score_of" "Scores.score_of" sScores__score_of ["self", "thread"] f
  me_Scores_threads : ∃ C f, NamV K "Scores" (.ref C) ∧ Cls K C ∧ Meth K C "threads" f ∧ OwnF K "threads" "Scores.threads" sScores__threads ["self"] f
  me_Scores_violation : ∃ C f, NamV K "Scores" (.ref C) ∧ Cls K C ∧ Meth K C "violation" f ∧ OwnF K "violation" "Scores.violation" sScores__violation ["self"] f
  f_law_box : L2.Mi.Own K mg "_law_box" s_law_box ["_law_cell_here"]
  f_law_cell : L2.Mi.Own K mg "_law_cell" s_law_cell ["_law_script", "_law_k"]
  f_law_take : L2.Mi.Own K mg "_law_take" s_law_take ["_law_box_here", "_law_many"]
  f_law_far : L2.Mi.Own K mg "_law_far" s_law_far ["_law_box_here"]
  f_law_lists : L2.Mi.Own K mg "_law_lists" s_law_lists ["_law_rows_here"]
  f_law_rows : L2.Mi.Own K mg "_law_rows" s_law_rows ["_law_box_here"]
  f_law_drawn : L2.Mi.Own K mg "_law_drawn" s_law_drawn ["_law_box_here"]
  fis_sequence : L2.Mi.Own K mg "is_sequence" sis_sequence ["value"]
  fneed_integers : L2.Mi.Own K mg "need_integers" sneed_integers ["value"]
  fis_integer : L2.Mi.Own K mg "is_integer" sis_integer ["value", "low", "high"]
  fneed_range : L2.Mi.Own K mg "need_range" sneed_range ["value", "high"]
  f_law_fits : L2.Mi.Own K mg "_law_fits" s_law_fits ["_law_needs", "_law_counts"]
  f_law_lowest : L2.Mi.Own K mg "_law_lowest" s_law_lowest ["_law_lists_here", "_law_kind", "_law_many"]
  f_law_due : L2.Mi.Own K mg "_law_due" s_law_due ["_law_lists_here"]
  flaw : L2.Mi.Own K mg "law" slaw ["_law_script"]
structure TxB (P : Program) (K : PySem.W.Frag) (mg : Str → Option Value) (base : Heap) extends Txt P K mg where
  tb : ∀ p ∈ allL, GxR.TabB base mg p.1 p.2
section
variable {P : Program} {w : World} {K : PySem.W.Frag} {mg : Str → Option Value} {base : Heap}
theorem k_law_box (T : TxB P K mg base) : GFn P w K mg base 1 T.f_law_box.a T.f_law_box.fd ["_law_cell_here"] g_law_box := by
  refine gfn_of (k := 0) T.f_law_box.F sc_law_box fun cdv A outer s H E hr hgd => ?_
  have scN := sc_law_box.nd
  have tk := takes_of (X := cxOf (CX P w) P w K mg base ["_law_cell_here"] "_law_box" (defScope s_law_box) T.f_law_box.a cdv A outer s H E) (E := E) rfl rfl rfl rfl
  exact ms_one (ms_ret (me_lstM (ma_cons (me_cb (pe_callB (call_max2 rfl) (by rfl) T.b_max bt_max (ma_cons (me_int) (ma_cons (me_op op_sub os_sub (me_var (pv 0)) (me_op op_pow os_powI (me_int) (me_int))) (ma_nil)))) cs_max2) (ma_cons (me_op op_modN os_modI (me_var (pv 0)) (me_int)) (ma_cons (me_int) (ma_nil))))))
theorem k_law_cell (T : TxB P K mg base) : GFn P w K mg base 1 T.f_law_cell.a T.f_law_cell.fd ["_law_script", "_law_k"] g_law_cell := by
  refine gfn_of (k := 0) T.f_law_cell.F sc_law_cell fun cdv A outer s H E hr hgd => ?_
  have scN := sc_law_cell.nd
  have tk := takes_of (X := cxOf (CX P w) P w K mg base ["_law_script", "_law_k"] "_law_cell" (defScope s_law_cell) T.f_law_cell.a cdv A outer s H E) (E := E) rfl rfl rfl rfl
  exact ms_cons (ms_if (mt_cmp op_ltA os_lt (me_var (pv 1)) (me_cb (pe_callB call_len (by rfl) T.b_len bt_len (ma_cons (me_var (pv 0)) (ma_nil))) cs_len) (nomark _)) (ms_one (ms_ret (me_ix ix_seq os_item (me_var (pv 0)) (me_var (pv 1)) (fun _ _ => rfl)))) (ms_nil)) (ms_one (ms_ret (me_op op_addA os_add (me_op op_mul os_mulI (me_int) (me_var (pv 1))) (me_int))))
theorem k_law_take (T : TxB P K mg base) : GFn P w K mg base 1 T.f_law_take.a T.f_law_take.fd ["_law_box_here", "_law_many"] g_law_take := by
  refine gfn_of (k := 0) T.f_law_take.F sc_law_take fun cdv A outer s H E hr hgd => ?_
  have scN := sc_law_take.nd
  have tk := takes_of (X := cxOf (CX P w) P w K mg base ["_law_box_here", "_law_many", "_law_mixed", "_law_digit"] "_law_take" (defScope s_law_take) T.f_law_take.a cdv A outer s H E) (E := E) rfl rfl rfl rfl
  exact ms_cons (ms_if (mt_cmp op_gt os_cmpI (me_ix ix_seq os_item (me_var (pv 0)) (me_int) (fun _ _ => rfl)) (me_int) (nomark _)) (ms_cons (ms_set (i := 3) scN rfl (by first | exact Or.inl rfl | exact Or.inr rfl) (me_op op_modN os_modI (me_ix ix_seq os_item (me_var (pv 0)) (me_int) (fun _ _ => rfl)) (me_var (pv 1)))) (ms_cons (ms_asg (me_op op_fdivN os_divI (me_ix ix_seq os_item (me_var (pv 0)) (me_int) (fun _ _ => rfl)) (me_var (pv 1))) (mg_sub (pg_sub (me_var (pv 0)) (me_int) set_list))) (ms_one (ms_ret (me_var (pv 3)))))) (ms_nil)) (ms_cons (ms_asg (me_op op_addA os_add (me_ix ix_seq os_item (me_var (pv 0)) (me_int) (fun _ _ => rfl)) (me_int)) (mg_sub (pg_sub (me_var (pv 0)) (me_int) set_list))) (ms_cons (ms_set (i := 2) scN rfl (by first | exact Or.inl rfl | exact Or.inr rfl) (me_op op_modN os_modI (me_op op_pow os_powI (me_op op_addA os_add (me_op op_addA os_add (me_ix ix_seq os_item (me_var (pv 0)) (me_int) (fun _ _ => rfl)) (me_op op_mul os_mulI (me_int) (me_ix ix_seq os_item (me_var (pv 0)) (me_int) (fun _ _ => rfl)))) (me_int)) (me_int)) (me_int))) (ms_cons (ms_set (i := 2) scN rfl (by first | exact Or.inl rfl | exact Or.inr rfl) (me_op op_modN os_modI (me_op op_pow os_powI (me_op op_addA os_add (me_var (pv 2)) (me_op op_mul os_mulI (me_int) (me_ix ix_seq os_item (me_var (pv 0)) (me_int) (fun _ _ => rfl)))) (me_int)) (me_int))) (ms_one (ms_ret (me_op op_modN os_modI (me_op op_fdivN os_divI (me_var (pv 2)) (me_int)) (me_var (pv 1))))))))
theorem k_law_far (T : TxB P K mg base) : GFn P w K mg base 2 T.f_law_far.a T.f_law_far.fd ["_law_box_here"] g_law_far := by
  refine gfn_of (k := 1) T.f_law_far.F sc_law_far fun cdv A outer s H E hr hgd => ?_
  have scN := sc_law_far.nd
  have tk := takes_of (X := cxOf (CX P w) P w K mg base ["_law_box_here", "_law_lists_here", "_law_warps", "_law_wefts", "_law_turn", "_law_one"] "_law_far" (defScope s_law_far) T.f_law_far.a cdv A outer s H E) (E := E) rfl rfl rfl rfl
  exact ms_cons (ms_asg (me_tup (ma_cons (me_op op_addA os_add (me_int) (me_call (k_law_take T) (hr.mono (by decide)) hgd (by rfl) T.f_law_take.mgf T.f_law_take.F.kp T.f_law_take.b tk (ma_cons (me_var (pv 0)) (ma_cons (me_int) (ma_nil))))) (ma_cons (me_op op_addA os_add (me_int) (me_call (k_law_take T) (hr.mono (by decide)) hgd (by rfl) T.f_law_take.mgf T.f_law_take.F.kp T.f_law_take.b tk (ma_cons (me_var (pv 0)) (ma_cons (me_int) (ma_nil))))) (ma_cons (me_call (k_law_take T) (hr.mono (by decide)) hgd (by rfl) T.f_law_take.mgf T.f_law_take.F.kp T.f_law_take.b tk (ma_cons (me_var (pv 0)) (ma_cons (me_int) (ma_nil)))) (ma_nil))))) (mg_tup rfl (mgs_cons (i := 2) scN rfl (by first | exact Or.inl rfl | exact Or.inr rfl) (mgs_cons (i := 3) scN rfl (by first | exact Or.inl rfl | exact Or.inr rfl) (mgs_cons (i := 4) scN rfl (by first | exact Or.inl rfl | exact Or.inr rfl) (mgs_nil)))))) (ms_cons (ms_set (i := 1) scN rfl (by first | exact Or.inl rfl | exact Or.inr rfl) (me_lst (ma_cons (me_op op_addA os_add (me_op op_mulXX os_mulX (me_lst (ma_cons (me_op op_mul os_mulI (me_int) (me_var (pv 3))) (ma_nil))) (me_var (pv 2))) (me_op op_mulXX os_mulX (me_lst (ma_cons (me_int) (ma_nil))) (me_var (pv 2)))) (ma_cons (me_op op_addA os_add (me_op op_mulXX os_mulX (me_lst (ma_cons (me_op op_mul os_mulI (me_int) (me_var (pv 2))) (ma_nil))) (me_var (pv 3))) (me_op op_mulXX os_mulX (me_lst (ma_cons (me_int) (ma_nil))) (me_var (pv 3)))) (ma_nil))))) (ms_one (ms_ret (PEi (pe_lc (own := [("_law_one", 5)]) rfl scN (mk_any (me_var (pv 1))) (blkOk_by (N := ["_law_box_here", "_law_lists_here", "_law_warps", "_law_wefts", "_law_turn", "_law_one"]) (sc := defScope s_law_far) (by decide +kernel)) (fun _ _ _ _ _ => pg_name (i := 5) scN rfl (by first | exact Or.inl rfl | exact Or.inr rfl)) (fun _ _ _ _ _ => mts_nil) (fun _ _ _ _ _ => me_op op_addA os_add (me_sliceY (me_var (pv 5)) (mo_some (me_op op_modN os_modI (me_var (pv 4)) (me_cb (pe_callB call_len (by rfl) T.b_len bt_len (ma_cons (me_var (pv 5)) (ma_nil))) cs_len))) (mo_none)) (me_sliceY (me_var (pv 5)) (mo_none) (mo_some (me_op op_modN os_modI (me_var (pv 4)) (me_cb (pe_callB call_len (by rfl) T.b_len bt_len (ma_cons (me_var (pv 5)) (ma_nil))) cs_len)))))) (fun _ _ _ h => lc_readW (good_name (by decide)) (rg_name) h)))))
theorem k_law_lists (T : TxB P K mg base) : GFn P w K mg base 1 T.f_law_lists.a T.f_law_lists.fd ["_law_rows_here"] g_law_lists := by
  refine gfn_of (k := 0) T.f_law_lists.F sc_law_lists fun cdv A outer s H E hr hgd => ?_
  have scN := sc_law_lists.nd
  have tk := takes_of (X := cxOf (CX P w) P w K mg base ["_law_rows_here", "_law_warps", "_law_i", "_law_row"] "_law_lists" (defScope s_law_lists) T.f_law_lists.a cdv A outer s H E) (E := E) rfl rfl rfl rfl
  exact ms_cons ((by first | exact ms_setT (ps_setLc (i := 1) (own := [("_law_i", 2)]) rfl scN rfl rfl (sw_true rfl rfl rfl (by decide +kernel)) (mi_r1 (pi_range1 (by rfl) T.b_range (ma_cons (me_cb (pe_callB call_len (by rfl) T.b_len bt_len (ma_cons (me_ix ix_seq os_item (me_var (pv 0)) (me_int) (fun _ _ => rfl)) (ma_nil))) cs_len) (ma_nil)))) (blkOk_by (N := ["_law_rows_here", "_law_warps", "_law_i", "_law_row"]) (sc := defScope s_law_lists) (by decide +kernel)) (fun _ _ _ _ _ => pg_name (i := 2) scN rfl (by first | exact Or.inl rfl | exact Or.inr rfl)) (fun _ _ _ _ _ => mts_nil) (fun _ _ _ _ _ => me_cb (pe_callB call_len (by rfl) T.b_len bt_len (ma_cons ((by exact PEi (pe_lc (own := [("_law_row", 3)]) rfl scN (mk_any (me_var (pv 0))) (blkOk_in (by kernel_rfl)) (fun _ _ _ _ _ => pg_name (i := 3) scN rfl (by first | exact Or.inl rfl | exact Or.inr rfl)) (fun _ _ _ _ _ => mts_one (mt_cmp (op_eqY hr.units) os_eqX (me_ix ix_seq os_item (me_var (pv 3)) (me_var (pv 2)) (fun _ _ => rfl)) (me_str) (nomark _))) (fun _ _ _ _ _ => me_var (pv 3))) (fun _ _ _ h => lc_readW (good_name (by decide)) (rg_name) h))) (ma_nil))) cs_len)) (fun _ _ _ h => lc_readM (good_name (by decide)) (rg_name) h) | exact ms_set (i := 1) scN rfl (by first | exact Or.inl rfl | exact Or.inr rfl) (PEi (pe_lc (own := [("_law_i", 2)]) rfl scN (mi_r1 (pi_range1 (by rfl) T.b_range (ma_cons (me_cb (pe_callB call_len (by rfl) T.b_len bt_len (ma_cons (me_ix ix_seq os_item (me_var (pv 0)) (me_int) (fun _ _ => rfl)) (ma_nil))) cs_len) (ma_nil)))) (blkOk_by (N := ["_law_rows_here", "_law_warps", "_law_i", "_law_row"]) (sc := defScope s_law_lists) (by decide +kernel)) (fun _ _ _ _ _ => pg_name (i := 2) scN rfl (by first | exact Or.inl rfl | exact Or.inr rfl)) (fun _ _ _ _ _ => mts_nil) (fun _ _ _ _ _ => me_cb (pe_callB call_len (by rfl) T.b_len bt_len (ma_cons ((by exact PEi (pe_lc (own := [("_law_row", 3)]) rfl scN (mk_any (me_var (pv 0))) (blkOk_in (by kernel_rfl)) (fun _ _ _ _ _ => pg_name (i := 3) scN rfl (by first | exact Or.inl rfl | exact Or.inr rfl)) (fun _ _ _ _ _ => mts_one (mt_cmp (op_eqY hr.units) os_eqX (me_ix ix_seq os_item (me_var (pv 3)) (me_var (pv 2)) (fun _ _ => rfl)) (me_str) (nomark _))) (fun _ _ _ _ _ => me_var (pv 3))) (fun _ _ _ h => lc_readW (good_name (by decide)) (rg_name) h))) (ma_nil))) cs_len)) (fun _ _ _ h => lc_readM (good_name (by decide)) (rg_name) h)))) (ms_one (ms_ret (me_lst (ma_cons (me_var (pv 1)) (ma_cons (PEi (pe_lc (own := [("_law_row", 3)]) rfl scN (mk_any (me_var (pv 0))) (blkOk_by (N := ["_law_rows_here", "_law_warps", "_law_i", "_law_row"]) (sc := defScope s_law_lists) (by decide +kernel)) (fun _ _ _ _ _ => pg_name (i := 3) scN rfl (by first | exact Or.inl rfl | exact Or.inr rfl)) (fun _ _ _ _ _ => mts_nil) (fun _ _ _ _ _ => me_m1 (pe_m1 PySem.F.slot_str_count PySem.F.type_str_count mt_count (me_var (pv 3)) (me_str)) m1_count)) (fun _ _ _ h => lc_readMW (good_name (by decide)) (rg_name) h)) (ma_nil))))))
theorem k_law_rows (T : TxB P K mg base) : GFn P w K mg base 2 T.f_law_rows.a T.f_law_rows.fd ["_law_box_here"] g_law_rows := by
  refine gfn_of (k := 1) T.f_law_rows.F sc_law_rows fun cdv A outer s H E hr hgd => ?_
  have scN := sc_law_rows.nd
  have tk := takes_of (X := cxOf (CX P w) P w K mg base ["_law_box_here", "_law_low", "_law_warps", "_law_wefts", "_law_many", "_law_up", "_law_down", "_law_bias", "_law_rows_here", "_law_signs", "_law_k", "_law_high", "_law_sign"] "_law_rows" (defScope s_law_rows) T.f_law_rows.a cdv A outer s H E) (E := E) rfl rfl rfl rfl
  exact ms_cons (ms_asg (me_tup (ma_cons (me_op op_addA os_add (me_int) (me_call (k_law_take T) (hr.mono (by decide)) hgd (by rfl) T.f_law_take.mgf T.f_law_take.F.kp T.f_law_take.b tk (ma_cons (me_var (pv 0)) (ma_cons (me_int) (ma_nil))))) (ma_cons (me_op op_addA os_add (me_int) (me_call (k_law_take T) (hr.mono (by decide)) hgd (by rfl) T.f_law_take.mgf T.f_law_take.F.kp T.f_law_take.b tk (ma_cons (me_var (pv 0)) (ma_cons (me_int) (ma_nil))))) (ma_cons (me_ix ix_seq os_item (me_lst (ma_cons (me_int) (ma_cons (me_int) (ma_cons (me_int) (ma_cons (me_int) (ma_nil)))))) (me_call (k_law_take T) (hr.mono (by decide)) hgd (by rfl) T.f_law_take.mgf T.f_law_take.F.kp T.f_law_take.b tk (ma_cons (me_var (pv 0)) (ma_cons (me_int) (ma_nil)))) (fun _ _ => rfl)) (ma_nil))))) (mg_tup rfl (mgs_cons (i := 2) scN rfl (by first | exact Or.inl rfl | exact Or.inr rfl) (mgs_cons (i := 3) scN rfl (by first | exact Or.inl rfl | exact Or.inr rfl) (mgs_cons (i := 4) scN rfl (by first | exact Or.inl rfl | exact Or.inr rfl) (mgs_nil)))))) (ms_cons (ms_par2 (i := 5) (j := 6) rfl scN rfl rfl (by decide) rfl rfl (ma_cons (PEi (pe_lc (own := [("_law_k", 10)]) rfl scN (mi_r1 (pi_range1 (by rfl) T.b_range (ma_cons (me_var (pv 2)) (ma_nil)))) (blkOk_by (N := ["_law_box_here", "_law_low", "_law_warps", "_law_wefts", "_law_many", "_law_up", "_law_down", "_law_bias", "_law_rows_here", "_law_signs", "_law_k", "_law_high", "_law_sign"]) (sc := defScope s_law_rows) (by decide +kernel)) (fun _ _ _ _ _ => pg_name (i := 10) scN rfl (by first | exact Or.inl rfl | exact Or.inr rfl)) (fun _ _ _ _ _ => mts_nil) (fun _ _ _ _ _ => me_call (k_law_take T) (hr.mono (by decide)) hgd (by rfl) T.f_law_take.mgf T.f_law_take.F.kp T.f_law_take.b takesW0 (ma_cons (me_var (pv 0)) (ma_cons (me_var (pv 4)) (ma_nil))))) (fun _ _ _ h => lc_read (good_name (by decide)) (rg_name) h)) (ma_cons (PEi (pe_lc (own := [("_law_k", 10)]) rfl scN (mi_r1 (pi_range1 (by rfl) T.b_range (ma_cons (me_var (pv 3)) (ma_nil)))) (blkOk_by (N := ["_law_box_here", "_law_low", "_law_warps", "_law_wefts", "_law_many", "_law_up", "_law_down", "_law_bias", "_law_rows_here", "_law_signs", "_law_k", "_law_high", "_law_sign"]) (sc := defScope s_law_rows) (by decide +kernel)) (fun _ _ _ _ _ => pg_name (i := 10) scN rfl (by first | exact Or.inl rfl | exact Or.inr rfl)) (fun _ _ _ _ _ => mts_nil) (fun _ _ _ _ _ => me_call (k_law_take T) (hr.mono (by decide)) hgd (by rfl) T.f_law_take.mgf T.f_law_take.F.kp T.f_law_take.b takesW0 (ma_cons (me_var (pv 0)) (ma_cons (me_var (pv 4)) (ma_nil))))) (fun _ _ _ h => lc_read (good_name (by decide)) (rg_name) h)) (ma_nil))) (by first | rfl | with_unfolding_all rfl | kernel_rfl)) (ms_cons (ms_asg (me_tup (ma_cons (me_ix ix_seq os_item (me_lst (ma_cons (me_int) (ma_cons (me_int) (ma_cons (me_int) (ma_cons (me_int) (ma_nil)))))) (me_call (k_law_take T) (hr.mono (by decide)) hgd (by rfl) T.f_law_take.mgf T.f_law_take.F.kp T.f_law_take.b tk (ma_cons (me_var (pv 0)) (ma_cons (me_int) (ma_nil)))) (fun _ _ => rfl)) (ma_cons (me_lstM (ma_nil)) (ma_nil)))) (mg_tup rfl (mgs_cons (i := 7) scN rfl (by first | exact Or.inl rfl | exact Or.inr rfl) (mgs_cons (i := 8) scN rfl (by first | exact Or.inl rfl | exact Or.inr rfl) (mgs_nil))))) (ms_cons (ms_forW (passes_of rfl) rfl (mk_any (me_var (pv 6))) (mg_name (i := 1) scN rfl (by first | exact Or.inl rfl | exact Or.inr rfl)) (ms_cons ((by first | exact ms_setT (ps_setLc (i := 9) (own := [("_law_high", 11)]) rfl scN rfl rfl (sw_true rfl rfl rfl (by decide +kernel)) (mk_any (me_var (pv 5))) (blkOk_by (N := ["_law_box_here", "_law_low", "_law_warps", "_law_wefts", "_law_many", "_law_up", "_law_down", "_law_bias", "_law_rows_here", "_law_signs", "_law_k", "_law_high", "_law_sign"]) (sc := defScope s_law_rows) (by decide +kernel)) (fun _ _ _ _ _ => pg_name (i := 11) scN rfl (by first | exact Or.inl rfl | exact Or.inr rfl)) (fun _ _ _ _ _ => mts_nil) (fun _ _ _ _ _ => me_if (mt_cmp (op_neY hr.units) os_neX (me_var (pv 11)) (me_var (pv 1)) (nomark _)) (me_cb (pe_callTy call_intF (by rfl) T.b_int bt_int (ma_cons (me_cmp op_gt os_cmpI (me_var (pv 11)) (me_var (pv 1)) (nomark _)) (ma_nil))) cs_intF) (me_cb (pe_callTy call_intF (by rfl) T.b_int bt_int (ma_cons (me_cmp op_gt os_cmpI (me_call (k_law_take T) (hr.mono (by decide)) hgd (by rfl) T.f_law_take.mgf T.f_law_take.F.kp T.f_law_take.b takesW0 (ma_cons (me_var (pv 0)) (ma_cons (me_var (pv 7)) (ma_nil)))) (me_int) (nomark _)) (ma_nil))) cs_intF))) (fun _ _ _ h => lc_readW (good_name (by decide)) (rg_name) h) | exact ms_set (i := 9) scN rfl (by first | exact Or.inl rfl | exact Or.inr rfl) (PEi (pe_lc (own := [("_law_high", 11)]) rfl scN (mk_any (me_var (pv 5))) (blkOk_by (N := ["_law_box_here", "_law_low", "_law_warps", "_law_wefts", "_law_many", "_law_up", "_law_down", "_law_bias", "_law_rows_here", "_law_signs", "_law_k", "_law_high", "_law_sign"]) (sc := defScope s_law_rows) (by decide +kernel)) (fun _ _ _ _ _ => pg_name (i := 11) scN rfl (by first | exact Or.inl rfl | exact Or.inr rfl)) (fun _ _ _ _ _ => mts_nil) (fun _ _ _ _ _ => me_if (mt_cmp (op_neY hr.units) os_neX (me_var (pv 11)) (me_var (pv 1)) (nomark _)) (me_cb (pe_callTy call_intF (by rfl) T.b_int bt_int (ma_cons (me_cmp op_gt os_cmpI (me_var (pv 11)) (me_var (pv 1)) (nomark _)) (ma_nil))) cs_intF) (me_cb (pe_callTy call_intF (by rfl) T.b_int bt_int (ma_cons (me_cmp op_gt os_cmpI (me_call (k_law_take T) (hr.mono (by decide)) hgd (by rfl) T.f_law_take.mgf T.f_law_take.F.kp T.f_law_take.b takesW0 (ma_cons (me_var (pv 0)) (ma_cons (me_var (pv 7)) (ma_nil)))) (me_int) (nomark _)) (ma_nil))) cs_intF))) (fun _ _ _ h => lc_readW (good_name (by decide)) (rg_name) h)))) (ms_one (ms_expr (me_bm (pe_bm PySem.F.plainAttrs_list PySem.F.slot_list_append PySem.F.type_list_append mt_append (me_var (pv 8)) (ma_cons (me_m1 (pe_join (me_str) (PEi (pe_lc (own := [("_law_sign", 12)]) rfl scN (mk_any (me_var (pv 9))) (blkOk_by (N := ["_law_box_here", "_law_low", "_law_warps", "_law_wefts", "_law_many", "_law_up", "_law_down", "_law_bias", "_law_rows_here", "_law_signs", "_law_k", "_law_high", "_law_sign"]) (sc := defScope s_law_rows) (by decide +kernel)) (fun _ _ _ _ _ => pg_name (i := 12) scN rfl (by first | exact Or.inl rfl | exact Or.inr rfl)) (fun _ _ _ _ _ => mts_nil) (fun _ _ _ _ _ => me_cb (pe_callTy call_str_int (by rfl) T.b_str bt_str (ma_cons (me_var (pv 12)) (ma_nil))) cs_strF)) (fun _ _ _ h => lc_readW (good_name (by decide)) (rg_name) h))) m1_joinX) (ma_nil))) meth_append))))) (ms_one (ms_ret (me_frz (me_var (pv 8))))))))
theorem k_law_drawn (T : TxB P K mg base) : GFn P w K mg base 3 T.f_law_drawn.a T.f_law_drawn.fd ["_law_box_here"] g_law_drawn := by
  refine gfn_of (k := 2) T.f_law_drawn.F sc_law_drawn fun cdv A outer s H E hr hgd => ?_
  have scN := sc_law_drawn.nd
  have tk := takes_of (X := cxOf (CX P w) P w K mg base ["_law_box_here", "_law_lists_here", "_law_turn", "_law_kind", "_law_other", "_law_one", "_law_two"] "_law_drawn" (defScope s_law_drawn) T.f_law_drawn.a cdv A outer s H E) (E := E) rfl rfl rfl rfl
  exact ms_cons (ms_set (i := 1) scN rfl (by first | exact Or.inl rfl | exact Or.inr rfl) (me_call (k_law_lists T) (hr.mono (by decide)) hgd (by rfl) T.f_law_lists.mgf T.f_law_lists.F.kp T.f_law_lists.b tk (ma_cons (me_call (k_law_rows T) (hr.mono (by decide)) hgd (by rfl) T.f_law_rows.mgf T.f_law_rows.F.kp T.f_law_rows.b tk (ma_cons (me_var (pv 0)) (ma_nil))) (ma_nil)))) (ms_cons (ms_for (passes_of rfl) rfl (mi_r1 (pi_range1 (by rfl) T.b_range (ma_cons (me_ix ix_seq os_item (me_lst (ma_cons (me_int) (ma_cons (me_int) (ma_cons (me_int) (ma_cons (me_int) (ma_nil)))))) (me_call (k_law_take T) (hr.mono (by decide)) hgd (by rfl) T.f_law_take.mgf T.f_law_take.F.kp T.f_law_take.b tk (ma_cons (me_var (pv 0)) (ma_cons (me_int) (ma_nil)))) (fun _ _ => rfl)) (ma_nil)))) (mg_name (i := 2) scN rfl (by first | exact Or.inl rfl | exact Or.inr rfl)) (ms_cons (ms_par2 (i := 3) (j := 4) rfl scN rfl rfl (by decide) rfl rfl (ma_cons (me_call (k_law_take T) (hr.mono (by decide)) hgd (by rfl) T.f_law_take.mgf T.f_law_take.F.kp T.f_law_take.b tk (ma_cons (me_var (pv 0)) (ma_cons (me_int) (ma_nil)))) (ma_cons (me_call (k_law_take T) (hr.mono (by decide)) hgd (by rfl) T.f_law_take.mgf T.f_law_take.F.kp T.f_law_take.b tk (ma_cons (me_var (pv 0)) (ma_cons (me_int) (ma_nil)))) (ma_nil))) (by first | rfl | with_unfolding_all rfl | kernel_rfl)) (ms_cons (ms_par2 (i := 5) (j := 6) rfl scN rfl rfl (by decide) rfl rfl (ma_cons (me_call (k_law_take T) (hr.mono (by decide)) hgd (by rfl) T.f_law_take.mgf T.f_law_take.F.kp T.f_law_take.b tk (ma_cons (me_var (pv 0)) (ma_cons (me_cb (pe_callB call_len (by rfl) T.b_len bt_len (ma_cons (me_ix ix_seq os_item (me_var (pv 1)) (me_var (pv 3)) (fun _ _ => rfl)) (ma_nil))) cs_len) (ma_nil)))) (ma_cons (me_call (k_law_take T) (hr.mono (by decide)) hgd (by rfl) T.f_law_take.mgf T.f_law_take.F.kp T.f_law_take.b tk (ma_cons (me_var (pv 0)) (ma_cons (me_cb (pe_callB call_len (by rfl) T.b_len bt_len (ma_cons (me_ix ix_seq os_item (me_var (pv 1)) (me_var (pv 4)) (fun _ _ => rfl)) (ma_nil))) cs_len) (ma_nil)))) (ma_nil))) (by first | rfl | with_unfolding_all rfl | kernel_rfl)) (ms_one (ms_if (PW.pt (mw_and (mt_cmp op_ltA os_lt (me_ix ix_seq os_item (me_ix ix_seq os_item (me_var (pv 1)) (me_var (pv 3)) (fun _ _ => rfl)) (me_var (pv 5)) (fun _ _ => rfl)) (me_cb (pe_callB call_len (by rfl) T.b_len bt_len (ma_cons (me_ix ix_seq os_item (me_var (pv 1)) (me_op op_sub os_sub (me_int) (me_var (pv 3))) (fun _ _ => rfl)) (ma_nil))) cs_len) (nomark _)) (mw_and1 (mt_cmp op_gt os_cmpI (me_ix ix_seq os_item (me_ix ix_seq os_item (me_var (pv 1)) (me_var (pv 4)) (fun _ _ => rfl)) (me_var (pv 6)) (fun _ _ => rfl)) (me_int) (nomark _))))) (ms_cons (ms_asg (me_op op_addA os_add (me_ix ix_seq os_item (me_ix ix_seq os_item (me_var (pv 1)) (me_var (pv 3)) (fun _ _ => rfl)) (me_var (pv 5)) (fun _ _ => rfl)) (me_int)) (mg_sub (pg_sub (me_ix ix_seq os_item (me_var (pv 1)) (me_var (pv 3)) (fun _ _ => rfl)) (me_var (pv 5)) set_list))) (ms_one (ms_asg (me_op op_sub os_sub (me_ix ix_seq os_item (me_ix ix_seq os_item (me_var (pv 1)) (me_var (pv 4)) (fun _ _ => rfl)) (me_var (pv 6)) (fun _ _ => rfl)) (me_int)) (mg_sub (pg_sub (me_ix ix_seq os_item (me_var (pv 1)) (me_var (pv 4)) (fun _ _ => rfl)) (me_var (pv 6)) set_list))))) (ms_nil)))))) (ms_one (ms_ret (me_var (pv 1)))))
theorem kis_sequence (T : TxB P K mg base) : GFn P w K mg base 1 T.fis_sequence.a T.fis_sequence.fd ["value"] gis_sequence := by
  refine gfn_of (k := 0) T.fis_sequence.F scis_sequence fun cdv A outer s H E hr hgd => ?_
  have scN := scis_sequence.nd
  have tk := takes_of (X := cxOf (CX P w) P w K mg base ["value"] "is_sequence" (defScope sis_sequence) T.fis_sequence.a cdv A outer s H E) (E := E) rfl rfl rfl rfl
  exact ms_one (ms_ret (me_cb (pe_callB call_isiA (by rfl) T.b_isinstance bt_isinstance (ma_cons (me_var (pv 0)) (ma_cons (me_tup (ma_cons (me_c (pe_bltn (v := .ty "list") (by rfl) T.b_list bt_list rfl) (fun _ _ => .ty _)) (ma_cons (me_c (pe_bltn (v := .ty "tuple") (by rfl) T.b_tuple bt_tuple rfl) (fun _ _ => .ty _)) (ma_nil)))) (ma_nil)))) cs_isi))
theorem kneed_integers (T : TxB P K mg base) : GFn P w K mg base 2 T.fneed_integers.a T.fneed_integers.fd ["value"] gneed_integers := by
  refine gfn_of (k := 1) T.fneed_integers.F scneed_integers fun cdv A outer s H E hr hgd => ?_
  have scN := scneed_integers.nd
  have tk := takes_of (X := cxOf (CX P w) P w K mg base ["value", "score"] "need_integers" (defScope sneed_integers) T.fneed_integers.a cdv A outer s H E) (E := E) rfl rfl rfl rfl
  exact ms_cons (ms_if (PW.pt (mw_or (mt_not (mt_val (me_call (kis_sequence T) (hr.mono (by decide)) hgd (by rfl) T.fis_sequence.mgf T.fis_sequence.F.kp T.fis_sequence.b tk (ma_cons (me_var (pv 0)) (ma_nil))))) (mw_or1 (mt_not (mt_chain op_leA os_le op_leA os_le (me_int) (me_cb (pe_callB call_len (by rfl) T.b_len bt_len (ma_cons (me_var (pv 0)) (ma_nil))) cs_len) (me_const (by rfl) T.cMOST_THREADS)))))) (ms_one (ms_raise rfl tk T.x_InvalidScores T.xm (hr.mono (by decide)) (by rfl) (T.gx _) (me_var (pv 0)))) (ms_nil)) (ms_one (ms_if (mt_not (mt_val (me_cb (pe_callB (cr_all rfl) (by rfl) T.b_all bt_all (ma_cons (PEi (pe_lc (own := [("score", 1)]) rfl scN (mk_any (me_var (pv 0))) (blkOk_by (N := ["value", "score"]) (sc := defScope sneed_integers) (by decide +kernel)) (fun _ _ _ _ _ => pg_name (i := 1) scN rfl (by first | exact Or.inl rfl | exact Or.inr rfl)) (fun _ _ _ _ _ => mts_nil) (fun _ _ _ _ _ => me_and (me_cb (pe_callB call_isiA (by rfl) T.b_isinstance bt_isinstance (ma_cons (me_var (pv 1)) (ma_cons (me_c (pe_bltn (v := .ty "int") (by rfl) T.b_int bt_int rfl) (fun _ _ => .ty _)) (ma_nil)))) cs_isi) (me_one (me_not (me_cb (pe_callB call_isiA (by rfl) T.b_isinstance bt_isinstance (ma_cons (me_var (pv 1)) (ma_cons (me_c (pe_bltn (v := .ty "bool") (by rfl) T.b_bool bt_bool rfl) (fun _ _ => .ty _)) (ma_nil)))) cs_isi))))) (fun _ _ _ h => lc_readW (good_name (by decide)) (rg_name) h)) (ma_nil))) cs_all))) (ms_one (ms_raise rfl tk T.x_InvalidScores T.xm (hr.mono (by decide)) (by rfl) (T.gx _) (me_var (pv 0)))) (ms_nil)))
theorem kis_integer (T : TxB P K mg base) : GFn P w K mg base 1 T.fis_integer.a T.fis_integer.fd ["value", "low", "high"] gis_integer := by
  refine gfn_of (k := 0) T.fis_integer.F scis_integer fun cdv A outer s H E hr hgd => ?_
  have scN := scis_integer.nd
  have tk := takes_of (X := cxOf (CX P w) P w K mg base ["value", "low", "high"] "is_integer" (defScope sis_integer) T.fis_integer.a cdv A outer s H E) (E := E) rfl rfl rfl rfl
  exact ms_one (ms_ret (me_and (me_cb (pe_callB call_isiA (by rfl) T.b_isinstance bt_isinstance (ma_cons (me_var (pv 0)) (ma_cons (me_c (pe_bltn (v := .ty "int") (by rfl) T.b_int bt_int rfl) (fun _ _ => .ty _)) (ma_nil)))) cs_isi) (me_and (me_not (me_cb (pe_callB call_isiA (by rfl) T.b_isinstance bt_isinstance (ma_cons (me_var (pv 0)) (ma_cons (me_c (pe_bltn (v := .ty "bool") (by rfl) T.b_bool bt_bool rfl) (fun _ _ => .ty _)) (ma_nil)))) cs_isi)) (me_one (me_chain op_leA os_le op_leA os_le (me_var (pv 1)) (me_var (pv 0)) (me_var (pv 2)))))))
theorem kneed_range (T : TxB P K mg base) : GFn P w K mg base 2 T.fneed_range.a T.fneed_range.fd ["value", "high"] gneed_range := by
  refine gfn_of (k := 1) T.fneed_range.F scneed_range fun cdv A outer s H E hr hgd => ?_
  have scN := scneed_range.nd
  have tk := takes_of (X := cxOf (CX P w) P w K mg base ["value", "high", "score"] "need_range" (defScope sneed_range) T.fneed_range.a cdv A outer s H E) (E := E) rfl rfl rfl rfl
  exact ms_one (ms_if (mt_not (mt_val (me_cb (pe_callB (cr_all rfl) (by rfl) T.b_all bt_all (ma_cons (PEi (pe_lc (own := [("score", 2)]) rfl scN (mk_any (me_var (pv 0))) (blkOk_by (N := ["value", "high", "score"]) (sc := defScope sneed_range) (by decide +kernel)) (fun _ _ _ _ _ => pg_name (i := 2) scN rfl (by first | exact Or.inl rfl | exact Or.inr rfl)) (fun _ _ _ _ _ => mts_nil) (fun _ _ _ _ _ => me_call (kis_integer T) (hr.mono (by decide)) hgd (by rfl) T.fis_integer.mgf T.fis_integer.F.kp T.fis_integer.b takesW0 (ma_cons (me_var (pv 2)) (ma_cons (me_int) (ma_cons (me_var (pv 1)) (ma_nil)))))) (fun _ _ _ h => lc_readW (good_name (by decide)) (rg_name) h)) (ma_nil))) cs_all))) (ms_one (ms_raise rfl tk T.x_InvalidScores T.xm (hr.mono (by decide)) (by rfl) (T.gx _) (me_var (pv 0)))) (ms_nil))
theorem kScores____init__ (T : TxB P K mg base) {f : Addr} (O : OwnF K "__init__" "Scores.__init__" sScores____init__ ["self", "warps", "wefts"] f) : ∃ fd, GFn P w K mg base 3 f fd ["self", "warps", "wefts"] gScores____init__ ∧ Binds K fd ["self", "warps", "wefts"] [] := by
  obtain ⟨fd, F, hb⟩ := O
  refine ⟨fd, gfn_of (k := 2) F scScores____init__ fun cdv A outer s H E hr hgd => ?_, hb⟩
  have scN := scScores____init__.nd
  have tk := takes_of (X := cxOf (CX P w) P w K mg base ["self", "warps", "wefts", "total"] "Scores.__init__" (defScope sScores____init__) f cdv A outer s H E) (E := E) rfl rfl rfl rfl
  exact ms_cons (ms_expr (me_call (kneed_integers T) (hr.mono (by decide)) hgd (by rfl) T.fneed_integers.mgf T.fneed_integers.F.kp T.fneed_integers.b tk (ma_cons (me_var (pv 1)) (ma_nil)))) (ms_cons (ms_expr (me_call (kneed_integers T) (hr.mono (by decide)) hgd (by rfl) T.fneed_integers.mgf T.fneed_integers.F.kp T.fneed_integers.b tk (ma_cons (me_var (pv 2)) (ma_nil)))) (ms_cons (ms_expr (me_call (kneed_range T) (hr.mono (by decide)) hgd (by rfl) T.fneed_range.mgf T.fneed_range.F.kp T.fneed_range.b tk (ma_cons (me_var (pv 1)) (ma_cons (me_cb (pe_callB call_len (by rfl) T.b_len bt_len (ma_cons (me_var (pv 2)) (ma_nil))) cs_len) (ma_nil))))) (ms_cons (ms_expr (me_call (kneed_range T) (hr.mono (by decide)) hgd (by rfl) T.fneed_range.mgf T.fneed_range.F.kp T.fneed_range.b tk (ma_cons (me_var (pv 2)) (ma_cons (me_cb (pe_callB call_len (by rfl) T.b_len bt_len (ma_cons (me_var (pv 1)) (ma_nil))) cs_len) (ma_nil))))) (ms_cons (ms_ifNm (i := 3) scN rfl (by first | exact Or.inl rfl | exact Or.inr rfl) (op_neY hr.units) os_neX (me_op op_addA os_add (me_cb (pe_callB (cr_sumY rfl) (by rfl) T.b_sum bt_sum (ma_cons (me_var (pv 1)) (ma_nil))) cs_sumY) (me_cb (pe_callB (cr_sumY rfl) (by rfl) T.b_sum bt_sum (ma_cons (me_var (pv 2)) (ma_nil))) cs_sumY)) (me_op op_mul os_mulI (me_cb (pe_callB call_len (by rfl) T.b_len bt_len (ma_cons (me_var (pv 1)) (ma_nil))) cs_len) (me_cb (pe_callB call_len (by rfl) T.b_len bt_len (ma_cons (me_var (pv 2)) (ma_nil))) cs_len)) (ms_one (ms_raise rfl tk T.x_WrongTotal T.xm (hr.mono (by decide)) (by rfl) (T.gx _) (me_var (pv 3)))) (ms_nil)) (ms_one (ms_fld (allc (T.fl_Scores_kept_scores) (all0)) (me_var (pv 0)) (me_dict (pps_cons (me_str) (me_cb (pe_callTy call_list_of (by rfl) T.b_list bt_list (ma_cons (me_var (pv 1)) (ma_nil))) cs_list) (pps_cons (me_str) (me_cb (pe_callTy call_list_of (by rfl) T.b_list bt_list (ma_cons (me_var (pv 2)) (ma_nil))) cs_list) (pps_nil))) (mps_cons (mps_cons (mps_nil))) rfl rfl (fun z => by cases z) (by decide))))))))
theorem mkScores (T : TxB P K mg base) : MakK P w K mg base "Scores" gScores____init__ 3 := by
  obtain ⟨C, f, h1, h2, h3⟩ := T.mk_Scores
  obtain ⟨fd, F, hb⟩ := kScores____init__ (w := w) (base := base) T h3
  exact ⟨C, f, fd, _, h1, T.gx _ _ h1, h2, F, hb⟩
theorem k_law_fits (T : TxB P K mg base) : GFn P w K mg base 1 T.f_law_fits.a T.f_law_fits.fd ["_law_needs", "_law_counts"] g_law_fits := by
  refine gfn_of (k := 0) T.f_law_fits.F sc_law_fits fun cdv A outer s H E hr hgd => ?_
  have scN := sc_law_fits.nd
  have tk := takes_of (X := cxOf (CX P w) P w K mg base ["_law_needs", "_law_counts", "_law_ranks", "_law_many", "_law_need"] "_law_fits" (defScope s_law_fits) T.f_law_fits.a cdv A outer s H E) (E := E) rfl rfl rfl rfl
  exact ms_cons (ms_set (i := 2) scN rfl (by first | exact Or.inl rfl | exact Or.inr rfl) (me_sortRV (by rfl) T.b_sorted bt_sorted (ma_cons (me_var (pv 1)) (ma_nil)))) (ms_cons (ms_if (PW.pt (mw_or (mt_cmp (op_neY hr.units) os_neX (me_cb (pe_callB (cr_sumY rfl) (by rfl) T.b_sum bt_sum (ma_cons (me_var (pv 0)) (ma_nil))) cs_sumY) (me_cb (pe_callB (cr_sumY rfl) (by rfl) T.b_sum bt_sum (ma_cons (me_var (pv 1)) (ma_nil))) cs_sumY) (nomark _)) (mw_or (mt_cmp op_ltA os_lt (me_cb (pe_callB (cr_minY rfl) (by rfl) T.b_min bt_min (ma_cons (me_op op_addA os_addM (me_var (pv 0)) (me_var (pv 1))) (ma_nil))) cs_minY) (me_int) (nomark _)) (mw_or (mt_cmp op_gt os_cmpI (me_cb (pe_callB (cr_maxY rfl) (by rfl) T.b_max bt_max (ma_cons (me_var (pv 0)) (ma_nil))) cs_maxY) (me_cb (pe_callB call_len (by rfl) T.b_len bt_len (ma_cons (me_var (pv 1)) (ma_nil))) cs_len) (nomark _)) (mw_or1 (mt_cmp op_gt os_cmpI (me_cb (pe_callB (cr_maxY rfl) (by rfl) T.b_max bt_max (ma_cons (me_var (pv 1)) (ma_nil))) cs_maxY) (me_cb (pe_callB call_len (by rfl) T.b_len bt_len (ma_cons (me_var (pv 0)) (ma_nil))) cs_len) (nomark _))))))) (ms_one (ms_ret (me_bl))) (ms_nil)) (ms_cons (ms_for (passes_of rfl) rfl (mi_r1 (pi_range1 (by rfl) T.b_range (ma_cons (me_op op_addA os_add (me_cb (pe_callB call_len (by rfl) T.b_len bt_len (ma_cons (me_var (pv 2)) (ma_nil))) cs_len) (me_int)) (ma_nil)))) (mg_name (i := 3) scN rfl (by first | exact Or.inl rfl | exact Or.inr rfl)) (ms_one (ms_if (mt_cmp op_gt os_cmpI (me_cb (pe_callB (cr_sumY rfl) (by rfl) T.b_sum bt_sum (ma_cons (me_sliceY (me_var (pv 2)) (mo_none) (mo_some (me_var (pv 3)))) (ma_nil))) cs_sumY) (me_cb (pe_callB (cr_sumY rfl) (by rfl) T.b_sum bt_sum (ma_cons (PEi (pe_lc (own := [("_law_need", 4)]) rfl scN (mk_any (me_var (pv 0))) (blkOk_by (N := ["_law_needs", "_law_counts", "_law_ranks", "_law_many", "_law_need"]) (sc := defScope s_law_fits) (by decide +kernel)) (fun _ _ _ _ _ => pg_name (i := 4) scN rfl (by first | exact Or.inl rfl | exact Or.inr rfl)) (fun _ _ _ _ _ => mts_nil) (fun _ _ _ _ _ => me_cb (pe_callB (call_min2 rfl) (by rfl) T.b_min bt_min (ma_cons (me_var (pv 4)) (ma_cons (me_var (pv 3)) (ma_nil)))) cs_min2)) (fun _ _ _ h => lc_readW (good_name (by decide)) (rg_name) h)) (ma_nil))) cs_sumY) (nomark _)) (ms_one (ms_ret (me_bl))) (ms_nil)))) (ms_one (ms_ret (me_bl)))))
theorem k_law_lowest (T : TxB P K mg base) : GFn P w K mg base 1 T.f_law_lowest.a T.f_law_lowest.fd ["_law_lists_here", "_law_kind", "_law_many"] g_law_lowest := by
  refine gfn_of (k := 0) T.f_law_lowest.F sc_law_lowest fun cdv A outer s H E hr hgd => ?_
  have scN := sc_law_lowest.nd
  have tk := takes_of (X := cxOf (CX P w) P w K mg base ["_law_lists_here", "_law_kind", "_law_many", "_law_scores", "_law_order", "_law_score", "_law_number"] "_law_lowest" (defScope s_law_lowest) T.f_law_lowest.a cdv A outer s H E) (E := E) rfl rfl rfl rfl
  exact ms_cons (ms_set (i := 3) scN rfl (by first | exact Or.inl rfl | exact Or.inr rfl) (me_ix ix_seq os_item (me_var (pv 0)) (me_cb (pe_callTy call_intF (by rfl) T.b_int bt_int (ma_cons (me_cmp (op_eqY hr.units) os_eqX (me_var (pv 1)) (me_str) (nomark _)) (ma_nil))) cs_intF) (fun _ _ => rfl))) (ms_cons (ms_set (i := 4) scN rfl (by first | exact Or.inl rfl | exact Or.inr rfl) (me_cb (pe_callB (cr_srtTup (u65 hr)) (by rfl) T.b_sorted bt_sorted (ma_cons (PEi (pe_lc (own := [("_law_number", 6), ("_law_score", 5)]) rfl scN (mk_enum (pi_enumG (by rfl) T.b_enumerate (ma_cons (me_var (pv 3)) (ma_nil)))) (blkOk_by (N := ["_law_lists_here", "_law_kind", "_law_many", "_law_scores", "_law_order", "_law_score", "_law_number"]) (sc := defScope s_law_lowest) (by decide +kernel)) (fun _ _ _ _ _ => pg_tup rfl (pgs_cons (pg_name (i := 6) scN rfl (by first | exact Or.inl rfl | exact Or.inr rfl)) (pgs_cons (pg_name (i := 5) scN rfl (by first | exact Or.inl rfl | exact Or.inr rfl)) pgs_nil))) (fun _ _ _ _ _ => mts_nil) (fun _ _ _ _ _ => me_tup (ma_cons (me_var (pv 5)) (ma_cons (me_var (pv 6)) (ma_nil))))) (fun _ _ _ h => lc_readW (good_names (by decide) (by decide)) (rg_names) h)) (ma_nil))) cs_sortT)) (ms_one (ms_ret (PEi (pe_lc (own := [("_law_score", 5), ("_law_number", 6)]) rfl scN (mk_any (me_sliceY (me_var (pv 4)) (mo_none) (mo_some (me_var (pv 2))))) (blkOk_by (N := ["_law_lists_here", "_law_kind", "_law_many", "_law_scores", "_law_order", "_law_score", "_law_number"]) (sc := defScope s_law_lowest) (by decide +kernel)) (fun _ _ _ _ _ => pg_tup rfl (pgs_cons (pg_name (i := 5) scN rfl (by first | exact Or.inl rfl | exact Or.inr rfl)) (pgs_cons (pg_name (i := 6) scN rfl (by first | exact Or.inl rfl | exact Or.inr rfl)) pgs_nil))) (fun _ _ _ _ _ => mts_nil) (fun _ _ _ _ _ => me_tup (ma_cons (me_var (pv 1)) (ma_cons (me_var (pv 6)) (ma_nil))))) (fun _ _ _ h => lc_readW (good_names (by decide) (by decide)) (rg_names) h)))))
theorem k_law_due (T : TxB P K mg base) : GFn P w K mg base 2 T.f_law_due.a T.f_law_due.fd ["_law_lists_here"] g_law_due := by
  refine gfn_of (k := 1) T.f_law_due.F sc_law_due fun cdv A outer s H E hr hgd => ?_
  have scN := sc_law_due.nd
  have tk := takes_of (X := cxOf (CX P w) P w K mg base ["_law_lists_here", "_law_s", "_law_t", "_law_some", "_law_kind", "_law_number"] "_law_due" (defScope s_law_due) T.f_law_due.a cdv A outer s H E) (E := E) rfl rfl rfl rfl
  exact ms_cons (ms_for (passes_of rfl) rfl (mi_r1 (pi_range1 (by rfl) T.b_range (ma_cons (me_op op_addA os_add (me_cb (pe_callB call_len (by rfl) T.b_len bt_len (ma_cons (me_ix ix_seq os_item (me_var (pv 0)) (me_int) (fun _ _ => rfl)) (ma_nil))) cs_len) (me_int)) (ma_nil)))) (mg_name (i := 1) scN rfl (by first | exact Or.inl rfl | exact Or.inr rfl)) (ms_one (ms_for (passes_of rfl) rfl (mi_r1 (pi_range1 (by rfl) T.b_range (ma_cons (me_op op_addA os_add (me_cb (pe_callB call_len (by rfl) T.b_len bt_len (ma_cons (me_ix ix_seq os_item (me_var (pv 0)) (me_int) (fun _ _ => rfl)) (ma_nil))) cs_len) (me_int)) (ma_nil)))) (mg_name (i := 2) scN rfl (by first | exact Or.inl rfl | exact Or.inr rfl)) (ms_cons (ms_set (i := 3) scN rfl (by first | exact Or.inl rfl | exact Or.inr rfl) (me_op op_addA os_add (me_call (k_law_lowest T) (hr.mono (by decide)) hgd (by rfl) T.f_law_lowest.mgf T.f_law_lowest.F.kp T.f_law_lowest.b tk (ma_cons (me_var (pv 0)) (ma_cons (me_str) (ma_cons (me_var (pv 1)) (ma_nil))))) (me_call (k_law_lowest T) (hr.mono (by decide)) hgd (by rfl) T.f_law_lowest.mgf T.f_law_lowest.F.kp T.f_law_lowest.b tk (ma_cons (me_var (pv 0)) (ma_cons (me_str) (ma_cons (me_var (pv 2)) (ma_nil))))))) (ms_one (ms_if (mt_cmp op_ltA os_lt (me_cb (pe_callB (cr_sumY rfl) (by rfl) T.b_sum bt_sum (ma_cons (PEi (pe_lc (own := [("_law_kind", 4), ("_law_number", 5)]) rfl scN (mk_any (me_var (pv 3))) (blkOk_by (N := ["_law_lists_here", "_law_s", "_law_t", "_law_some", "_law_kind", "_law_number"]) (sc := defScope s_law_due) (by decide +kernel)) (fun _ _ _ _ _ => pg_tup rfl (pgs_cons (pg_name (i := 4) scN rfl (by first | exact Or.inl rfl | exact Or.inr rfl)) (pgs_cons (pg_name (i := 5) scN rfl (by first | exact Or.inl rfl | exact Or.inr rfl)) pgs_nil))) (fun _ _ _ _ _ => mts_nil) (fun _ _ _ _ _ => me_ix ix_seq os_item (me_ix ix_seq os_item (me_var (pv 0)) (me_cb (pe_callTy call_intF (by rfl) T.b_int bt_int (ma_cons (me_cmp (op_eqY hr.units) os_eqX (me_var (pv 4)) (me_str) (nomark _)) (ma_nil))) cs_intF) (fun _ _ => rfl)) (me_var (pv 5)) (fun _ _ => rfl))) (fun _ _ _ h => lc_readW (good_names (by decide) (by decide)) (rg_names) h)) (ma_nil))) cs_sumY) (me_op op_mul os_mulI (me_var (pv 1)) (me_var (pv 2))) (nomark _)) (ms_one (ms_ret (me_cb (pe_callB (cr_srtTup (u65 hr)) (by rfl) T.b_sorted bt_sorted (ma_cons (me_var (pv 3)) (ma_nil))) cs_sortT))) (ms_nil))))))) (ms_one (ms_ret (me_non)))
theorem kScores__pairs (T : TxB P K mg base) {f : Addr} (O : OwnF K "pairs" "Scores.pairs" sScores__pairs ["self"] f) : ∃ fd, GFn P w K mg base 1 f fd ["self"] gScores__pairs ∧ Binds K fd ["self"] [] := by
  obtain ⟨fd, F, hb⟩ := O
  refine ⟨fd, gfn_of (k := 0) F scScores__pairs fun cdv A outer s H E hr hgd => ?_, hb⟩
  have scN := scScores__pairs.nd
  have tk := takes_of (X := cxOf (CX P w) P w K mg base ["self", "warps", "wefts", "kind", "s", "t"] "Scores.pairs" (defScope sScores__pairs) f cdv A outer s H E) (E := E) rfl rfl rfl rfl
  exact ms_cons (ms_asg (PEi (pe_lc (own := [("kind", 3)]) rfl scN (mi_tup (me_const (by rfl) T.cKINDS)) (blkOk_by (N := ["self", "warps", "wefts", "kind", "s", "t"]) (sc := defScope sScores__pairs) (by decide +kernel)) (fun _ _ _ _ _ => pg_name (i := 3) scN rfl (by first | exact Or.inl rfl | exact Or.inr rfl)) (fun _ _ _ _ _ => mts_nil) (fun _ _ _ _ _ => me_cb (pe_callB call_len (by rfl) T.b_len bt_len (ma_cons (me_dget (u1 hr) (me_fld (allc (T.fl_Scores_kept_scores) (all0)) (me_var (pv 0))) (me_var (pv 3)) (fun _ _ => rfl)) (ma_nil))) cs_len)) (fun _ _ _ h => lc_read (good_name (by decide)) (rg_name) h)) (mg_tupL rfl (mgs_cons (i := 1) scN rfl (by first | exact Or.inl rfl | exact Or.inr rfl) (mgs_cons (i := 2) scN rfl (by first | exact Or.inl rfl | exact Or.inr rfl) (mgs_nil))))) (ms_one (ms_ret (PEi (pe_lc2 (own := [("s", 4), ("t", 5)]) (vs1 := [5]) rfl scN (mk_fix (mi_r1 (pi_range1 (by rfl) T.b_range (ma_cons (me_op op_addA os_add (me_var (pv 1)) (me_int)) (ma_nil))))) (blkOk_by (N := ["self", "warps", "wefts", "kind", "s", "t"]) (sc := defScope sScores__pairs) (by decide +kernel)) (by decide) (fun _ _ _ _ _ => pg_name (i := 4) scN rfl (by first | exact Or.inl rfl | exact Or.inr rfl)) (fun _ _ _ _ _ => mts_nil) (fun _ _ _ _ _ => mk_fix (mi_r1 (pi_range1 (by rfl) T.b_range (ma_cons (me_op op_addA os_add (me_var (pv 2)) (me_int)) (ma_nil))))) (fun _ _ _ _ _ => pg_name (i := 5) scN rfl (by first | exact Or.inl rfl | exact Or.inr rfl)) (fun _ _ _ _ _ => mts_nil) (fun _ _ _ _ _ => me_tup (ma_cons (me_var (pv 4)) (ma_cons (me_var (pv 5)) (ma_nil))))) (fun _ _ _ h => lc2_read (good_name (by decide)) (rg_name) (good_name (by decide)) (rg_name) h))))
theorem mScores__pairs (T : TxB P K mg base) {k : Nat} (hk : 1 ≤ k := by decide) : MthK P w K mg base "Scores" "pairs" gScores__pairs k := by
  obtain ⟨C, f, h1, h2, h3, h4⟩ := T.me_Scores_pairs
  obtain ⟨fd, F, hb⟩ := kScores__pairs (w := w) (base := base) T h4
  exact ⟨C, f, fd, _, h1, h2, h3, F.mono hk, hb⟩
theorem kScores__threads (T : TxB P K mg base) {f : Addr} (O : OwnF K "threads" "Scores.threads" sScores__threads ["self"] f) : ∃ fd, GFn P w K mg base 1 f fd ["self"] gScores__threads ∧ Binds K fd ["self"] [] := by
  obtain ⟨fd, F, hb⟩ := O
  refine ⟨fd, gfn_of (k := 0) F scScores__threads fun cdv A outer s H E hr hgd => ?_, hb⟩
  have scN := scScores__threads.nd
  have tk := takes_of (X := cxOf (CX P w) P w K mg base ["self", "kind", "number"] "Scores.threads" (defScope sScores__threads) f cdv A outer s H E) (E := E) rfl rfl rfl rfl
  exact ms_one (ms_ret (PEi (pe_lc2 (own := [("kind", 1), ("number", 2)]) (vs1 := [2]) rfl scN (mk_fix (mi_tup (me_const (by rfl) T.cKINDS))) (blkOk_by (N := ["self", "kind", "number"]) (sc := defScope sScores__threads) (by decide +kernel)) (by decide) (fun _ _ _ _ _ => pg_name (i := 1) scN rfl (by first | exact Or.inl rfl | exact Or.inr rfl)) (fun _ _ _ _ _ => mts_nil) (fun _ _ _ _ _ => mk_fix (mi_r1 (pi_range1 (by rfl) T.b_range (ma_cons (me_cb (pe_callB call_len (by rfl) T.b_len bt_len (ma_cons (me_dget (u1 hr) (me_fld (allc (T.fl_Scores_kept_scores) (all0)) (me_var (pv 0))) (me_var (pv 1)) (fun _ _ => rfl)) (ma_nil))) cs_len) (ma_nil))))) (fun _ _ _ _ _ => pg_name (i := 2) scN rfl (by first | exact Or.inl rfl | exact Or.inr rfl)) (fun _ _ _ _ _ => mts_nil) (fun _ _ _ _ _ => me_tup (ma_cons (me_var (pv 1)) (ma_cons (me_var (pv 2)) (ma_nil))))) (fun _ _ _ h => lc2_read (good_name (by decide)) (rg_name) (good_name (by decide)) (rg_name) h)))
theorem mScores__threads (T : TxB P K mg base) {k : Nat} (hk : 1 ≤ k := by decide) : MthK P w K mg base "Scores" "threads" gScores__threads k := by
  obtain ⟨C, f, h1, h2, h3, h4⟩ := T.me_Scores_threads
  obtain ⟨fd, F, hb⟩ := kScores__threads (w := w) (base := base) T h4
  exact ⟨C, f, fd, _, h1, h2, h3, F.mono hk, hb⟩
theorem kScores__score_of (T : TxB P K mg base) {f : Addr} (O : OwnF K "score_of" "Scores.score_of" sScores__score_of ["self", "thread"] f) : ∃ fd, GFn P w K mg base 1 f fd ["self", "thread"] gScores__score_of ∧ Binds K fd ["self", "thread"] [] := by
  obtain ⟨fd, F, hb⟩ := O
  refine ⟨fd, gfn_of (k := 0) F scScores__score_of fun cdv A outer s H E hr hgd => ?_, hb⟩
  have scN := scScores__score_of.nd
  have tk := takes_of (X := cxOf (CX P w) P w K mg base ["self", "thread", "kind", "number"] "Scores.score_of" (defScope sScores__score_of) f cdv A outer s H E) (E := E) rfl rfl rfl rfl
  exact ms_cons (ms_asg (me_var (pv 1)) (mg_tup rfl (mgs_cons (i := 2) scN rfl (by first | exact Or.inl rfl | exact Or.inr rfl) (mgs_cons (i := 3) scN rfl (by first | exact Or.inl rfl | exact Or.inr rfl) (mgs_nil))))) (ms_one (ms_ret (me_ix ix_seq os_item (me_dget (u1 hr) (me_fld (allc (T.fl_Scores_kept_scores) (all0)) (me_var (pv 0))) (me_var (pv 2)) (fun _ _ => rfl)) (me_var (pv 3)) (fun _ _ => rfl))))
theorem mScores__score_of (T : TxB P K mg base) {k : Nat} (hk : 1 ≤ k := by decide) : MthK P w K mg base "Scores" "score_of" gScores__score_of k := by
  obtain ⟨C, f, h1, h2, h3, h4⟩ := T.me_Scores_score_of
  obtain ⟨fd, F, hb⟩ := kScores__score_of (w := w) (base := base) T h4
  exact ⟨C, f, fd, _, h1, h2, h3, F.mono hk, hb⟩
theorem bScores__score_of (T : TxB P K mg base) {k : Nat} (hk : 1 ≤ k := by decide) : BMthK P w K mg base "Scores" "score_of" gScores__score_of k := by
  obtain ⟨C, f, h1, h2, h3, h4⟩ := T.mb_Scores_score_of
  obtain ⟨fd, F, hb⟩ := kScores__score_of (w := w) (base := base) T h4
  exact ⟨C, f, fd, _, h1, h2, h3, F.mono hk, hb⟩
theorem kScores__lowest (T : TxB P K mg base) {f : Addr} (O : OwnF K "lowest" "Scores.lowest" sScores__lowest ["self", "warps", "wefts"] f) : ∃ fd, GFn P w K mg base 4 f fd ["self", "warps", "wefts"] gScores__lowest ∧ Binds K fd ["self", "warps", "wefts"] [] := by
  obtain ⟨fd, F, hb⟩ := O
  refine ⟨fd, gfn_of (k := 3) F scScores__lowest fun cdv A outer s H E hr hgd => ?_, hb⟩
  have scN := scScores__lowest.nd
  have tk := takes_of (X := cxOf (CX P w) P w K mg base ["self", "warps", "wefts", "found", "kind", "many", "order", "thread"] "Scores.lowest" (defScope sScores__lowest) f cdv A outer s H E) (E := E) rfl rfl rfl rfl
  exact ms_cons (ms_set (i := 3) scN rfl (by first | exact Or.inl rfl | exact Or.inr rfl) (me_lstM (ma_nil))) (ms_cons (ms_forW (passes_of rfl) rfl (mk_zip (pi_zipG (by rfl) T.b_zip (ma_cons (me_const (by rfl) T.cKINDS) (ma_cons (me_tup (ma_cons (me_var (pv 1)) (ma_cons (me_var (pv 2)) (ma_nil)))) (ma_nil))))) (mg_tup rfl (mgs_cons (i := 4) scN rfl (by first | exact Or.inl rfl | exact Or.inr rfl) (mgs_cons (i := 5) scN rfl (by first | exact Or.inl rfl | exact Or.inr rfl) (mgs_nil)))) (ms_cons (ms_set (i := 6) scN rfl (by first | exact Or.inl rfl | exact Or.inr rfl) ((me_sortM (tbl := [("Scores", gScores__score_of)]) (k := 1) (allc (bScores__score_of T) (all0)) (hr.mono (by decide)) hgd (by rfl) T.b_sorted bt_sorted (ma_cons (PEi (pe_lc (own := [("thread", 7)]) rfl scN (mi_lst ((me_meth0 (tbl := [("Scores", gScores__threads)]) (k := 1) (allc (mScores__threads T) (all0)) (hr.mono (by decide)) hgd tk (me_var (pv 0))))) (blkOk_by (N := ["self", "warps", "wefts", "found", "kind", "many", "order", "thread"]) (sc := defScope sScores__lowest) (by decide +kernel)) (fun _ _ _ _ _ => pg_name (i := 7) scN rfl (by first | exact Or.inl rfl | exact Or.inr rfl)) (fun _ _ _ _ _ => mts_one (mt_cmp (op_eqY hr.units) os_eqX (me_ix ix_seq os_item (me_var (pv 7)) (me_int) (fun _ _ => rfl)) (me_var (pv 4)) (nomark _))) (fun _ _ _ _ _ => me_var (pv 7))) (fun _ _ _ h => lc_read (good_name (by decide)) (rg_name) h)) (ma_nil)) (me_var (pv 0))))) (ms_one (ms_expr (me_bm (pe_bm PySem.F.plainAttrs_list PySem.F.slot_list_extend PySem.F.type_list_extend mt_extend (me_var (pv 3)) (ma_cons (me_sliceY (me_var (pv 6)) (mo_none) (mo_some (me_var (pv 5)))) (ma_nil))) meth_extend))))) (ms_one (ms_ret (me_frz (me_var (pv 3))))))
theorem mScores__lowest (T : TxB P K mg base) {k : Nat} (hk : 4 ≤ k := by decide) : MthK P w K mg base "Scores" "lowest" gScores__lowest k := by
  obtain ⟨C, f, h1, h2, h3, h4⟩ := T.me_Scores_lowest
  obtain ⟨fd, F, hb⟩ := kScores__lowest (w := w) (base := base) T h4
  exact ⟨C, f, fd, _, h1, h2, h3, F.mono hk, hb⟩
theorem kScores__lowest_excess (T : TxB P K mg base) {f : Addr} (O : OwnF K "lowest_excess" "Scores.lowest_excess" sScores__lowest_excess ["self", "s", "t"] f) : ∃ fd, GFn P w K mg base 5 f fd ["self", "s", "t"] gScores__lowest_excess ∧ Binds K fd ["self", "s", "t"] [] := by
  obtain ⟨fd, F, hb⟩ := O
  refine ⟨fd, gfn_of (k := 4) F scScores__lowest_excess fun cdv A outer s H E hr hgd => ?_, hb⟩
  have scN := scScores__lowest_excess.nd
  have tk := takes_of (X := cxOf (CX P w) P w K mg base ["self", "s", "t", "thread"] "Scores.lowest_excess" (defScope sScores__lowest_excess) f cdv A outer s H E) (E := E) rfl rfl rfl rfl
  exact ms_one (ms_ret (me_op op_sub os_sub (me_cb (pe_callB (cr_sumY rfl) (by rfl) T.b_sum bt_sum (ma_cons (PEi (pe_lc (own := [("thread", 3)]) rfl scN (mi_lst ((me_meth (tbl := [("Scores", gScores__lowest)]) (k := 4) (allc (mScores__lowest T) (all0)) (hr.mono (by decide)) hgd tk (me_var (pv 0)) (ma_cons (me_var (pv 1)) (ma_cons (me_var (pv 2)) (ma_nil)))))) (blkOk_by (N := ["self", "s", "t", "thread"]) (sc := defScope sScores__lowest_excess) (by decide +kernel)) (fun _ _ _ _ _ => pg_name (i := 3) scN rfl (by first | exact Or.inl rfl | exact Or.inr rfl)) (fun _ _ _ _ _ => mts_nil) (fun _ _ _ _ _ => (me_meth (tbl := [("Scores", gScores__score_of)]) (k := 1) (allc (mScores__score_of T) (all0)) (hr.mono (by decide)) hgd takesW0 (me_var (pv 0)) (ma_cons (me_var (pv 3)) (ma_nil))))) (fun _ _ _ h => lc_read (good_name (by decide)) (rg_name) h)) (ma_nil))) cs_sumY) (me_op op_mul os_mulI (me_var (pv 1)) (me_var (pv 2)))))
theorem mScores__lowest_excess (T : TxB P K mg base) {k : Nat} (hk : 5 ≤ k := by decide) : MthK P w K mg base "Scores" "lowest_excess" gScores__lowest_excess k := by
  obtain ⟨C, f, h1, h2, h3, h4⟩ := T.me_Scores_lowest_excess
  obtain ⟨fd, F, hb⟩ := kScores__lowest_excess (w := w) (base := base) T h4
  exact ⟨C, f, fd, _, h1, h2, h3, F.mono hk, hb⟩
theorem kScores__violation (T : TxB P K mg base) {f : Addr} (O : OwnF K "violation" "Scores.violation" sScores__violation ["self"] f) : ∃ fd, GFn P w K mg base 6 f fd ["self"] gScores__violation ∧ Binds K fd ["self"] [] := by
  obtain ⟨fd, F, hb⟩ := O
  refine ⟨fd, gfn_of (k := 5) F scScores__violation fun cdv A outer s H E hr hgd => ?_, hb⟩
  have scN := scScores__violation.nd
  have tk := takes_of (X := cxOf (CX P w) P w K mg base ["self", "s", "t"] "Scores.violation" (defScope sScores__violation) f cdv A outer s H E) (E := E) rfl rfl rfl rfl
  exact ms_cons (ms_for (passes_of rfl) rfl (mi_lst ((me_meth0 (tbl := [("Scores", gScores__pairs)]) (k := 1) (allc (mScores__pairs T) (all0)) (hr.mono (by decide)) hgd tk (me_var (pv 0))))) (mg_tup rfl (mgs_cons (i := 1) scN rfl (by first | exact Or.inl rfl | exact Or.inr rfl) (mgs_cons (i := 2) scN rfl (by first | exact Or.inl rfl | exact Or.inr rfl) (mgs_nil)))) (ms_one (ms_if (mt_cmp op_ltA os_lt ((me_meth (tbl := [("Scores", gScores__lowest_excess)]) (k := 5) (allc (mScores__lowest_excess T) (all0)) (hr.mono (by decide)) hgd tk (me_var (pv 0)) (ma_cons (me_var (pv 1)) (ma_cons (me_var (pv 2)) (ma_nil))))) (me_int) (nomark _)) (ms_one (ms_ret (me_cb (pe_callB (cr_srtTup (u65 hr)) (by rfl) T.b_sorted bt_sorted (ma_cons ((me_meth (tbl := [("Scores", gScores__lowest)]) (k := 4) (allc (mScores__lowest T) (all0)) (hr.mono (by decide)) hgd tk (me_var (pv 0)) (ma_cons (me_var (pv 1)) (ma_cons (me_var (pv 2)) (ma_nil))))) (ma_nil))) cs_sortTM))) (ms_nil)))) (ms_one (ms_ret (me_non)))
theorem mScores__violation (T : TxB P K mg base) {k : Nat} (hk : 6 ≤ k := by decide) : MthK P w K mg base "Scores" "violation" gScores__violation k := by
  obtain ⟨C, f, h1, h2, h3, h4⟩ := T.me_Scores_violation
  obtain ⟨fd, F, hb⟩ := kScores__violation (w := w) (base := base) T h4
  exact ⟨C, f, fd, _, h1, h2, h3, F.mono hk, hb⟩
theorem kScores__is_feasible (T : TxB P K mg base) {f : Addr} (O : OwnF K "is_feasible" "Scores.is_feasible" sScores__is_feasible ["self"] f) : ∃ fd, GFn P w K mg base 7 f fd ["self"] gScores__is_feasible ∧ Binds K fd ["self"] [] := by
  obtain ⟨fd, F, hb⟩ := O
  refine ⟨fd, gfn_of (k := 6) F scScores__is_feasible fun cdv A outer s H E hr hgd => ?_, hb⟩
  have scN := scScores__is_feasible.nd
  have tk := takes_of (X := cxOf (CX P w) P w K mg base ["self"] "Scores.is_feasible" (defScope sScores__is_feasible) f cdv A outer s H E) (E := E) rfl rfl rfl rfl
  exact ms_one (ms_ret (me_cmp op_isN os_is ((me_meth0 (tbl := [("Scores", gScores__violation)]) (k := 6) (allc (mScores__violation T) (all0)) (hr.mono (by decide)) hgd tk (me_var (pv 0)))) (me_non) (nomark _)))
theorem mScores__is_feasible (T : TxB P K mg base) {k : Nat} (hk : 7 ≤ k := by decide) : MthK P w K mg base "Scores" "is_feasible" gScores__is_feasible k := by
  obtain ⟨C, f, h1, h2, h3, h4⟩ := T.me_Scores_is_feasible
  obtain ⟨fd, F, hb⟩ := kScores__is_feasible (w := w) (base := base) T h4
  exact ⟨C, f, fd, _, h1, h2, h3, F.mono hk, hb⟩
theorem klaw (T : TxB P K mg base) : GFn P w K mg base 8 T.flaw.a T.flaw.fd ["_law_script"] glaw := by
  refine gfn_of (k := 7) T.flaw.F sclaw fun cdv A outer s H E hr hgd => ?_
  have scN := sclaw.nd
  have tk := takes_of (X := cxOf (CX P w) P w K mg base ["_law_script", "_law_k", "_law_box_here", "_law_turn", "_law_lists_here", "_law_scores", "_law_good", "_law_lap", "_law_found", "_law_due_here", "_law_score"] "law" (defScope slaw) T.flaw.a cdv A outer s H E) (E := E) rfl rfl rfl rfl
  exact ms_cons (ms_for (passes_of rfl) rfl (mi_r1 (pi_range1 (by rfl) T.b_range (ma_cons (me_cb (pe_callB (call_max2 rfl) (by rfl) T.b_max bt_max (ma_cons (me_int) (ma_cons (me_cb (pe_callB (call_min2 rfl) (by rfl) T.b_min bt_min (ma_cons (me_int) (ma_cons (me_cb (pe_callB call_len (by rfl) T.b_len bt_len (ma_cons (me_var (pv 0)) (ma_nil))) cs_len) (ma_nil)))) cs_min2) (ma_nil)))) cs_max2) (ma_nil)))) (mg_name (i := 1) scN rfl (by first | exact Or.inl rfl | exact Or.inr rfl)) (ms_cons (ms_set (i := 2) scN rfl (by first | exact Or.inl rfl | exact Or.inr rfl) (me_call (k_law_box T) (hr.mono (by decide)) hgd (by rfl) T.f_law_box.mgf T.f_law_box.F.kp T.f_law_box.b tk (ma_cons (me_call (k_law_cell T) (hr.mono (by decide)) hgd (by rfl) T.f_law_cell.mgf T.f_law_cell.F.kp T.f_law_cell.b tk (ma_cons (me_var (pv 0)) (ma_cons (me_var (pv 1)) (ma_nil)))) (ma_nil)))) (ms_one (ms_for (passes_of rfl) rfl (mi_r1 (pi_range1 (by rfl) T.b_range (ma_cons (me_int) (ma_nil)))) (mg_name (i := 3) scN rfl (by first | exact Or.inl rfl | exact Or.inr rfl)) (ms_cons (ms_set (i := 4) scN rfl (by first | exact Or.inl rfl | exact Or.inr rfl) (me_if (mt_cmp (op_eqY hr.units) os_eqX (me_call (k_law_take T) (hr.mono (by decide)) hgd (by rfl) T.f_law_take.mgf T.f_law_take.F.kp T.f_law_take.b tk (ma_cons (me_var (pv 2)) (ma_cons (me_int) (ma_nil)))) (me_int) (nomark _)) (me_call (k_law_far T) (hr.mono (by decide)) hgd (by rfl) T.f_law_far.mgf T.f_law_far.F.kp T.f_law_far.b tk (ma_cons (me_var (pv 2)) (ma_nil))) (me_call (k_law_drawn T) (hr.mono (by decide)) hgd (by rfl) T.f_law_drawn.mgf T.f_law_drawn.F.kp T.f_law_drawn.b tk (ma_cons (me_var (pv 2)) (ma_nil))))) (ms_cons (ms_set (i := 5) scN rfl (by first | exact Or.inl rfl | exact Or.inr rfl) (me_frzI ((me_make (mkScores T) (hr.mono (by decide)) hgd (by rfl) tk (ma_cons (me_ix ix_seq os_item (me_var (pv 4)) (me_int) (fun _ _ => rfl)) (ma_cons (me_ix ix_seq os_item (me_var (pv 4)) (me_int) (fun _ _ => rfl)) (ma_nil))))))) (ms_cons (ms_set (i := 6) scN rfl (by first | exact Or.inl rfl | exact Or.inr rfl) (me_call (k_law_fits T) (hr.mono (by decide)) hgd (by rfl) T.f_law_fits.mgf T.f_law_fits.F.kp T.f_law_fits.b tk (ma_cons (me_ix ix_seq os_item (me_var (pv 4)) (me_int) (fun _ _ => rfl)) (ma_cons (PEi (pe_lc (own := [("_law_score", 10)]) rfl scN (mk_any (me_ix ix_seq os_item (me_var (pv 4)) (me_int) (fun _ _ => rfl))) (blkOk_by (N := ["_law_script", "_law_k", "_law_box_here", "_law_turn", "_law_lists_here", "_law_scores", "_law_good", "_law_lap", "_law_found", "_law_due_here", "_law_score"]) (sc := defScope slaw) (by decide +kernel)) (fun _ _ _ _ _ => pg_name (i := 10) scN rfl (by first | exact Or.inl rfl | exact Or.inr rfl)) (fun _ _ _ _ _ => mts_nil) (fun _ _ _ _ _ => me_op op_sub os_sub (me_cb (pe_callB call_len (by rfl) T.b_len bt_len (ma_cons (me_ix ix_seq os_item (me_var (pv 4)) (me_int) (fun _ _ => rfl)) (ma_nil))) cs_len) (me_var (pv 10)))) (fun _ _ _ h => lc_readW (good_name (by decide)) (rg_name) h)) (ma_nil))))) (ms_one (ms_for (passes_of rfl) rfl (mi_r1 (pi_range1 (by rfl) T.b_range (ma_cons (me_int) (ma_nil)))) (mg_name (i := 7) scN rfl (by first | exact Or.inl rfl | exact Or.inr rfl)) (ms_cons (ms_par2 (i := 8) (j := 9) rfl scN rfl rfl (by decide) rfl rfl (ma_cons ((me_meth0 (tbl := [("Scores", gScores__violation)]) (k := 6) (allc (mScores__violation T) (all0)) (hr.mono (by decide)) hgd tk (me_var (pv 5)))) (ma_cons (me_call (k_law_due T) (hr.mono (by decide)) hgd (by rfl) T.f_law_due.mgf T.f_law_due.F.kp T.f_law_due.b tk (ma_cons (me_var (pv 4)) (ma_nil))) (ma_nil))) (by first | rfl | with_unfolding_all rfl | kernel_rfl)) (ms_cons (ms_if (PW.pt (mw_or (mt_cmp (op_neY hr.units) os_neX (me_cb (pe_callB (call_reprX hgd (u100 hr)) (by rfl) T.b_repr bt_repr (ma_cons (me_var (pv 8)) (ma_nil))) cs_reprX) (me_cb (pe_callB (call_reprX hgd (u100 hr)) (by rfl) T.b_repr bt_repr (ma_cons (me_var (pv 9)) (ma_nil))) cs_reprX) (nomark _)) (mw_or (mt_cmp (op_neY hr.units) os_neX (me_cb (pe_callB (call_reprX hgd (u100 hr)) (by rfl) T.b_repr bt_repr (ma_cons ((me_meth0 (tbl := [("Scores", gScores__is_feasible)]) (k := 7) (allc (mScores__is_feasible T) (all0)) (hr.mono (by decide)) hgd tk (me_var (pv 5)))) (ma_nil))) cs_reprX) (me_cb (pe_callB (call_reprX hgd (u100 hr)) (by rfl) T.b_repr bt_repr (ma_cons (me_var (pv 6)) (ma_nil))) cs_reprX) (nomark _)) (mw_or1 (mt_cmp (op_neY hr.units) os_neX (me_var (pv 6)) (me_cmp op_isN os_is (me_var (pv 9)) (me_non) (nomark _)) (nomark _)))))) (ms_one (ms_ret (me_bl))) (ms_nil)) (ms_one (ms_if (mt_cmp op_notN os_isnt (me_var (pv 8)) (me_non) (nomark _)) (ms_one (ms_expr (me_bm (pe_bm PySem.F.plainAttrs_list PySem.F.slot_list_append PySem.F.type_list_append mt_append (me_var (pv 8)) (ma_cons (me_str) (ma_nil))) meth_append))) (ms_nil)))))))))))))) (ms_one (ms_ret (me_bl)))
end
theorem law_fin {P : Program} {w : World} {h : Heap} {K : PySem.W.Frag} {mg : Str → Option Value} {fa : Addr} (X : K.In h) (G : h.Ns mainGlobals mg) (hmg : mg "law" = some (.ref fa))
    (z_all : PySem.W.nsIn K mainGlobals "all" = some none)
    (z_bool : PySem.W.nsIn K mainGlobals "bool" = some none)
    (z_enumerate : PySem.W.nsIn K mainGlobals "enumerate" = some none)
    (z_int : PySem.W.nsIn K mainGlobals "int" = some none)
    (z_isinstance : PySem.W.nsIn K mainGlobals "isinstance" = some none)
    (z_len : PySem.W.nsIn K mainGlobals "len" = some none)
    (z_list : PySem.W.nsIn K mainGlobals "list" = some none)
    (z_max : PySem.W.nsIn K mainGlobals "max" = some none)
    (z_min : PySem.W.nsIn K mainGlobals "min" = some none)
    (z_range : PySem.W.nsIn K mainGlobals "range" = some none)
    (z_repr : PySem.W.nsIn K mainGlobals "repr" = some none)
    (z_sorted : PySem.W.nsIn K mainGlobals "sorted" = some none)
    (z_str : PySem.W.nsIn K mainGlobals "str" = some none)
    (z_sum : PySem.W.nsIn K mainGlobals "sum" = some none)
    (z_tuple : PySem.W.nsIn K mainGlobals "tuple" = some none)
    (z_zip : PySem.W.nsIn K mainGlobals "zip" = some none)
    {f_KINDS : Addr} {od_KINDS : Option Addr} {n_KINDS : Nat} {sl_KINDS : Array (Option Value)} {t0_KINDS t1_KINDS : Tok}
    (a_KINDS : PySem.W.nsIn K mainGlobals "KINDS" = some (some (.ref f_KINDS)))
    (l_KINDS : K.lookup f_KINDS = some ⟨.type "tuple", od_KINDS, .seq #[.str "warp" t0_KINDS, .str "weft" t1_KINDS] n_KINDS, sl_KINDS⟩)
    {t_MOST_THREADS : Tok}
    (a_MOST_THREADS : PySem.W.nsIn K mainGlobals "MOST_THREADS" = some (some (.int 8 t_MOST_THREADS)))
    (z_super : PySem.W.nsIn K mainGlobals "super" = some none)
    (z_third : PySem.W.nsIn K cStatics "thirdparty.any" = some none)
    (z_top : (P.main.scope.names.lookup ("super" : Str)).isSome = false)
    {CInvalidScores fIInvalidScores ccInvalidScores cdaInvalidScores NInvalidScores : Addr} {bmInvalidScores bsInvalidScores subInvalidScores : List Value} {nmInvalidScores qInvalidScores fileInvalidScores : Str} {snInvalidScores : List Str} {abInvalidScores : Bool} {colInvalidScores : Option Bool} {ddInvalidScores anInvalidScores odInvalidScores cddInvalidScores cldInvalidScores : Option Addr} {k0InvalidScores k1InvalidScores k2InvalidScores k3InvalidScores k5InvalidScores : Option Value} {tfInvalidScores : Tok} {kVInvalidScores dcInvalidScores pmInvalidScores ctInvalidScores ocInvalidScores cclInvalidScores clInvalidScores : Value} {osInvalidScores csInvalidScores ssInvalidScores : Array (Option Value)} {vsInvalidScores : Array Value}
    (xaInvalidScores : PySem.W.nsIn K mainGlobals "InvalidScores" = some (some (.ref CInvalidScores)))
    (xcInvalidScores : K.lookup CInvalidScores = some (excClassObj nmInvalidScores qInvalidScores CInvalidScores NInvalidScores bsInvalidScores bmInvalidScores true snInvalidScores subInvalidScores abInvalidScores colInvalidScores ddInvalidScores k0InvalidScores k1InvalidScores k2InvalidScores k3InvalidScores k5InvalidScores "ValueError.__new__"))
    (xtInvalidScores : PySem.W.excTail [.type "ValueError", .type "Exception", .type "BaseException", .type "object"] bmInvalidScores = true)
    (xsInvalidScores : PySem.W.ks_superIn K CInvalidScores CInvalidScores "__init__" = some (some (.builtin "ValueError.__init__")))
    (xbInvalidScores : PySem.W.subIn K (.ref CInvalidScores) (.type "ValueError") = some true)
    (xiInvalidScores : PySem.W.findIn K (.ref CInvalidScores) "__init__" = some (some (.ref fIInvalidScores)))
    (xyInvalidScores : PySem.W.typeIn K (.ref fIInvalidScores) = some (.type "function"))
    (xlInvalidScores : K.lookup fIInvalidScores = some ⟨ocInvalidScores, odInvalidScores, .func (PySem.W.ksFn "__init__" "InvalidScores.__init__" (defArgs sxInvalidScores) (defBody sxInvalidScores) (defScope sxInvalidScores) .none kVInvalidScores dcInvalidScores pmInvalidScores anInvalidScores (.ref cdaInvalidScores) ctInvalidScores ccInvalidScores), osInvalidScores⟩)
    (xoInvalidScores : PySem.W.codeIn K (.ref cdaInvalidScores) "InvalidScores.__init__" = true)
    (xdInvalidScores : K.lookup cdaInvalidScores = some ⟨cclInvalidScores, cddInvalidScores, .fields vsInvalidScores, csInvalidScores⟩)
    (xvInvalidScores : vsInvalidScores[2]? = some (.str fileInvalidScores tfInvalidScores))
    (xfInvalidScores : ((P.main.file : Str) == fileInvalidScores) = true)
    (xeInvalidScores : K.lookup ccInvalidScores = some ⟨clInvalidScores, cldInvalidScores, .cell (some (.ref CInvalidScores)), ssInvalidScores⟩)
    (xmInvalidScores : PySem.W.mroIn K CInvalidScores (.ref CInvalidScores) = some true)
    (xpInvalidScores : PySem.W.findIn K (.ref CInvalidScores) "__setattr__" = some (some (.builtin "object.__setattr__")))
    (xnInvalidScores : PySem.W.findIn K (.ref CInvalidScores) "value" = some none)
    (xqInvalidScores : PySem.W.subIn K (.ref CInvalidScores) (.type "BaseException") = some true)
    (xrInvalidScores : PySem.W.typeIn K (.ref CInvalidScores) = some (.type "type"))
    (xkInvalidScores : PySem.W.keepIn K (.ref CInvalidScores) = true)
    (xgInvalidScores : PySem.W.findIn K (.ref CInvalidScores) "__getattribute__" = some (some (.builtin "BaseException.__getattribute__")))
    (xhInvalidScores : PySem.W.findIn K (.ref CInvalidScores) "__getattr__" = some none)
    (xjInvalidScores : PySem.W.hasDictIn K CInvalidScores = true)
    {CWrongTotal fIWrongTotal ccWrongTotal cdaWrongTotal NWrongTotal : Addr} {bmWrongTotal bsWrongTotal subWrongTotal : List Value} {nmWrongTotal qWrongTotal fileWrongTotal : Str} {snWrongTotal : List Str} {abWrongTotal : Bool} {colWrongTotal : Option Bool} {ddWrongTotal anWrongTotal odWrongTotal cddWrongTotal cldWrongTotal : Option Addr} {k0WrongTotal k1WrongTotal k2WrongTotal k3WrongTotal k5WrongTotal : Option Value} {tfWrongTotal : Tok} {kVWrongTotal dcWrongTotal pmWrongTotal ctWrongTotal ocWrongTotal cclWrongTotal clWrongTotal : Value} {osWrongTotal csWrongTotal ssWrongTotal : Array (Option Value)} {vsWrongTotal : Array Value}
    (xaWrongTotal : PySem.W.nsIn K mainGlobals "WrongTotal" = some (some (.ref CWrongTotal)))
    (xcWrongTotal : K.lookup CWrongTotal = some (excClassObj nmWrongTotal qWrongTotal CWrongTotal NWrongTotal bsWrongTotal bmWrongTotal true snWrongTotal subWrongTotal abWrongTotal colWrongTotal ddWrongTotal k0WrongTotal k1WrongTotal k2WrongTotal k3WrongTotal k5WrongTotal "ValueError.__new__"))
    (xtWrongTotal : PySem.W.excTail [.type "ValueError", .type "Exception", .type "BaseException", .type "object"] bmWrongTotal = true)
    (xsWrongTotal : PySem.W.ks_superIn K CWrongTotal CWrongTotal "__init__" = some (some (.builtin "ValueError.__init__")))
    (xbWrongTotal : PySem.W.subIn K (.ref CWrongTotal) (.type "ValueError") = some true)
    (xiWrongTotal : PySem.W.findIn K (.ref CWrongTotal) "__init__" = some (some (.ref fIWrongTotal)))
    (xyWrongTotal : PySem.W.typeIn K (.ref fIWrongTotal) = some (.type "function"))
    (xlWrongTotal : K.lookup fIWrongTotal = some ⟨ocWrongTotal, odWrongTotal, .func (PySem.W.ksFn "__init__" "WrongTotal.__init__" (defArgs sxWrongTotal) (defBody sxWrongTotal) (defScope sxWrongTotal) .none kVWrongTotal dcWrongTotal pmWrongTotal anWrongTotal (.ref cdaWrongTotal) ctWrongTotal ccWrongTotal), osWrongTotal⟩)
    (xoWrongTotal : PySem.W.codeIn K (.ref cdaWrongTotal) "WrongTotal.__init__" = true)
    (xdWrongTotal : K.lookup cdaWrongTotal = some ⟨cclWrongTotal, cddWrongTotal, .fields vsWrongTotal, csWrongTotal⟩)
    (xvWrongTotal : vsWrongTotal[2]? = some (.str fileWrongTotal tfWrongTotal))
    (xfWrongTotal : ((P.main.file : Str) == fileWrongTotal) = true)
    (xeWrongTotal : K.lookup ccWrongTotal = some ⟨clWrongTotal, cldWrongTotal, .cell (some (.ref CWrongTotal)), ssWrongTotal⟩)
    (xmWrongTotal : PySem.W.mroIn K CWrongTotal (.ref CWrongTotal) = some true)
    (xpWrongTotal : PySem.W.findIn K (.ref CWrongTotal) "__setattr__" = some (some (.builtin "object.__setattr__")))
    (xnWrongTotal : PySem.W.findIn K (.ref CWrongTotal) "total" = some none)
    (xqWrongTotal : PySem.W.subIn K (.ref CWrongTotal) (.type "BaseException") = some true)
    (xrWrongTotal : PySem.W.typeIn K (.ref CWrongTotal) = some (.type "type"))
    (xkWrongTotal : PySem.W.keepIn K (.ref CWrongTotal) = true)
    (xgWrongTotal : PySem.W.findIn K (.ref CWrongTotal) "__getattribute__" = some (some (.builtin "BaseException.__getattribute__")))
    (xhWrongTotal : PySem.W.findIn K (.ref CWrongTotal) "__getattr__" = some none)
    (xjWrongTotal : PySem.W.hasDictIn K CWrongTotal = true)
    {AScores : Addr}
    (caScores : PySem.W.nsIn K mainGlobals "Scores" = some (some (.ref AScores)))
    (cpScores : PySem.W.plainGet K AScores Str.empty = true)
    (cdScores : PySem.W.hasDictIn K AScores = true)
    (coScores : PySem.W.plainOver K AScores = true)
    (csScores : PySem.W.findIn K (.ref AScores) "__setattr__" = some (some (.builtin "object.__setattr__")))
    (fn_Scores_kept_scores : PySem.W.findIn K (.ref AScores) "kept_scores" = some none)
    {fScores____init__ : Addr}
    (kiScores : PySem.W.makesIn K AScores = true)
    (kfScores : PySem.W.findIn K (.ref AScores) "__init__" = some (some (.ref fScores____init__)))
    (knScores : PySem.W.isFn K (.ref fScores____init__) = true)
    (kkScores : PySem.W.keepIn K (.ref AScores) = true)
    {ocScores____init__ : Value} {odScores____init__ anScores____init__ : Option Addr} {slScores____init__ : Array (Option Value)} {kVScores____init__ dcScores____init__ pmScores____init__ cdScores____init__ ctScores____init__ : Value}
    (lScores____init__ : K.lookup fScores____init__ = some ⟨ocScores____init__, odScores____init__, .func (PySem.W.fnOf "__init__" "Scores.__init__" (defArgs sScores____init__) (defBody sScores____init__) (defScope sScores____init__) .none kVScores____init__ dcScores____init__ pmScores____init__ anScores____init__ cdScores____init__ ctScores____init__), slScores____init__⟩)
    (cScores____init__ : PySem.W.codeIn K cdScores____init__ "Scores.__init__" = true)
    (kScores____init__ : PySem.W.keepIn K (.ref fScores____init__) = true)
    {fScores__is_feasible : Addr}
    (mfScores__is_feasible : PySem.W.findIn K (.ref AScores) "is_feasible" = some (some (.ref fScores__is_feasible)))
    (mnScores__is_feasible : PySem.W.isFn K (.ref fScores__is_feasible) = true)
    {ocScores__is_feasible : Value} {odScores__is_feasible anScores__is_feasible : Option Addr} {slScores__is_feasible : Array (Option Value)} {kVScores__is_feasible dcScores__is_feasible pmScores__is_feasible cdScores__is_feasible ctScores__is_feasible : Value}
    (lScores__is_feasible : K.lookup fScores__is_feasible = some ⟨ocScores__is_feasible, odScores__is_feasible, .func (PySem.W.fnOf "is_feasible" "Scores.is_feasible" (defArgs sScores__is_feasible) (defBody sScores__is_feasible) (defScope sScores__is_feasible) .none kVScores__is_feasible dcScores__is_feasible pmScores__is_feasible anScores__is_feasible cdScores__is_feasible ctScores__is_feasible), slScores__is_feasible⟩)
    (cScores__is_feasible : PySem.W.codeIn K cdScores__is_feasible "Scores.is_feasible" = true)
    (kScores__is_feasible : PySem.W.keepIn K (.ref fScores__is_feasible) = true)
    {fScores__lowest : Addr}
    (mfScores__lowest : PySem.W.findIn K (.ref AScores) "lowest" = some (some (.ref fScores__lowest)))
    (mnScores__lowest : PySem.W.isFn K (.ref fScores__lowest) = true)
    {ocScores__lowest : Value} {odScores__lowest anScores__lowest : Option Addr} {slScores__lowest : Array (Option Value)} {kVScores__lowest dcScores__lowest pmScores__lowest cdScores__lowest ctScores__lowest : Value}
    (lScores__lowest : K.lookup fScores__lowest = some ⟨ocScores__lowest, odScores__lowest, .func (PySem.W.fnOf "lowest" "Scores.lowest" (defArgs sScores__lowest) (defBody sScores__lowest) (defScope sScores__lowest) .none kVScores__lowest dcScores__lowest pmScores__lowest anScores__lowest cdScores__lowest ctScores__lowest), slScores__lowest⟩)
    (cScores__lowest : PySem.W.codeIn K cdScores__lowest "Scores.lowest" = true)
    (kScores__lowest : PySem.W.keepIn K (.ref fScores__lowest) = true)
    {fScores__lowest_excess : Addr}
    (mfScores__lowest_excess : PySem.W.findIn K (.ref AScores) "lowest_excess" = some (some (.ref fScores__lowest_excess)))
    (mnScores__lowest_excess : PySem.W.isFn K (.ref fScores__lowest_excess) = true)
    {ocScores__lowest_excess : Value} {odScores__lowest_excess anScores__lowest_excess : Option Addr} {slScores__lowest_excess : Array (Option Value)} {kVScores__lowest_excess dcScores__lowest_excess pmScores__lowest_excess cdScores__lowest_excess ctScores__lowest_excess : Value}
    (lScores__lowest_excess : K.lookup fScores__lowest_excess = some ⟨ocScores__lowest_excess, odScores__lowest_excess, .func (PySem.W.fnOf "lowest_excess" "Scores.lowest_excess" (defArgs sScores__lowest_excess) (defBody sScores__lowest_excess) (defScope sScores__lowest_excess) .none kVScores__lowest_excess dcScores__lowest_excess pmScores__lowest_excess anScores__lowest_excess cdScores__lowest_excess ctScores__lowest_excess), slScores__lowest_excess⟩)
    (cScores__lowest_excess : PySem.W.codeIn K cdScores__lowest_excess "Scores.lowest_excess" = true)
    (kScores__lowest_excess : PySem.W.keepIn K (.ref fScores__lowest_excess) = true)
    {fScores__pairs : Addr}
    (mfScores__pairs : PySem.W.findIn K (.ref AScores) "pairs" = some (some (.ref fScores__pairs)))
    (mnScores__pairs : PySem.W.isFn K (.ref fScores__pairs) = true)
    {ocScores__pairs : Value} {odScores__pairs anScores__pairs : Option Addr} {slScores__pairs : Array (Option Value)} {kVScores__pairs dcScores__pairs pmScores__pairs cdScores__pairs ctScores__pairs : Value}
    (lScores__pairs : K.lookup fScores__pairs = some ⟨ocScores__pairs, odScores__pairs, .func (PySem.W.fnOf "pairs" "Scores.pairs" (defArgs sScores__pairs) (defBody sScores__pairs) (defScope sScores__pairs) .none kVScores__pairs dcScores__pairs pmScores__pairs anScores__pairs cdScores__pairs ctScores__pairs), slScores__pairs⟩)
    (cScores__pairs : PySem.W.codeIn K cdScores__pairs "Scores.pairs" = true)
    (kScores__pairs : PySem.W.keepIn K (.ref fScores__pairs) = true)
    {fScores__score_of : Addr}
    (mfScores__score_of : PySem.W.findIn K (.ref AScores) "score_of" = some (some (.ref fScores__score_of)))
    (mnScores__score_of : PySem.W.isFn K (.ref fScores__score_of) = true)
    {ocScores__score_of : Value} {odScores__score_of anScores__score_of : Option Addr} {slScores__score_of : Array (Option Value)} {kVScores__score_of dcScores__score_of pmScores__score_of cdScores__score_of ctScores__score_of : Value}
    (lScores__score_of : K.lookup fScores__score_of = some ⟨ocScores__score_of, odScores__score_of, .func (PySem.W.fnOf "score_of" "Scores.score_of" (defArgs sScores__score_of) (defBody sScores__score_of) (defScope sScores__score_of) .none kVScores__score_of dcScores__score_of pmScores__score_of anScores__score_of cdScores__score_of ctScores__score_of), slScores__score_of⟩)
    (cScores__score_of : PySem.W.codeIn K cdScores__score_of "Scores.score_of" = true)
    (kScores__score_of : PySem.W.keepIn K (.ref fScores__score_of) = true)
    (bgScores__score_of : PySem.W.specialIn K (.ref fScores__score_of) "__get__" = some (some (.builtin "function.__get__")))
    (btScores__score_of : PySem.W.takesIn K (.ref fScores__score_of) = some false)
    (bfScores__score_of : PySem.W.fnIn K fScores__score_of = true)
    {fScores__threads : Addr}
    (mfScores__threads : PySem.W.findIn K (.ref AScores) "threads" = some (some (.ref fScores__threads)))
    (mnScores__threads : PySem.W.isFn K (.ref fScores__threads) = true)
    {ocScores__threads : Value} {odScores__threads anScores__threads : Option Addr} {slScores__threads : Array (Option Value)} {kVScores__threads dcScores__threads pmScores__threads cdScores__threads ctScores__threads : Value}
    (lScores__threads : K.lookup fScores__threads = some ⟨ocScores__threads, odScores__threads, .func (PySem.W.fnOf "threads" "Scores.threads" (defArgs sScores__threads) (defBody sScores__threads) (defScope sScores__threads) .none kVScores__threads dcScores__threads pmScores__threads anScores__threads cdScores__threads ctScores__threads), slScores__threads⟩)
    (cScores__threads : PySem.W.codeIn K cdScores__threads "Scores.threads" = true)
    (kScores__threads : PySem.W.keepIn K (.ref fScores__threads) = true)
    {fScores__violation : Addr}
    (mfScores__violation : PySem.W.findIn K (.ref AScores) "violation" = some (some (.ref fScores__violation)))
    (mnScores__violation : PySem.W.isFn K (.ref fScores__violation) = true)
    {ocScores__violation : Value} {odScores__violation anScores__violation : Option Addr} {slScores__violation : Array (Option Value)} {kVScores__violation dcScores__violation pmScores__violation cdScores__violation ctScores__violation : Value}
    (lScores__violation : K.lookup fScores__violation = some ⟨ocScores__violation, odScores__violation, .func (PySem.W.fnOf "violation" "Scores.violation" (defArgs sScores__violation) (defBody sScores__violation) (defScope sScores__violation) .none kVScores__violation dcScores__violation pmScores__violation anScores__violation cdScores__violation ctScores__violation), slScores__violation⟩)
    (cScores__violation : PySem.W.codeIn K cdScores__violation "Scores.violation" = true)
    (kScores__violation : PySem.W.keepIn K (.ref fScores__violation) = true)
    {f_law_box : Addr} {oc_law_box : Value} {od_law_box an_law_box : Option Addr} {sl_law_box : Array (Option Value)} {kV_law_box dc_law_box pm_law_box cd_law_box ct_law_box : Value}
    (a_law_box : PySem.W.nsIn K mainGlobals "_law_box" = some (some (.ref f_law_box)))
    (l_law_box : K.lookup f_law_box = some ⟨oc_law_box, od_law_box, .func (PySem.W.fnOf "_law_box" "_law_box" (defArgs s_law_box) (defBody s_law_box) (defScope s_law_box) .none kV_law_box dc_law_box pm_law_box an_law_box cd_law_box ct_law_box), sl_law_box⟩)
    (c_law_box : PySem.W.codeIn K cd_law_box "_law_box" = true)
    (k_law_box : PySem.W.keepIn K (.ref f_law_box) = true)
    {f_law_cell : Addr} {oc_law_cell : Value} {od_law_cell an_law_cell : Option Addr} {sl_law_cell : Array (Option Value)} {kV_law_cell dc_law_cell pm_law_cell cd_law_cell ct_law_cell : Value}
    (a_law_cell : PySem.W.nsIn K mainGlobals "_law_cell" = some (some (.ref f_law_cell)))
    (l_law_cell : K.lookup f_law_cell = some ⟨oc_law_cell, od_law_cell, .func (PySem.W.fnOf "_law_cell" "_law_cell" (defArgs s_law_cell) (defBody s_law_cell) (defScope s_law_cell) .none kV_law_cell dc_law_cell pm_law_cell an_law_cell cd_law_cell ct_law_cell), sl_law_cell⟩)
    (c_law_cell : PySem.W.codeIn K cd_law_cell "_law_cell" = true)
    (k_law_cell : PySem.W.keepIn K (.ref f_law_cell) = true)
    {f_law_take : Addr} {oc_law_take : Value} {od_law_take an_law_take : Option Addr} {sl_law_take : Array (Option Value)} {kV_law_take dc_law_take pm_law_take cd_law_take ct_law_take : Value}
    (a_law_take : PySem.W.nsIn K mainGlobals "_law_take" = some (some (.ref f_law_take)))
    (l_law_take : K.lookup f_law_take = some ⟨oc_law_take, od_law_take, .func (PySem.W.fnOf "_law_take" "_law_take" (defArgs s_law_take) (defBody s_law_take) (defScope s_law_take) .none kV_law_take dc_law_take pm_law_take an_law_take cd_law_take ct_law_take), sl_law_take⟩)
    (c_law_take : PySem.W.codeIn K cd_law_take "_law_take" = true)
    (k_law_take : PySem.W.keepIn K (.ref f_law_take) = true)
    {f_law_far : Addr} {oc_law_far : Value} {od_law_far an_law_far : Option Addr} {sl_law_far : Array (Option Value)} {kV_law_far dc_law_far pm_law_far cd_law_far ct_law_far : Value}
    (a_law_far : PySem.W.nsIn K mainGlobals "_law_far" = some (some (.ref f_law_far)))
    (l_law_far : K.lookup f_law_far = some ⟨oc_law_far, od_law_far, .func (PySem.W.fnOf "_law_far" "_law_far" (defArgs s_law_far) (defBody s_law_far) (defScope s_law_far) .none kV_law_far dc_law_far pm_law_far an_law_far cd_law_far ct_law_far), sl_law_far⟩)
    (c_law_far : PySem.W.codeIn K cd_law_far "_law_far" = true)
    (k_law_far : PySem.W.keepIn K (.ref f_law_far) = true)
    {f_law_lists : Addr} {oc_law_lists : Value} {od_law_lists an_law_lists : Option Addr} {sl_law_lists : Array (Option Value)} {kV_law_lists dc_law_lists pm_law_lists cd_law_lists ct_law_lists : Value}
    (a_law_lists : PySem.W.nsIn K mainGlobals "_law_lists" = some (some (.ref f_law_lists)))
    (l_law_lists : K.lookup f_law_lists = some ⟨oc_law_lists, od_law_lists, .func (PySem.W.fnOf "_law_lists" "_law_lists" (defArgs s_law_lists) (defBody s_law_lists) (defScope s_law_lists) .none kV_law_lists dc_law_lists pm_law_lists an_law_lists cd_law_lists ct_law_lists), sl_law_lists⟩)
    (c_law_lists : PySem.W.codeIn K cd_law_lists "_law_lists" = true)
    (k_law_lists : PySem.W.keepIn K (.ref f_law_lists) = true)
    {f_law_rows : Addr} {oc_law_rows : Value} {od_law_rows an_law_rows : Option Addr} {sl_law_rows : Array (Option Value)} {kV_law_rows dc_law_rows pm_law_rows cd_law_rows ct_law_rows : Value}
    (a_law_rows : PySem.W.nsIn K mainGlobals "_law_rows" = some (some (.ref f_law_rows)))
    (l_law_rows : K.lookup f_law_rows = some ⟨oc_law_rows, od_law_rows, .func (PySem.W.fnOf "_law_rows" "_law_rows" (defArgs s_law_rows) (defBody s_law_rows) (defScope s_law_rows) .none kV_law_rows dc_law_rows pm_law_rows an_law_rows cd_law_rows ct_law_rows), sl_law_rows⟩)
    (c_law_rows : PySem.W.codeIn K cd_law_rows "_law_rows" = true)
    (k_law_rows : PySem.W.keepIn K (.ref f_law_rows) = true)
    {f_law_drawn : Addr} {oc_law_drawn : Value} {od_law_drawn an_law_drawn : Option Addr} {sl_law_drawn : Array (Option Value)} {kV_law_drawn dc_law_drawn pm_law_drawn cd_law_drawn ct_law_drawn : Value}
    (a_law_drawn : PySem.W.nsIn K mainGlobals "_law_drawn" = some (some (.ref f_law_drawn)))
    (l_law_drawn : K.lookup f_law_drawn = some ⟨oc_law_drawn, od_law_drawn, .func (PySem.W.fnOf "_law_drawn" "_law_drawn" (defArgs s_law_drawn) (defBody s_law_drawn) (defScope s_law_drawn) .none kV_law_drawn dc_law_drawn pm_law_drawn an_law_drawn cd_law_drawn ct_law_drawn), sl_law_drawn⟩)
    (c_law_drawn : PySem.W.codeIn K cd_law_drawn "_law_drawn" = true)
    (k_law_drawn : PySem.W.keepIn K (.ref f_law_drawn) = true)
    {fis_sequence : Addr} {ocis_sequence : Value} {odis_sequence anis_sequence : Option Addr} {slis_sequence : Array (Option Value)} {kVis_sequence dcis_sequence pmis_sequence cdis_sequence ctis_sequence : Value}
    (ais_sequence : PySem.W.nsIn K mainGlobals "is_sequence" = some (some (.ref fis_sequence)))
    (lis_sequence : K.lookup fis_sequence = some ⟨ocis_sequence, odis_sequence, .func (PySem.W.fnOf "is_sequence" "is_sequence" (defArgs sis_sequence) (defBody sis_sequence) (defScope sis_sequence) .none kVis_sequence dcis_sequence pmis_sequence anis_sequence cdis_sequence ctis_sequence), slis_sequence⟩)
    (cis_sequence : PySem.W.codeIn K cdis_sequence "is_sequence" = true)
    (kis_sequence : PySem.W.keepIn K (.ref fis_sequence) = true)
    {fneed_integers : Addr} {ocneed_integers : Value} {odneed_integers anneed_integers : Option Addr} {slneed_integers : Array (Option Value)} {kVneed_integers dcneed_integers pmneed_integers cdneed_integers ctneed_integers : Value}
    (aneed_integers : PySem.W.nsIn K mainGlobals "need_integers" = some (some (.ref fneed_integers)))
    (lneed_integers : K.lookup fneed_integers = some ⟨ocneed_integers, odneed_integers, .func (PySem.W.fnOf "need_integers" "need_integers" (defArgs sneed_integers) (defBody sneed_integers) (defScope sneed_integers) .none kVneed_integers dcneed_integers pmneed_integers anneed_integers cdneed_integers ctneed_integers), slneed_integers⟩)
    (cneed_integers : PySem.W.codeIn K cdneed_integers "need_integers" = true)
    (kneed_integers : PySem.W.keepIn K (.ref fneed_integers) = true)
    {fis_integer : Addr} {ocis_integer : Value} {odis_integer anis_integer : Option Addr} {slis_integer : Array (Option Value)} {kVis_integer dcis_integer pmis_integer cdis_integer ctis_integer : Value}
    (ais_integer : PySem.W.nsIn K mainGlobals "is_integer" = some (some (.ref fis_integer)))
    (lis_integer : K.lookup fis_integer = some ⟨ocis_integer, odis_integer, .func (PySem.W.fnOf "is_integer" "is_integer" (defArgs sis_integer) (defBody sis_integer) (defScope sis_integer) .none kVis_integer dcis_integer pmis_integer anis_integer cdis_integer ctis_integer), slis_integer⟩)
    (cis_integer : PySem.W.codeIn K cdis_integer "is_integer" = true)
    (kis_integer : PySem.W.keepIn K (.ref fis_integer) = true)
    {fneed_range : Addr} {ocneed_range : Value} {odneed_range anneed_range : Option Addr} {slneed_range : Array (Option Value)} {kVneed_range dcneed_range pmneed_range cdneed_range ctneed_range : Value}
    (aneed_range : PySem.W.nsIn K mainGlobals "need_range" = some (some (.ref fneed_range)))
    (lneed_range : K.lookup fneed_range = some ⟨ocneed_range, odneed_range, .func (PySem.W.fnOf "need_range" "need_range" (defArgs sneed_range) (defBody sneed_range) (defScope sneed_range) .none kVneed_range dcneed_range pmneed_range anneed_range cdneed_range ctneed_range), slneed_range⟩)
    (cneed_range : PySem.W.codeIn K cdneed_range "need_range" = true)
    (kneed_range : PySem.W.keepIn K (.ref fneed_range) = true)
    {f_law_fits : Addr} {oc_law_fits : Value} {od_law_fits an_law_fits : Option Addr} {sl_law_fits : Array (Option Value)} {kV_law_fits dc_law_fits pm_law_fits cd_law_fits ct_law_fits : Value}
    (a_law_fits : PySem.W.nsIn K mainGlobals "_law_fits" = some (some (.ref f_law_fits)))
    (l_law_fits : K.lookup f_law_fits = some ⟨oc_law_fits, od_law_fits, .func (PySem.W.fnOf "_law_fits" "_law_fits" (defArgs s_law_fits) (defBody s_law_fits) (defScope s_law_fits) .none kV_law_fits dc_law_fits pm_law_fits an_law_fits cd_law_fits ct_law_fits), sl_law_fits⟩)
    (c_law_fits : PySem.W.codeIn K cd_law_fits "_law_fits" = true)
    (k_law_fits : PySem.W.keepIn K (.ref f_law_fits) = true)
    {f_law_lowest : Addr} {oc_law_lowest : Value} {od_law_lowest an_law_lowest : Option Addr} {sl_law_lowest : Array (Option Value)} {kV_law_lowest dc_law_lowest pm_law_lowest cd_law_lowest ct_law_lowest : Value}
    (a_law_lowest : PySem.W.nsIn K mainGlobals "_law_lowest" = some (some (.ref f_law_lowest)))
    (l_law_lowest : K.lookup f_law_lowest = some ⟨oc_law_lowest, od_law_lowest, .func (PySem.W.fnOf "_law_lowest" "_law_lowest" (defArgs s_law_lowest) (defBody s_law_lowest) (defScope s_law_lowest) .none kV_law_lowest dc_law_lowest pm_law_lowest an_law_lowest cd_law_lowest ct_law_lowest), sl_law_lowest⟩)
    (c_law_lowest : PySem.W.codeIn K cd_law_lowest "_law_lowest" = true)
    (k_law_lowest : PySem.W.keepIn K (.ref f_law_lowest) = true)
    {f_law_due : Addr} {oc_law_due : Value} {od_law_due an_law_due : Option Addr} {sl_law_due : Array (Option Value)} {kV_law_due dc_law_due pm_law_due cd_law_due ct_law_due : Value}
    (a_law_due : PySem.W.nsIn K mainGlobals "_law_due" = some (some (.ref f_law_due)))
    (l_law_due : K.lookup f_law_due = some ⟨oc_law_due, od_law_due, .func (PySem.W.fnOf "_law_due" "_law_due" (defArgs s_law_due) (defBody s_law_due) (defScope s_law_due) .none kV_law_due dc_law_due pm_law_due an_law_due cd_law_due ct_law_due), sl_law_due⟩)
    (c_law_due : PySem.W.codeIn K cd_law_due "_law_due" = true)
    (k_law_due : PySem.W.keepIn K (.ref f_law_due) = true)
    {flaw : Addr} {oclaw : Value} {odlaw anlaw : Option Addr} {sllaw : Array (Option Value)} {kVlaw dclaw pmlaw cdlaw ctlaw : Value}
    (alaw : PySem.W.nsIn K mainGlobals "law" = some (some (.ref flaw)))
    (llaw : K.lookup flaw = some ⟨oclaw, odlaw, .func (PySem.W.fnOf "law" "law" (defArgs slaw) (defBody slaw) (defScope slaw) .none kVlaw dclaw pmlaw anlaw cdlaw ctlaw), sllaw⟩)
    (claw : PySem.W.codeIn K cdlaw "law" = true)
    (klaw : PySem.W.keepIn K (.ref flaw) = true) :
    ∃ fd : FuncData, (∀ (s : Shared) (u : Value), BindsTo s fd ⟨[u], []⟩ [("_law_script", u)]) ∧ ∀ base : Heap, K.In base → base.Ns mainGlobals mg → (∀ p ∈ allL, GxR.TabB base mg p.1 p.2) → GFn P w K mg base 8 fa fd ["_law_script"] glaw := by
  have T : Txt P K mg := ⟨PySem.W.mg_none_of X G z_all,
   PySem.W.mg_none_of X G z_bool,
   PySem.W.mg_none_of X G z_enumerate,
   PySem.W.mg_none_of X G z_int,
   PySem.W.mg_none_of X G z_isinstance,
   PySem.W.mg_none_of X G z_len,
   PySem.W.mg_none_of X G z_list,
   PySem.W.mg_none_of X G z_max,
   PySem.W.mg_none_of X G z_min,
   PySem.W.mg_none_of X G z_range,
   PySem.W.mg_none_of X G z_repr,
   PySem.W.mg_none_of X G z_sorted,
   PySem.W.mg_none_of X G z_str,
   PySem.W.mg_none_of X G z_sum,
   PySem.W.mg_none_of X G z_tuple,
   PySem.W.mg_none_of X G z_zip,
   isc_tup (PySem.W.mg_of X G a_KINDS) l_KINDS (Nat.le_of_ble_eq_true rfl) (.cons (.str _ _) (.cons (.str _ _) (.nil))),
   isc_int (PySem.W.mg_of X G a_MOST_THREADS),
   fun _ _ h => PySem.W.mg_of X G h,
   ⟨PySem.W.mg_none_of X G z_super, z_third⟩,
   ⟨⟨CInvalidScores, fIInvalidScores, xaInvalidScores, ⟨_, _, _, _, bmInvalidScores, _, _, _, _, _, _, _, _, _, _, _, _, _, _, PySem.Mxe.xb_ValueError, xcInvalidScores, xtInvalidScores, xsInvalidScores, xbInvalidScores⟩, xiInvalidScores, xyInvalidScores, ⟨ccInvalidScores, cdaInvalidScores, _, _, _, _, _, _, _, _, _, _, _, _, _, _, _, _, _, _, _, _, _, _, _, vsInvalidScores, _, ⟨rfl, rfl, rfl, by decide +kernel, rfl, rfl, rfl, rfl, by decide, by decide, z_top, ⟨_, _, _, _, _, _, _, _, _, _, _, rfl, rfl⟩⟩, xlInvalidScores, xoInvalidScores, xdInvalidScores, xvInvalidScores, xfInvalidScores, xeInvalidScores, rfl, rfl, fun _ _ _ => .of_eq rfl⟩, xmInvalidScores, xpInvalidScores, xnInvalidScores, xqInvalidScores, xrInvalidScores, xkInvalidScores, xgInvalidScores, xhInvalidScores, xjInvalidScores⟩⟩,
   ⟨⟨CWrongTotal, fIWrongTotal, xaWrongTotal, ⟨_, _, _, _, bmWrongTotal, _, _, _, _, _, _, _, _, _, _, _, _, _, _, PySem.Mxe.xb_ValueError, xcWrongTotal, xtWrongTotal, xsWrongTotal, xbWrongTotal⟩, xiWrongTotal, xyWrongTotal, ⟨ccWrongTotal, cdaWrongTotal, _, _, _, _, _, _, _, _, _, _, _, _, _, _, _, _, _, _, _, _, _, _, _, vsWrongTotal, _, ⟨rfl, rfl, rfl, by decide +kernel, rfl, rfl, rfl, rfl, by decide, by decide, z_top, ⟨_, _, _, _, _, _, _, _, _, _, _, rfl, rfl⟩⟩, xlWrongTotal, xoWrongTotal, xdWrongTotal, xvWrongTotal, xfWrongTotal, xeWrongTotal, rfl, rfl, fun _ _ _ => .of_eq rfl⟩, xmWrongTotal, xpWrongTotal, xnWrongTotal, xqWrongTotal, xrWrongTotal, xkWrongTotal, xgWrongTotal, xhWrongTotal, xjWrongTotal⟩⟩,
   ⟨AScores, .inl caScores, ⟨cpScores, cdScores, coScores, csScores⟩, fn_Scores_kept_scores⟩,
   ⟨AScores, fScores____init__, caScores, ⟨kiScores, kfScores, knScores, kkScores⟩, ⟨_, fun_mk (st := sScores____init__) lScores____init__ cScores____init__ kScores____init__, (fun_mk (st := sScores____init__) lScores____init__ cScores____init__ kScores____init__).binds fun _ _ _ _ _ _ us hl => match us, hl with | [_, _, _], _ => rfl⟩⟩,
   ⟨AScores, fScores__is_feasible, .inl caScores, ⟨cpScores, cdScores, coScores, csScores⟩, ⟨mfScores__is_feasible, mnScores__is_feasible, kScores__is_feasible⟩, ⟨_, fun_mk (st := sScores__is_feasible) lScores__is_feasible cScores__is_feasible kScores__is_feasible, (fun_mk (st := sScores__is_feasible) lScores__is_feasible cScores__is_feasible kScores__is_feasible).binds fun _ _ _ _ _ _ us hl => match us, hl with | [_], _ => rfl⟩⟩,
   ⟨AScores, fScores__lowest, .inl caScores, ⟨cpScores, cdScores, coScores, csScores⟩, ⟨mfScores__lowest, mnScores__lowest, kScores__lowest⟩, ⟨_, fun_mk (st := sScores__lowest) lScores__lowest cScores__lowest kScores__lowest, (fun_mk (st := sScores__lowest) lScores__lowest cScores__lowest kScores__lowest).binds fun _ _ _ _ _ _ us hl => match us, hl with | [_, _, _], _ => rfl⟩⟩,
   ⟨AScores, fScores__lowest_excess, .inl caScores, ⟨cpScores, cdScores, coScores, csScores⟩, ⟨mfScores__lowest_excess, mnScores__lowest_excess, kScores__lowest_excess⟩, ⟨_, fun_mk (st := sScores__lowest_excess) lScores__lowest_excess cScores__lowest_excess kScores__lowest_excess, (fun_mk (st := sScores__lowest_excess) lScores__lowest_excess cScores__lowest_excess kScores__lowest_excess).binds fun _ _ _ _ _ _ us hl => match us, hl with | [_, _, _], _ => rfl⟩⟩,
   ⟨AScores, fScores__pairs, .inl caScores, ⟨cpScores, cdScores, coScores, csScores⟩, ⟨mfScores__pairs, mnScores__pairs, kScores__pairs⟩, ⟨_, fun_mk (st := sScores__pairs) lScores__pairs cScores__pairs kScores__pairs, (fun_mk (st := sScores__pairs) lScores__pairs cScores__pairs kScores__pairs).binds fun _ _ _ _ _ _ us hl => match us, hl with | [_], _ => rfl⟩⟩,
   ⟨AScores, fScores__score_of, .inl caScores, ⟨cpScores, cdScores, coScores, csScores⟩, ⟨mfScores__score_of, mnScores__score_of, kScores__score_of⟩, ⟨_, fun_mk (st := sScores__score_of) lScores__score_of cScores__score_of kScores__score_of, (fun_mk (st := sScores__score_of) lScores__score_of cScores__score_of kScores__score_of).binds fun _ _ _ _ _ _ us hl => match us, hl with | [_, _], _ => rfl⟩⟩,
   ⟨AScores, fScores__score_of, .inl caScores, ⟨cpScores, cdScores, coScores, csScores⟩, ⟨⟨mfScores__score_of, mnScores__score_of, kScores__score_of⟩, bgScores__score_of, btScores__score_of, by decide +kernel, bfScores__score_of⟩, ⟨_, fun_mk (st := sScores__score_of) lScores__score_of cScores__score_of kScores__score_of, (fun_mk (st := sScores__score_of) lScores__score_of cScores__score_of kScores__score_of).binds fun _ _ _ _ _ _ us hl => match us, hl with | [_, _], _ => rfl⟩⟩,
   ⟨AScores, fScores__threads, .inl caScores, ⟨cpScores, cdScores, coScores, csScores⟩, ⟨mfScores__threads, mnScores__threads, kScores__threads⟩, ⟨_, fun_mk (st := sScores__threads) lScores__threads cScores__threads kScores__threads, (fun_mk (st := sScores__threads) lScores__threads cScores__threads kScores__threads).binds fun _ _ _ _ _ _ us hl => match us, hl with | [_], _ => rfl⟩⟩,
   ⟨AScores, fScores__violation, .inl caScores, ⟨cpScores, cdScores, coScores, csScores⟩, ⟨mfScores__violation, mnScores__violation, kScores__violation⟩, ⟨_, fun_mk (st := sScores__violation) lScores__violation cScores__violation kScores__violation, (fun_mk (st := sScores__violation) lScores__violation cScores__violation kScores__violation).binds fun _ _ _ _ _ _ us hl => match us, hl with | [_], _ => rfl⟩⟩,
   ⟨f_law_box, _, PySem.W.mg_of X G a_law_box, fun_mk (st := s_law_box) l_law_box c_law_box k_law_box, (fun_mk (st := s_law_box) l_law_box c_law_box k_law_box).binds fun _ _ _ _ _ _ us hl => match us, hl with | [_], _ => rfl⟩,
   ⟨f_law_cell, _, PySem.W.mg_of X G a_law_cell, fun_mk (st := s_law_cell) l_law_cell c_law_cell k_law_cell, (fun_mk (st := s_law_cell) l_law_cell c_law_cell k_law_cell).binds fun _ _ _ _ _ _ us hl => match us, hl with | [_, _], _ => rfl⟩,
   ⟨f_law_take, _, PySem.W.mg_of X G a_law_take, fun_mk (st := s_law_take) l_law_take c_law_take k_law_take, (fun_mk (st := s_law_take) l_law_take c_law_take k_law_take).binds fun _ _ _ _ _ _ us hl => match us, hl with | [_, _], _ => rfl⟩,
   ⟨f_law_far, _, PySem.W.mg_of X G a_law_far, fun_mk (st := s_law_far) l_law_far c_law_far k_law_far, (fun_mk (st := s_law_far) l_law_far c_law_far k_law_far).binds fun _ _ _ _ _ _ us hl => match us, hl with | [_], _ => rfl⟩,
   ⟨f_law_lists, _, PySem.W.mg_of X G a_law_lists, fun_mk (st := s_law_lists) l_law_lists c_law_lists k_law_lists, (fun_mk (st := s_law_lists) l_law_lists c_law_lists k_law_lists).binds fun _ _ _ _ _ _ us hl => match us, hl with | [_], _ => rfl⟩,
   ⟨f_law_rows, _, PySem.W.mg_of X G a_law_rows, fun_mk (st := s_law_rows) l_law_rows c_law_rows k_law_rows, (fun_mk (st := s_law_rows) l_law_rows c_law_rows k_law_rows).binds fun _ _ _ _ _ _ us hl => match us, hl with | [_], _ => rfl⟩,
   ⟨f_law_drawn, _, PySem.W.mg_of X G a_law_drawn, fun_mk (st := s_law_drawn) l_law_drawn c_law_drawn k_law_drawn, (fun_mk (st := s_law_drawn) l_law_drawn c_law_drawn k_law_drawn).binds fun _ _ _ _ _ _ us hl => match us, hl with | [_], _ => rfl⟩,
   ⟨fis_sequence, _, PySem.W.mg_of X G ais_sequence, fun_mk (st := sis_sequence) lis_sequence cis_sequence kis_sequence, (fun_mk (st := sis_sequence) lis_sequence cis_sequence kis_sequence).binds fun _ _ _ _ _ _ us hl => match us, hl with | [_], _ => rfl⟩,
   ⟨fneed_integers, _, PySem.W.mg_of X G aneed_integers, fun_mk (st := sneed_integers) lneed_integers cneed_integers kneed_integers, (fun_mk (st := sneed_integers) lneed_integers cneed_integers kneed_integers).binds fun _ _ _ _ _ _ us hl => match us, hl with | [_], _ => rfl⟩,
   ⟨fis_integer, _, PySem.W.mg_of X G ais_integer, fun_mk (st := sis_integer) lis_integer cis_integer kis_integer, (fun_mk (st := sis_integer) lis_integer cis_integer kis_integer).binds fun _ _ _ _ _ _ us hl => match us, hl with | [_, _, _], _ => rfl⟩,
   ⟨fneed_range, _, PySem.W.mg_of X G aneed_range, fun_mk (st := sneed_range) lneed_range cneed_range kneed_range, (fun_mk (st := sneed_range) lneed_range cneed_range kneed_range).binds fun _ _ _ _ _ _ us hl => match us, hl with | [_, _], _ => rfl⟩,
   ⟨f_law_fits, _, PySem.W.mg_of X G a_law_fits, fun_mk (st := s_law_fits) l_law_fits c_law_fits k_law_fits, (fun_mk (st := s_law_fits) l_law_fits c_law_fits k_law_fits).binds fun _ _ _ _ _ _ us hl => match us, hl with | [_, _], _ => rfl⟩,
   ⟨f_law_lowest, _, PySem.W.mg_of X G a_law_lowest, fun_mk (st := s_law_lowest) l_law_lowest c_law_lowest k_law_lowest, (fun_mk (st := s_law_lowest) l_law_lowest c_law_lowest k_law_lowest).binds fun _ _ _ _ _ _ us hl => match us, hl with | [_, _, _], _ => rfl⟩,
   ⟨f_law_due, _, PySem.W.mg_of X G a_law_due, fun_mk (st := s_law_due) l_law_due c_law_due k_law_due, (fun_mk (st := s_law_due) l_law_due c_law_due k_law_due).binds fun _ _ _ _ _ _ us hl => match us, hl with | [_], _ => rfl⟩,
   ⟨flaw, _, PySem.W.mg_of X G alaw, fun_mk (st := slaw) llaw claw klaw, (fun_mk (st := slaw) llaw claw klaw).binds fun _ _ _ _ _ _ us hl => match us, hl with | [_], _ => rfl⟩⟩
  cases hmg.symm.trans T.flaw.mgf
  refine ⟨T.flaw.fd, fun s u => ?_, fun base _ _ tb => L2.Lw.klaw ⟨T, tb⟩⟩
  obtain ⟨_, _, _, _, _, _, _, _, _, e, _, _⟩ := T.flaw.F.ex
  rw [e]
  exact .of_eq rfl
end L2.Lw

namespace L2.Lw
open PySem PySem.Spec PyProof.Rows L2 L2.Mi
local macro_rules | `(tactic| walk_at "ok0") => `(tactic| first
  | with_reducible refine os_seq ?_ | with_reducible refine os_set ?_ | with_reducible refine os_ret ?_ | with_reducible refine os_asg ?_ | with_reducible refine os_par ?_ | with_reducible refine os_for ?_
  | with_reducible refine os_expr ?_ | with_reducible refine os_nil ?_ | with_reducible refine os_retn ?_ | with_reducible refine os_brk ?_ | with_reducible refine os_cnt ?_
  | with_reducible refine ok_op ?_ | (with_reducible refine ok_var ?_ ?_; (focus rfl)) | with_reducible refine ok_c ?_ | with_reducible refine ok_un ?_ | with_reducible refine ok_cb ?_ | with_reducible refine ok_anil ?_ | with_reducible refine ok_acons ?_
  | with_reducible refine ok_lst ?_ | with_reducible refine ok_tup ?_ | with_reducible refine ok_lstM ?_ | with_reducible refine ok_dict1 ?_
  | with_reducible refine ok_and ?_ | with_reducible refine ok_or ?_ | with_reducible refine ok_not ?_ | with_reducible refine ok_chain ?_ | with_reducible refine ok_t ?_ | with_reducible refine ok_tnot ?_ | with_reducible refine ok_tand ?_
  | with_reducible refine ok_tor ?_ | with_reducible refine ok_if ?_ | with_reducible refine ok_onone ?_ | with_reducible refine ok_osome ?_ | with_reducible refine ok_slice ?_ | with_reducible refine ok_m1 ?_
  | with_reducible refine ok_bm ?_ | with_reducible refine ok_gs ?_ | with_reducible refine ok_cbd ?_ | with_reducible refine ok_cbk ?_ | with_reducible refine os_ifNm ?_ | with_reducible refine ok_frz ?_ | with_reducible refine ok_itup ?_ | with_reducible refine ok_istr ?_ | with_reducible refine ok_r1 ?_ | with_reducible refine ok_r2 ?_ | with_reducible refine ok_il ?_ | with_reducible refine ok_gn ?_ | with_reducible refine ok_lc ?_
  | refine And.intro (Nat.le_of_ble_eq_true rfl) ?_ | refine Exists.intro _ (And.intro rfl ?_) | refine And.intro (fun _ => ?_) (fun hk => Bool.noConfusion hk) | refine And.intro (fun hk => Bool.noConfusion hk) (fun _ => ?_)
  | ((fail_if_success (with_reducible refine Ok.fun ?_ ?_)); refine ok_ret ?_))
local macro_rules | `(tactic| walk_at "ok1") => `(tactic| first | with_reducible refine os_if ?_ | with_reducible refine os_fcons ?_ | with_reducible refine os_fnil ?_ | walk_at "ok0")
local macro_rules | `(tactic| walk_at "okn") => `(tactic| repeat (walk_at "ok0"))
local macro_rules | `(tactic| walk_at "ok") => `(tactic| repeat (walk_at "ok1"))
local macro_rules | `(tactic| walk_at "nolp") => `(tactic| (fail_if_success (with_reducible refine at_lc ?_); fail_if_success (with_reducible refine at_lcW ?_); fail_if_success (with_reducible refine at_for ?_); fail_if_success (with_reducible refine at_forW ?_); fail_if_success (with_reducible refine at_mul ?_); fail_if_success (with_reducible refine at_mod ?_); fail_if_success (with_reducible refine at_div ?_); fail_if_success (with_reducible refine at_pow ?_)))
local macro_rules | `(tactic| walk_at "ok3") => `(tactic| first
  | with_reducible refine os_seq ?_ | with_reducible refine os_set ?_ | with_reducible refine os_ret ?_ | with_reducible refine os_asg ?_ | with_reducible refine os_par ?_ 
  | with_reducible refine os_expr ?_ | with_reducible refine os_nil ?_ | with_reducible refine os_retn ?_ | with_reducible refine os_brk ?_ | with_reducible refine os_cnt ?_
  | with_reducible refine ok_op ?_ | (with_reducible refine ok_var ?_ ?_; (focus rfl)) | with_reducible refine ok_c ?_ | with_reducible refine ok_un ?_ | with_reducible refine ok_cb ?_ | with_reducible refine ok_anil ?_ | with_reducible refine ok_acons ?_
  | with_reducible refine ok_lst ?_ | with_reducible refine ok_tup ?_ | with_reducible refine ok_lstM ?_ | with_reducible refine ok_dict1 ?_
  | with_reducible refine ok_and ?_ | with_reducible refine ok_or ?_ | with_reducible refine ok_not ?_ | with_reducible refine ok_chain ?_ | with_reducible refine ok_t ?_ | with_reducible refine ok_tnot ?_ | with_reducible refine ok_tand ?_
  | with_reducible refine ok_tor ?_ | with_reducible refine ok_if ?_ | with_reducible refine ok_onone ?_ | with_reducible refine ok_osome ?_ | with_reducible refine ok_slice ?_ | with_reducible refine ok_m1 ?_
  | with_reducible refine ok_bm ?_ | with_reducible refine ok_gs ?_ | with_reducible refine ok_cbd ?_ | with_reducible refine ok_cbk ?_ | with_reducible refine os_ifNm ?_ | with_reducible refine ok_frz ?_ | with_reducible refine ok_gn ?_ 
  | refine And.intro (Nat.le_of_ble_eq_true rfl) ?_ | (walk_at "nolp"; refine Exists.intro _ (And.intro rfl ?_)) | refine And.intro (fun _ => ?_) (fun hk => Bool.noConfusion hk) | refine And.intro (fun hk => Bool.noConfusion hk) (fun _ => ?_)
  | (walk_at "nolp"; (fail_if_success (with_reducible refine Ok.fun ?_ ?_)); refine ok_ret ?_))
local macro_rules | `(tactic| walk_at "okm") => `(tactic| repeat (first | with_reducible refine os_if ?_ | walk_at "ok3"))

theorem ok_eq {α : Type} {r : Mi.R α} {x : α} {c : Cs} (h : Ok r fun d c' => d = x ∧ c' = c) : r = .ok x c := by
  obtain ⟨d, c', e, rfl, rfl⟩ := h
  exact e
structure ElV (x : D) (c : Cs) : Prop where
  ex : ∃ t, tyD x c = some t ∧ (t = "str" → ∃ s, x = .str s ∧ s.length ≤ 5000)
structure SeqV (v : D) (c : Cs) (xs : List D) : Prop where
  sq : seqOf v c = some xs
  ty : tyD v c = some "list" ∨ tyD v c = some "tuple"
  ln : xs.length ≤ 10000
  el : ∀ x ∈ xs, ElV x c
  nr : ∀ ys, v ≠ .ro ys
theorem len_seq {v : D} {c : Cs} {xs : List D} (h : seqOf v c = some xs) : lenD [v] c = .ok (.int xs.length) c := by
  cases v with
  | lst ys => cases h; rfl
  | tup ys => cases h; rfl
  | ro ys => cases h; rfl
  | ref k =>
    have h : (match c[k]? with
      | some (.lst xs) => some xs
      | _ => none) = some xs := h
    cases q : c[k]? with
    | none => rw [q] at h; cases h
    | some y =>
      rw [q] at h
      cases y with
      | lst ys => cases h; simp [lenD, lenC, q]
      | _ => cases h
  | _ => cases h
theorem item_seq {v : D} {c : Cs} {xs : List D} {i : Nat} {x : D} (h : seqOf v c = some xs) (hx : xs[i]? = some x) : itemD v (.int (i : Nat)) c = .ok x c := by
  have hl := (List.getElem?_eq_some_iff.mp hx).1
  have e : ∀ ys : List D, ys = xs → Mi.itL ys (i : Nat) c = .ok x c := fun ys e => by subst e; simp [Mi.itL, atI, ixN, hl, hx]; exact (List.getElem?_eq_some_iff.mp hx).2
  cases v with
  | lst ys => cases h; exact e _ rfl
  | tup ys => cases h; exact e _ rfl
  | ro ys => cases h; exact e _ rfl
  | ref k =>
    have h : (match c[k]? with
      | some (.lst xs) => some xs
      | _ => none) = some xs := h
    cases q : c[k]? with
    | none => rw [q] at h; cases h
    | some y =>
      rw [q] at h
      cases y with
      | lst ys =>
        cases h
        simp only [itemD, q]
        exact e _ rfl
      | _ => cases h
  | _ => cases h
theorem isi_seq {x : D} {c : Cs} {t : String} (h : tyD x c = some t) : isiD [x, .tup [.ty "list", .ty "tuple"]] c = .ok (.bl (t == "list" || t == "tuple")) c := by
  have hm := tyD_mem h
  have e : isiD [x, .tup [.ty "list", .ty "tuple"]] c = .ok (.bl (isiAny t ["list", "tuple"])) c := by simp [isiD, h, clsL, tyNames]
  rw [e]
  simp only [tyNames, List.mem_cons, List.not_mem_nil, or_false] at hm
  rcases hm with rfl | rfl | rfl | rfl | rfl | rfl | rfl <;> rfl
def bitB (k : Nat) : Bool := k == 48 || k == 49
def rowB (n : Int) (d : D) : Bool := match d with
  | .str s => decide ((s.length : Int) = n) && s.cps.toList.all bitB
  | _ => false
theorem bls_map {α : Type} (f : α → Bool) : ∀ xs : List α, blsOf (xs.map fun x => D.bl (f x)) = some (xs.map f)
  | [] => rfl
  | x :: xs => by simp [blsOf, bls_map f xs]
theorem all_bls {α : Type} (f : α → Bool) (xs : List α) (c : Cs) : allD [.lst (xs.map fun x => D.bl (f x))] c = .ok (.bl (xs.all f)) c := by
  have e : allD [.lst (xs.map fun x => D.bl (f x))] c = .ok (.bl ((xs.map f).all id)) c := by simp [allD, on1, allP, bls_map]
  rw [e, List.all_map]
  rfl
theorem filter_yes {α : Type} (xs : List α) : xs.filter (fun _ => true) = xs := List.filter_eq_self.mpr fun _ _ => rfl
def isRows (xs : List D) : Bool := decide (1 ≤ xs.length) && decide (xs.length ≤ 8) && (match xs with
  | .str s :: _ => decide (1 ≤ s.length) && decide (s.length ≤ 8) && xs.all (rowB s.length)
  | _ => false)

theorem is_sequence_eq {v : D} {c : Cs} {t : String} (h : tyD v c = some t) : gis_sequence [v] c = .ok (.bl (t == "list" || t == "tuple")) c := by
  refine ok_eq (Ok.fun rfl ?_)
  unfold cis_sequence
  walk_at "ok"
  refine Ok.of (isi_seq h) ?_
  exact ⟨rfl, rfl⟩
theorem SeqV.tt {v : D} {c : Cs} {xs : List D} (h : SeqV v c xs) : ∃ t, tyD v c = some t ∧ (t == "list" || t == "tuple") = true := by
  rcases h.ty with e | e
  · exact ⟨_, e, rfl⟩
  · exact ⟨_, e, rfl⟩
def flat (ys : List Str) : List Nat := (ys.map fun y => y.cps.toList).flatten
theorem len_cps (s : Str) : s.cps.toList.length = s.length := Array.length_toList
theorem sum_le8 : ∀ ys : List Str, (∀ y ∈ ys, y.length ≤ 8) → (ys.map (·.length)).sum ≤ 8 * ys.length
  | [], _ => by simp
  | y :: ys, h => by
    have a1 := sum_le8 ys fun z hz => h z (List.mem_cons_of_mem _ hz)
    have a2 := h y List.mem_cons_self
    simp only [List.map_cons, List.sum_cons, List.length_cons]
    omega
theorem isRows_mk {y0 : Str} {yr : List Str} (h1 : (y0 :: yr).length ≤ 8) (h2 : ∀ y ∈ y0 :: yr, y.length = y0.length ∧ y.cps.toList.all bitB = true) (h3 : 1 ≤ y0.length) (h4 : y0.length ≤ 8) : isRows ((y0 :: yr).map D.str) = true := by
  have e1 : decide (1 ≤ ((y0 :: yr).map D.str).length) = true := by simp
  have e2 : decide (((y0 :: yr).map D.str).length ≤ 8) = true := decide_eq_true (by rw [List.length_map]; exact h1)
  have e5 : ((y0 :: yr).map D.str).all (rowB y0.length) = true := by
    refine List.all_eq_true.mpr fun x hx => ?_
    obtain ⟨y, hy, rfl⟩ := List.mem_map.mp hx
    obtain ⟨a, b⟩ := h2 y hy
    show (decide ((y.length : Int) = y0.length) && y.cps.toList.all bitB) = true
    rw [b, decide_eq_true (by rw [a])]
    rfl
  show (decide (1 ≤ ((y0 :: yr).map D.str).length) && decide (((y0 :: yr).map D.str).length ≤ 8) && (decide (1 ≤ y0.length) && decide (y0.length ≤ 8) && ((y0 :: yr).map D.str).all (rowB y0.length))) = true
  rw [e1, e2, e5, decide_eq_true h3, decide_eq_true h4]
  rfl

theorem tyD_app {x : D} {c : Cs} {t : String} (h : tyD x c = some t) (y : Cs) : tyD x (c ++ y) = some t := by
  cases x with
  | ref k =>
    simp only [tyD] at h ⊢
    cases q : c[k]? with
    | none => rw [q] at h; cases h
    | some z =>
      rw [List.getElem?_append_left (List.getElem?_eq_some_iff.mp q).1, q]
      rw [q] at h
      exact h
  | _ => exact h
theorem SeqV.app {v : D} {c : Cs} {xs : List D} (h : SeqV v c xs) (y : Cs) : SeqV v (c ++ y) xs := by
  refine ⟨?_, h.ty.imp (tyD_app · y) (tyD_app · y), h.ln, fun x hx => ?_, h.nr⟩
  · have hq := h.sq
    cases v with
    | ref k =>
      simp only [seqOf] at hq ⊢
      cases q : c[k]? with
      | none => rw [q] at hq; cases hq
      | some z =>
        rw [List.getElem?_append_left (List.getElem?_eq_some_iff.mp q).1, q]
        rw [q] at hq
        exact hq
    | _ => exact hq
  · obtain ⟨t, ht, hs⟩ := (h.el x hx).ex
    exact ⟨t, tyD_app ht y, hs⟩
theorem cell_last {c : Cs} (x : Cell) : (c ++ [x])[c.length]? = some x := by rw [List.getElem?_append_right (Nat.le_refl _), Nat.sub_self]; rfl
theorem set_last {c : Cs} (x y : Cell) : (c ++ [x]).set c.length y = c ++ [y] := by
  induction c with
  | nil => rfl
  | cons a c ih => simp [ih]
/-! ### the draws -/
theorem take_big (c : Cs) (k : Nat) (a b z many : Int) (hc : c[k]? = some (.lst [.int a, .int b, .int z])) (ha : 0 < a) (hm : 0 < many) (hm2 : many ≤ 1000000) :
    g_law_take [.ref k, .int many] c = .ok (.int (a.fmod many)) (c.set k (.lst [.int (a.fdiv many), .int b, .int z])) := by
  have h1 : many ≠ 0 := by omega
  have h2 : many.natAbs < 1073741824 := by omega
  simp [g_law_take, mFun, c_law_take, sSeq, sIf, mT, mOp, mVar, mC, itemD, hc, Mi.itL, atI, ixN, gtD, cmpI, ha, sSet, modI, divI, intC, CNz, CDivN, sRet, sAsg, gS, putD, h1, h2]
theorem take_hash (c : Cs) (k : Nat) (a b z many : Int) (hc : c[k]? = some (.lst [.int a, .int b, .int z])) (ha : ¬ 0 < a) (hm : 0 < many) (hm2 : many ≤ 1000000) (hb : 0 ≤ b) (hb2 : b < 2147483629) (hz : 0 ≤ z) (hz2 : z ≤ 1000000) :
    ∃ d : Int, 0 ≤ d ∧ d < many ∧ g_law_take [.ref k, .int many] c = .ok (.int d) (c.set k (.lst [.int a, .int b, .int (z + 1)])) := by
  have h1 : many ≠ 0 := by omega
  have hs : ∀ x, (c.set k x)[k]? = some x := fun x => by rw [List.getElem?_set_self (List.getElem?_eq_some_iff.mp hc).1]
  have h3 : (b + 7907 * (z + 1) + 613).natAbs < 18446744073709551616 := by omega
  refine ⟨(((((b + 7907 * (z + 1) + 613) ^ 5).fmod 2147483647 + 104723 * (z + 1)) ^ 3).fmod 2147483587).fdiv 16 |>.fmod many, Int.fmod_nonneg_of_pos _ hm, Int.fmod_lt_of_pos _ hm, ?_⟩
  have h5 : 0 ≤ ((b + 7907 * (z + 1) + 613) ^ 5).fmod 2147483647 := Int.fmod_nonneg_of_pos _ (by decide)
  have h6 : ((b + 7907 * (z + 1) + 613) ^ 5).fmod 2147483647 < 2147483647 := Int.fmod_lt_of_pos _ (by decide)
  generalize e : ((b + 7907 * (z + 1) + 613) ^ 5).fmod 2147483647 = y at h5 h6 ⊢
  have h4 : (y + 104723 * (z + 1)).natAbs < 18446744073709551616 := by omega
  simp [g_law_take, mFun, c_law_take, sSeq, sIf, mT, mOp, mVar, mC, itemD, hc, Mi.itL, atI, ixN, gtD, cmpI, ha, sSet, modI, divI, intC, CNz, CDivN, sRet, sAsg, gS, putD, h1, addD, mulI, powI, CMul, CPow, h3, h4, e, sNil, hs, -List.getElem?_set_self]
/-- a draw changes the box alone -/
theorem take_ok {c : Cs} {k : Nat} {n many : Int} {Q : D → Cs → Prop} (h : Bx c k n) (hn : n ≤ 1000000) (hm : 0 < many) (hm2 : many ≤ 1000000)
    (q : ∀ (i : Int) (c' : Cs), 0 ≤ i → i < many → Bx c' k (n + 1) → c'.length = c.length → (∀ j, j ≠ k → c'[j]? = c[j]?) → Q (.int i) c') : Ok (g_law_take [.ref k, .int many] c) Q := by
  obtain ⟨a, b, z, hc, ha, hb, hb2, hz, hz2⟩ := h
  have hk := (List.getElem?_eq_some_iff.mp hc).1
  have fin : ∀ x : Cell, (c.set k x).length = c.length ∧ ∀ j, j ≠ k → (c.set k x)[j]? = c[j]? := fun x => ⟨by simp, fun j hj => by rw [List.getElem?_set_ne (Ne.symm hj)]⟩
  by_cases h0 : 0 < a
  · exact ⟨_, _, take_big c k a b z many hc h0 hm hm2, q _ _ (Int.fmod_nonneg_of_pos _ hm) (Int.fmod_lt_of_pos _ hm) ⟨a.fdiv many, b, z, by rw [List.getElem?_set_self hk], by rw [Int.fdiv_eq_ediv_of_nonneg _ (Int.le_of_lt hm)]; exact Int.ediv_nonneg ha (Int.le_of_lt hm), hb, hb2, hz, by omega⟩ (fin _).1 (fin _).2⟩
  · obtain ⟨d, hd, hd2, e⟩ := take_hash c k a b z many hc h0 hm hm2 hb hb2 hz (by omega)
    exact ⟨_, _, e, q _ _ hd hd2 ⟨a, b, z + 1, by rw [List.getElem?_set_self hk], ha, hb, hb2, by omega, by omega⟩ (fin _).1 (fin _).2⟩
theorem bx_mono {c : Cs} {k : Nat} {n n' : Int} (h : Bx c k n) (hn : n ≤ n') : Bx c k n' := by
  obtain ⟨a, b, z, hc, ha, hb, hb2, hz, hz2⟩ := h
  exact ⟨a, b, z, hc, ha, hb, hb2, hz, by omega⟩
theorem cell_ok {ns : List Int} {i : Nat} {c : Cs} {Q : D → Cs → Prop} (hl : ns.length ≤ 63) (hi : i ≤ 1000) (q : ∀ v : Int, Q (.int v) c) : Ok (g_law_cell [.ro (ns.map D.int), .int i] c) Q := by
  refine Ok.fun rfl ?_
  refine os_seq (os_if (ok_t (ok_op (ok_var rfl (ok_cb (ok_acons (ok_var rfl (ok_anil ⟨_, _, rfl, ⟨_, _, rfl, ⟨_, rfl, fun h => ?_, fun h => ?_⟩⟩⟩))))))))
  · refine os_ret (ok_op (ok_var rfl (ok_var rfl ?_)))
    have hi : i < ns.length := by simpa using h
    refine ⟨.int ns[i], c, ?_, q _⟩
    simp [itemD, Mi.itL, atI, ixN, hi]
  · refine os_nil (os_ret (ok_op (ok_op (ok_c (ok_var rfl ?_)))))
    exact ok_intC (Or.inl ⟨by decide, by decide⟩) (ok_c ⟨_, _, rfl, q _⟩)
theorem box_ok {v : Int} {c : Cs} {Q : D → Cs → Prop} (q : ∀ c', Bx c' c.length 0 → c'.length = c.length + 1 → (∀ j, j ≠ c.length → c'[j]? = c[j]?) → Q (.ref c.length) c') : Ok (g_law_box [.int v] c) Q := by
  refine Ok.fun rfl ?_
  refine os_ret (ok_lstM (ok_acons (ok_cb (ok_acons (ok_c (ok_acons (ok_op (ok_var rfl (ok_op (ok_c (ok_c ?_)))) ) ) ) ) ) ) )
  refine ok_intC ⟨by decide, by decide, by decide⟩ ⟨_, _, rfl, ok_anil ⟨_, _, rfl, ok_acons (ok_op (ok_var rfl (ok_c (ok_intC (show (2147483629 : Int) ≠ 0 by decide) (ok_acons (ok_c (ok_anil ⟨Nat.le_of_ble_eq_true rfl, ?_⟩)))))))⟩⟩
  refine q _ ⟨_, _, _, by rw [List.getElem?_append_right (Nat.le_refl _), Nat.sub_self]; rfl, ?_, Int.fmod_nonneg_of_pos _ (by decide), Int.fmod_lt_of_pos _ (by decide), Int.le_refl _, Int.le_refl _⟩ (by simp) fun j hj => ?_
  · dsimp only
    split <;> omega
  · rcases Nat.lt_or_ge j c.length with h | h
    · rw [List.getElem?_append_left h]
    · rw [List.getElem?_eq_none (by simp; omega), List.getElem?_eq_none (by omega)]

def bitS (s : Str) : Prop := s.cps.toList.all bitB = true
def Rows (rs : List D) : Prop := ∃ y0 yr, rs = (y0 :: yr).map D.str ∧ (y0 :: yr).length ≤ 8 ∧ (∀ y ∈ y0 :: yr, y.length = y0.length ∧ bitS y) ∧ 1 ≤ y0.length ∧ y0.length ≤ 8
theorem Rows.is {rs : List D} (h : Rows rs) : isRows rs = true := by
  obtain ⟨y0, yr, rfl, h1, h2, h3, h4⟩ := h
  exact isRows_mk h1 h2 h3 h4
/-- n draws below many -/
theorem draws_ok {l : Ls} {c : Cs} {k j : Nat} {n : Int} {a : ME} {m : Nat} {js : Int} {Q : List D → Cs → Prop} (hm : m ≤ 8) (hn : n ≤ 900000) (hjs : 1 ≤ js ∧ js ≤ 100) (hb : Bx c k n)
    (ha : ∀ (d : D) (c' : Cs) (Q : D → Cs → Prop), Q (.int js) c' → Ok (a ((wipeL l [j]).set j (some d)) c') Q) (hv : ∀ (d : D), ((wipeL l [j]).set j (some d))[0]? = some (some (.ref k)))
    (q : ∀ (zs : List Int) (c' : Cs), zs.length = m → Bx c' k (n + m) → c'.length = c.length → (∀ i, i ≠ k → c'[i]? = c[i]?) → Q (zs.map D.int) c') :
    Ok (compD (gN j) tYesM (mCB g_law_take (aCons (mVar 0) (aCons a (aNil)))) (wipeL l [j]) (rangeL 0 m) [] c) Q := by
  have hz : sizeLine = 16777216 := sizeLine_eq
  refine comp_ok (fun ds acc c' => ∃ zs : List Int, acc = zs.map D.int ∧ zs.length + ds.length = m ∧ Bx c' k (n + zs.length) ∧ c'.length = c.length ∧ ∀ i, i ≠ k → c'[i]? = c[i]?) ?_ ?_ _ _ _ ⟨[], rfl, by simp [rangeL_len], by simpa using hb, rfl, fun _ _ => rfl⟩
  · rintro acc c' ⟨zs, rfl, hl, b, h1, h2⟩
    simp only [List.length_nil, Nat.add_zero] at hl
    exact q zs c' hl (hl ▸ b) h1 h2
  · rintro d ds acc c' ⟨zs, rfl, hl, b, h1, h2⟩
    simp only [List.length_cons] at hl
    refine ok_gn (ok_ret ?_)
    refine ok_cb (ok_acons (ok_var (hv d) (ok_acons (ha d _ _ (ok_anil ?_)))))
    refine take_ok b (by omega) (by omega) (by omega) fun i c2 g0 g1 b2 l2 f2 => ?_
    exact ⟨by simp; omega, zs ++ [i], by simp, by simp; omega, by simpa [Int.add_assoc] using b2, by omega, fun i hi => by rw [f2 i hi, h2 i hi]⟩
theorem item_ints {xs : List Int} {c : Cs} {i : Int} {Q : D → Cs → Prop} (h0 : 0 ≤ i) (h : i < xs.length) (q : ∀ z ∈ xs, Q (.int z) c) : Ok (itemD (.lst (xs.map D.int)) (.int i) c) Q :=
  ok_item_mem h0 (by simpa using h) fun d hd => by
    obtain ⟨z, hz, rfl⟩ := List.mem_map.mp hd
    exact q z hz
theorem str_bit (b : Bool) (c : Cs) : strFD [.int (if b = true then 1 else 0)] c = .ok (.str ⟨#[if b = true then 49 else 48]⟩) c := by
  cases b <;> first | rfl | kernel_rfl
theorem rows_ok {c : Cs} {k : Nat} {n : Int} {Q : D → Cs → Prop} (hb : Bx c k n) (hn : n ≤ 800000)
    (q : ∀ (rs : List D) (c' : Cs), Rows rs → Bx c' k (n + 100) → c.length ≤ c'.length → (∀ j, j ≠ k → j < c.length → c'[j]? = c[j]?) → Q (.lst rs) c') : Ok (g_law_rows [.ref k] c) Q := by
  have hz : sizeLine = 16777216 := sizeLine_eq
  have hk := bx_lt hb
  refine Ok.fun rfl ?_
  unfold c_law_rows
  walk_at "ok"
  refine take_ok hb (by omega) (by decide) (by decide) fun w0 c1 h0 h1 b1 l1 f1 => ?_
  walk_at "ok"
  refine take_ok b1 (by omega) (by decide) (by decide) fun t0 c2 g0 g1 b2 l2 f2 => ?_
  walk_at "ok"
  refine take_ok b2 (by omega) (by decide) (by decide) fun i3 c3 e0 e1 b3 l3 f3 => ?_
  refine item_ints (xs := [1, 2, 3, 5]) e0 e1 fun many hmany => ?_
  have hmany : 1 ≤ many ∧ many ≤ 100 := by
    simp only [List.mem_cons, List.not_mem_nil, or_false] at hmany
    rcases hmany with rfl | rfl | rfl | rfl <;> decide
  walk_at "ok"
  refine ⟨⟨by omega, by omega⟩, ?_⟩
  refine draws_ok (k := k) (j := 10) (js := many) (a := mVar 4) (by omega) (by omega) hmany b3 (fun d c' Q q => ok_var rfl q) (fun d => rfl) fun up c4 hup b4 l4 f4 => ?_
  walk_at "ok"
  refine ⟨⟨by omega, by omega⟩, ?_⟩
  refine draws_ok (k := k) (j := 10) (js := many) (a := mVar 4) (by omega) (by omega) hmany b4 (fun d c' Q q => ok_var rfl q) (fun d => rfl) fun down c5 hdown b5 l5 f5 => ?_
  walk_at "ok"
  refine take_ok b5 (by omega) (by decide) (by decide) fun i6 c6 e0 e1 b6 l6 f6 => ?_
  refine item_ints (xs := [2, 2, 3, 6]) e0 e1 fun bias hbias => ?_
  have hbias : 2 ≤ bias ∧ bias ≤ 100 := by
    simp only [List.mem_cons, List.not_mem_nil, or_false] at hbias
    rcases hbias with rfl | rfl | rfl | rfl <;> decide
  walk_at "ok"
  have hc7 : (c6 ++ [Cell.lst []])[c6.length]? = some (.lst []) := by rw [List.getElem?_append_right (Nat.le_refl _), Nat.sub_self]; rfl
  have b7 := bx_app b6 [Cell.lst []]
  have l7 : (c6 ++ [Cell.lst []]).length = c.length + 1 := by simp; omega
  have f7 : ∀ j, j ≠ k → j < c.length → (c6 ++ [Cell.lst []])[j]? = c[j]? := fun j hj hl => by
    rw [List.getElem?_append_left (by omega), f6 j hj, f5 j hj, f4 j hj, f3 j hj, f2 j hj, f1 j hj]
  have hkr : c6.length = c.length := by omega
  rw [hkr] at hc7 ⊢
  generalize c6 ++ [Cell.lst []] = c7 at hc7 b7 l7 f7 ⊢
  have hup1 : 1 ≤ up.length ∧ up.length ≤ 8 := by omega
  have hdn1 : 1 ≤ down.length ∧ down.length ≤ 8 := by omega
  refine os_forL (ds := down.map D.int) (by simp; omega) rfl ?_
  refine OkS.for (fun ds l c' => (∃ o1 o9 o10 o11 o12, l = [some (.ref k), o1, some (.int (1 + w0)), some (.int (1 + t0)), some (.int many), some (.lst (up.map D.int)), some (.lst (down.map D.int)), some (.int bias), some (.ref c.length), o9, o10, o11, o12]) ∧
    ∃ ys : List Str, c'[c.length]? = some (.lst (ys.map D.str)) ∧ (∀ y ∈ ys, y.length = up.length ∧ bitS y) ∧ ys.length + ds.length = down.length ∧ Bx c' k (n + 20 + 8 * ys.length) ∧ c'.length = c.length + 1 ∧ (∀ j, j ≠ k → j < c.length → c'[j]? = c[j]?) ∧ ∀ d ∈ ds, ∃ z : Int, d = .int z) ?_ ?_ _ _ _
    ⟨⟨_, _, _, _, _, rfl⟩, [], hc7, fun _ h => absurd h List.not_mem_nil, by simp, bx_mono b7 (by simp; omega), l7, f7, fun d hd => by obtain ⟨z, _, rfl⟩ := List.mem_map.mp hd; exact ⟨z, rfl⟩⟩
  · rintro l c' ⟨⟨o1, o9, o10, o11, o12, rfl⟩, ys, hc, hy, hl, hbx, hlen, hf, _⟩
    simp only [List.length_nil, Nat.add_zero] at hl
    walk_at "ok"
    refine ⟨_, _, rfl, hc, ?_⟩
    obtain ⟨y0, yr, rfl⟩ : ∃ y0 yr, ys = y0 :: yr := by
      cases ys with
      | nil => simp at hl; omega
      | cons a b => exact ⟨a, b, rfl⟩
    have h0 := hy y0 List.mem_cons_self
    refine q _ _ ⟨y0, yr, rfl, by omega, fun y hm => ⟨by rw [(hy y hm).1, h0.1], (hy y hm).2⟩, by omega, by omega⟩ ?_ (by simp; omega) fun j hj hl2 => ?_
    · exact bx_mono (bx_set hbx (by omega) _) (by omega)
    · rw [List.getElem?_set_ne (by omega)]
      exact hf j hj hl2
  · rintro d ds l c' ⟨⟨o1, o9, o10, o11, o12, rfl⟩, ys, hc, hy, hl, hbx, hlen, hf, hds⟩
    simp only [List.length_cons] at hl
    obtain ⟨low, rfl⟩ := hds d List.mem_cons_self
    walk_at "ok"
    refine ok_lcL (ds := up.map D.int) (by simp; omega) rfl ?_
    refine comp_ok (fun es acc c2 => ∃ bs : List Bool, acc = bs.map (fun b => D.int (if b = true then 1 else 0)) ∧ bs.length + es.length = up.length ∧ Bx c2 k (n + 20 + 8 * ys.length + bs.length) ∧ c2.length = c'.length ∧ (∀ j, j ≠ k → c2[j]? = c'[j]?) ∧ ∀ d ∈ es, ∃ z : Int, d = .int z) ?_ ?_ _ _ _
      ⟨[], rfl, by simp, by simpa using hbx, rfl, fun _ _ => rfl, fun d hd => by obtain ⟨z, _, rfl⟩ := List.mem_map.mp hd; exact ⟨z, rfl⟩⟩
    · rintro acc c2 ⟨bs, rfl, hbl, bb, bl, bf, _⟩
      simp only [List.length_nil, Nat.add_zero] at hbl
      have hc2 : c2[c.length]? = some (.lst (ys.map D.str)) := by rw [bf _ (by omega)]; exact hc
      walk_at "ok"
      refine ⟨isL_ref hc2, ?_⟩
      walk_at "ok"
      refine Ok.of (lcW_pure (w := fixW (bs.map fun b => D.int (if b = true then 1 else 0))) (xs := bs.map fun b => D.int (if b = true then 1 else 0)) (P := fun _ => true) (F := fun x => match x with | .int i => .str ⟨#[if i = 1 then 49 else 48]⟩ | _ => .non) (lt := fun x => (wipeL [some (D.ref k), some (.int low), some (.int (1 + w0)), some (.int (1 + t0)), some (.int many), some (.lst (up.map D.int)), some (.lst (down.map D.int)), some (.int bias), some (.ref c.length), some (.lst (bs.map fun b => D.int (if b = true then 1 else 0))), o10, o11, o12] [12]).set 12 (some x)) rfl (fun _ => rfl) (by simp; omega) (fun x hx => ⟨rfl, rfl, fun _ => ?_⟩)) ?_
      · obtain ⟨b, _, rfl⟩ := List.mem_map.mp hx
        refine ok_eq (ok_cb (ok_acons (ok_var rfl (ok_anil (Ok.of (str_bit b _) ⟨?_, rfl⟩)))))
        cases b <;> rfl
      · have e : ((bs.map fun b => D.int (if b = true then 1 else 0)).filter fun _ => true).map (fun x => match x with | .int i => D.str ⟨#[if i = 1 then 49 else 48]⟩ | _ => .non) = (bs.map fun b => if b = true then 49 else 48).map fun k => D.str ⟨#[k]⟩ := by
          rw [filter_yes, List.map_map, List.map_map]
          refine List.map_congr_left fun b _ => ?_
          cases b <;> rfl
        rw [e]
        have hjn : joinX (.str "") (.lst ((bs.map fun b => if b = true then 49 else 48).map fun k => D.str ⟨#[k]⟩)) c2 = .ok (.str ⟨(bs.map fun b => if b = true then 49 else 48).toArray⟩) c2 := by
          show joinL "" _ c2 = _
          unfold joinL
          rw [strs_ones]
          have e1 : (((bs.map fun b => if b = true then 49 else 48).map fun k => (⟨#[k]⟩ : Str)).map (·.length)).sum ≤ 8 * bs.length := by
            have := sum_le8 ((bs.map fun b => if b = true then 49 else 48).map fun k => (⟨#[k]⟩ : Str)) fun y hm => by
              obtain ⟨z, _, rfl⟩ := List.mem_map.mp hm
              show 1 ≤ 8
              omega
            simpa using this
          have e0' : ("" : Str).length = 0 := rfl
          refine (if_pos (by rw [e0']; omega)).trans ?_
          rw [join_ones']
        walk_at "ok"
        refine Ok.of hjn ?_
        walk_at "ok"
        refine ok_append hc2 (by rw [List.length_map]; omega) ?_
        refine ⟨⟨_, _, _, _, _, rfl⟩, ys ++ [⟨(bs.map fun b => if b = true then 49 else 48).toArray⟩], by rw [List.getElem?_set_self (by omega)]; simp, fun y hm => ?_, by simp; omega, ?_, by simp; omega, fun j hj hl2 => ?_, fun d hd => hds d (List.mem_cons_of_mem _ hd)⟩
        · rcases List.mem_append.mp hm with hm | hm
          · exact hy y hm
          · simp only [List.mem_singleton] at hm
            subst hm
            refine ⟨?_, ?_⟩
            · show (List.toArray _).size = _
              simp [hbl]
            · show ((List.toArray _).toList).all bitB = true
              rw [List.toList_toArray]
              refine List.all_eq_true.mpr fun z hz2 => ?_
              obtain ⟨b, _, rfl⟩ := List.mem_map.mp hz2
              cases b <;> rfl
        · exact bx_mono (bx_set bb (by omega) _) (by simp; omega)
        · rw [List.getElem?_set_ne (by omega), bf j hj]
          exact hf j hj hl2
    · rintro x es acc c2 ⟨bs, rfl, hbl, bb, bl, bf, hes⟩
      simp only [List.length_cons] at hbl
      obtain ⟨hi, rfl⟩ := hes x List.mem_cons_self
      refine ok_gn (ok_ret ?_)
      walk_at "ok"
      refine ⟨fun qq => ?_, fun qq => ?_⟩
      · walk_at "ok"
        refine ⟨by simp; omega, bs ++ [decide (low < hi)], by simp, by simp; omega, bx_mono bb (by simp; omega), bl, bf, fun d hd => hes d (List.mem_cons_of_mem _ hd)⟩
      · walk_at "ok"
        refine take_ok bb (by omega) (by omega) (by omega) fun i8 c8 g0 g1 b8 l8 f8 => ?_
        walk_at "ok"
        refine ⟨by simp; omega, bs ++ [decide (0 < i8)], by simp, by simp; omega, bx_mono b8 (by simp; omega), by omega, fun j hj => by rw [f8 j hj, bf j hj], fun d hd => hes d (List.mem_cons_of_mem _ hd)⟩

def FRB (d : D) : Bool := match toPyC 17 [] d with
  | some p => bP p && decide (wP p ≤ 20000) && decide (p.depth ≤ 10)
  | none => false
def top0 : D → Bool
  | .non => true
  | .bl _ => true
  | .int _ => true
  | .str _ => true
  | .tup _ => true
  | _ => false
def PV (v : D) (c : Cs) : Prop := (FRB v = true ∧ (top0 v = true ∨ ∃ xs, v = .lst xs ∧ Rows xs)) ∨ (∃ k xs, v = .ref k ∧ c[k]? = some (.lst xs) ∧ xs.length ≤ 100 ∧ ∀ x ∈ xs, FRB x = true) ∨
  ∃ k kvs, v = .ref k ∧ c[k]? = some (.dct kvs) ∧ (kvs = [] ∨ kvs = [(.inr "a", .int 1)])
theorem frb_of {d : D} (h : FRB d = true) : ∃ p, toPyC 17 [] d = some p ∧ bP p = true ∧ wP p ≤ 20000 ∧ p.depth ≤ 10 := by
  unfold FRB at h
  cases q : toPyC 17 [] d with
  | none => rw [q] at h; cases h
  | some p =>
    rw [q] at h
    simp only [Bool.and_eq_true, decide_eq_true_eq] at h
    exact ⟨p, rfl, h.1.1, h.1.2, h.2⟩
theorem PV.app {v : D} {c : Cs} (h : PV v c) (y : Cs) : PV v (c ++ y) := by
  rcases h with h | ⟨k, xs, rfl, hk, r⟩ | ⟨k, kvs, rfl, hk, r⟩
  · exact .inl h
  · exact .inr (.inl ⟨k, xs, rfl, by rw [List.getElem?_append_left (List.getElem?_eq_some_iff.mp hk).1]; exact hk, r⟩)
  · exact .inr (.inr ⟨k, kvs, rfl, by rw [List.getElem?_append_left (List.getElem?_eq_some_iff.mp hk).1]; exact hk, r⟩)
theorem PV.at {v : D} {c c' : Cs} (h : PV v c) (e : ∀ k, v = .ref k → c'[k]? = c[k]?) : PV v c' := by
  rcases h with h | ⟨k, xs, rfl, hk, r⟩ | ⟨k, kvs, rfl, hk, r⟩
  · exact .inl h
  · exact .inr (.inl ⟨k, xs, rfl, by rw [e k rfl]; exact hk, r⟩)
  · exact .inr (.inr ⟨k, kvs, rfl, by rw [e k rfl]; exact hk, r⟩)
theorem PV.lt {v : D} {c : Cs} (h : PV v c) : ∀ j, v = .ref j → j < c.length := fun j e => by
  rcases h with ⟨hf, _⟩ | ⟨k', xs, e', hk, _⟩ | ⟨k', kvs, e', hk, _⟩
  · subst e
    obtain ⟨p, hp, _⟩ := frb_of hf
    cases hp
  · rw [e] at e'; cases e'
    exact (List.getElem?_eq_some_iff.mp hk).1
  · rw [e] at e'; cases e'
    exact (List.getElem?_eq_some_iff.mp hk).1
theorem PV.keep {v : D} {c c' : Cs} {kb : Nat} (h : PV v c) (hv : v ≠ .ref kb) (f : ∀ j, j ≠ kb → j < c.length → c'[j]? = c[j]?) : PV v c' :=
  h.at fun k e => f k (fun ek => hv (by rw [e, ek])) (h.lt k e)
/-! ### values of threads.py -/
theorem ty_ref {k : Nat} {c : Cs} {t : String} (h : tyD (.ref k) c = some t) : t = "list" ∨ t = "dict" := by
  unfold tyD at h
  cases q : c[k]? with
  | none => simp only [q] at h; cases h
  | some x =>
    simp only [q] at h
    cases x with
    | lst xs => cases h; exact .inl rfl
    | dct xs => cases h; exact .inr rfl
    | frz d => cases d <;> first | (cases h; exact .inl rfl) | cases h
    | _ => cases h
def isInt (d : D) (lo hi : Int) : Bool := match d with
  | .int i => decide (lo ≤ i) && decide (i ≤ hi)
  | _ => false
theorem is_integer_eq {d : D} {lo hi : Int} {c : Cs} (h : (tyD d c).isSome = true) : gis_integer [d, .int lo, .int hi] c = .ok (.bl (isInt d lo hi)) c := by
  obtain ⟨t, ht⟩ := Option.isSome_iff_exists.mp h
  have hm := tyD_mem ht
  have e1 : isiD [d, .ty "int"] c = .ok (.bl (isT t "int")) c := by simp [isiD, ht, tyNames]
  have e2 : isiD [d, .ty "bool"] c = .ok (.bl (isT t "bool")) c := by simp [isiD, ht, tyNames]
  have non : isT t "int" = false → isInt d lo hi = false → gis_integer [d, .int lo, .int hi] c = .ok (.bl (isInt d lo hi)) c := fun h1 h2 => by
    rw [h2]
    simp [gis_integer, mFun, cis_integer, sRet, mAnd, mCB, aCons, aNil, mVar, mC, e1, h1]
  cases d with
  | int i =>
    cases ht
    by_cases h1 : lo ≤ i
    · by_cases h2 : i ≤ hi
      · simp [gis_integer, mFun, cis_integer, sRet, mAnd, mNot, mCB, aCons, aNil, mVar, mC, isiD, tyD, isT, tyNames, mChain, leD, isInt, h1, h2]
      · simp [gis_integer, mFun, cis_integer, sRet, mAnd, mNot, mCB, aCons, aNil, mVar, mC, isiD, tyD, isT, tyNames, mChain, leD, isInt, h1, h2]
    · simp [gis_integer, mFun, cis_integer, sRet, mAnd, mNot, mCB, aCons, aNil, mVar, mC, isiD, tyD, isT, tyNames, mChain, leD, isInt, h1]
  | bl b =>
    cases ht
    simp [gis_integer, mFun, cis_integer, sRet, mAnd, mNot, mCB, aCons, aNil, mVar, mC, isiD, tyD, isT, tyNames, isInt]
  | ref k => rcases ty_ref ht with rfl | rfl <;> exact non rfl rfl
  | obj => cases ht
  | adr => cases ht
  | ty => cases ht
  | gh => cases ht
  | _ => cases ht; exact non rfl rfl
/-! ### cloths -/
structure RwS (ys : List Str) (w : Nat) : Prop where
  n1 : 1 ≤ ys.length
  n8 : ys.length ≤ 8
  w1 : 1 ≤ w
  w8 : w ≤ 8
  len : ∀ y ∈ ys, y.length = w
  bit : ∀ y ∈ ys, bitS y
theorem Rows.rws {rs : List D} (h : Rows rs) : ∃ ys w, rs = ys.map D.str ∧ RwS ys w := by
  obtain ⟨y0, yr, e, h1, h2, h3, h4⟩ := h
  exact ⟨y0 :: yr, y0.length, e, by simp, h1, h3, h4, fun y hy => (h2 y hy).1, fun y hy => (h2 y hy).2⟩
theorem RwS.rows {ys : List Str} {w : Nat} (h : RwS ys w) : Rows (ys.map D.str) := by
  cases ys with
  | nil => exact absurd h.n1 (by simp)
  | cons y0 yr =>
    have e := h.len y0 List.mem_cons_self
    exact ⟨y0, yr, rfl, h.n8, fun y hy => ⟨by rw [h.len y hy, e], h.bit y hy⟩, by rw [e]; exact h.w1, by rw [e]; exact h.w8⟩
theorem RwS.is {ys : List Str} {w : Nat} (h : RwS ys w) : isRows (ys.map D.str) = true := h.rows.is
theorem RwS.head {ys : List Str} {w : Nat} (h : RwS ys w) : ∃ y0 yr, ys = y0 :: yr ∧ y0.length = w := by
  cases ys with
  | nil => exact absurd h.n1 (by simp)
  | cons y0 yr => exact ⟨y0, yr, rfl, h.len y0 List.mem_cons_self⟩
def clD (ys : List Str) : List (Str × D) := [("kept_rows", .lst (ys.map D.str))]
def IsCl (x : D) (c : Cs) (ys : List Str) : Prop := insOf x c = some (("Cloth" : Str), clD ys)
theorem IsCl.ext {x : D} {c c' : Cs} {ys : List Str} (h : IsCl x c ys) (p : Pfx c c') : IsCl x c' ys := by
  unfold IsCl at h ⊢
  cases x with
  | ref k =>
    unfold insOf at h ⊢
    cases q : c[k]? with
    | none => simp only [q] at h; cases h
    | some z => simp only [q] at h; simp only [p.get q]; exact h
  | _ => exact h
/-! ### slices -/
def cutL {α : Type} (xs : List α) (lo hi : Option Int) : List α := (xs.drop (HT.sIx xs.length 0 lo)).take (HT.sIx xs.length xs.length hi - HT.sIx xs.length 0 lo)
theorem cutD_map {α : Type} (f : α → D) (ys : List α) (a b : Option Int) : Mi.cutD (ys.map f) a b = (cutL ys a b).map f := by
  unfold Mi.cutD cutL
  rw [List.length_map, List.map_take, List.map_drop]
theorem sIx_pos {n d : Nat} {i : Int} (h : 0 ≤ i) : HT.sIx n d (some i) = min i.toNat n := by
  have := HT.sIx_nat n d i.toNat
  rw [Int.toNat_of_nonneg h] at this
  exact this
theorem cutL_to {α : Type} (xs : List α) {i : Int} (h : 0 ≤ i) : cutL xs none (some i) = xs.take i.toNat := by
  unfold cutL
  rw [sIx_pos h, HT.sIx_none, List.drop_zero, Nat.sub_zero]
  rcases Nat.le_total i.toNat xs.length with q | q
  · rw [Nat.min_eq_left q]
  · rw [Nat.min_eq_right q, List.take_of_length_le q, List.take_of_length_le (Nat.le_refl _)]
theorem cutL_from {α : Type} (xs : List α) {i : Int} (h : 0 ≤ i) : cutL xs (some i) none = xs.drop i.toNat := by
  unfold cutL
  rw [sIx_pos h, HT.sIx_none]
  rcases Nat.le_total i.toNat xs.length with q | q
  · rw [Nat.min_eq_left q, List.take_of_length_le (by simp)]
  · rw [Nat.min_eq_right q, List.drop_of_length_le q, List.drop_of_length_le (Nat.le_refl _)]
    simp
theorem fmod_nat (a b : Nat) : (a : Int).fmod (b : Int) = ((a % b : Nat) : Int) := by
  rw [Int.fmod_eq_emod_of_nonneg _ (by omega)]; rfl
/-- the box may change, else the cells only grow -/
def Gr (kb : Nat) (c c' : Cs) : Prop := c.length ≤ c'.length ∧ ∀ j, j ≠ kb → j < c.length → c'[j]? = c[j]?
theorem Gr.refl (kb : Nat) (c : Cs) : Gr kb c c := ⟨Nat.le_refl _, fun _ _ _ => rfl⟩
theorem Gr.trans {kb : Nat} {a b c : Cs} (h : Gr kb a b) (g : Gr kb b c) : Gr kb a c := ⟨Nat.le_trans h.1 g.1, fun j hj hl => by rw [g.2 j hj (Nat.lt_of_lt_of_le hl h.1), h.2 j hj hl]⟩
theorem Gr.of {kb : Nat} {a b : Cs} (h : Pfx a b) : Gr kb a b := ⟨h.len, fun _ _ hl => h.at hl⟩
theorem Gr.app {kb : Nat} {a b : Cs} (h : Gr kb a b) (x : Cs) : Gr kb a (b ++ x) := h.trans (.of (Pfx.one b x))
theorem Gr.get {kb : Nat} {c c' : Cs} {k : Nat} {x : Cell} (h : Gr kb c c') (hk : k ≠ kb) (e : c[k]? = some x) : c'[k]? = some x := by
  rw [h.2 k hk (List.getElem?_eq_some_iff.mp e).1]
  exact e
theorem Gr.set {kb : Nat} {a b : Cs} (h : Gr kb a b) {k : Nat} (hk : a.length ≤ k) (x : Cell) : Gr kb a (b.set k x) := ⟨by rw [List.length_set]; exact h.1, fun j hj hl => by rw [List.getElem?_set_ne (by omega)]; exact h.2 j hj hl⟩
theorem Gr.take {kb : Nat} {c c' : Cs} (hl : c'.length = c.length) (f : ∀ j, j ≠ kb → c'[j]? = c[j]?) : Gr kb c c' := ⟨by omega, fun j hj _ => f j hj⟩
/-- a draw -/
theorem take_gr {c : Cs} {k : Nat} {n many : Int} {Q : D → Cs → Prop} (h : Bx c k n) (hn : n ≤ 1000000) (hm : 0 < many) (hm2 : many ≤ 1000000)
    (q : ∀ (i : Int) (c' : Cs), 0 ≤ i → i < many → Bx c' k (n + 1) → Gr k c c' → c'.length = c.length → Q (.int i) c') : Ok (g_law_take [.ref k, .int many] c) Q :=
  take_ok h hn hm hm2 fun i c' h0 h1 b l f => q i c' h0 h1 b (.take l f) l

/-! ### turning, in plain lists -/
def tR (j : Nat) (r : List Nat) (ps : List (Nat × Nat)) : List Nat := r.mapIdx fun i k => if (i, j) ∈ ps then exch k else k
theorem tR_len (j : Nat) (r : List Nat) (ps : List (Nat × Nat)) : (tR j r ps).length = r.length := by simp [tR]
def mkS (ks : List Nat) : Str := ⟨ks.toArray⟩
theorem mkS_cps (ks : List Nat) : (mkS ks).cps.toList = ks := by simp [mkS]
theorem exch_bit {k : Nat} (h : bitB k = true) : bitB (exch k) = true ∧ exch k = if k = 49 then 48 else 49 := by
  have : k = 48 ∨ k = 49 := by simpa [bitB] using h
  rcases this with rfl | rfl <;> decide
theorem tR_bits {j : Nat} {r : List Nat} {ps : List (Nat × Nat)} (h : r.all bitB = true) : (tR j r ps).all bitB = true := by
  refine List.all_eq_true.mpr fun k hk => ?_
  obtain ⟨i, hi, e⟩ := List.mem_mapIdx.mp hk
  have hb := List.all_eq_true.mp h r[i] (List.getElem_mem hi)
  rw [← e]
  split
  · exact (exch_bit hb).1
  · exact hb
/-- the rows, turned -/
def tS (ys : List Str) (ps : List (Nat × Nat)) : List Str := ys.mapIdx fun j y => mkS (tR j y.cps.toList ps)
theorem tS_len (ys : List Str) (ps : List (Nat × Nat)) : (tS ys ps).length = ys.length := by simp [tS]
theorem RwS.turn {ys : List Str} {w : Nat} (h : RwS ys w) (ps : List (Nat × Nat)) : RwS (tS ys ps) w := by
  have hm : ∀ z ∈ tS ys ps, ∃ j, ∃ y ∈ ys, z = mkS (tR j y.cps.toList ps) := fun z hz => by
    obtain ⟨j, hj, e⟩ := List.mem_mapIdx.mp hz
    exact ⟨j, ys[j], List.getElem_mem hj, e.symm⟩
  refine ⟨by rw [tS_len]; exact h.n1, by rw [tS_len]; exact h.n8, h.w1, h.w8, fun z hz => ?_, fun z hz => ?_⟩
  · obtain ⟨j, y, hy, rfl⟩ := hm z hz
    rw [← len_cps, mkS_cps, tR_len, len_cps]
    exact h.len y hy
  · obtain ⟨j, y, hy, rfl⟩ := hm z hz
    unfold bitS
    rw [mkS_cps]
    exact tR_bits (h.bit y hy)
/-! ### crossings -/
theorem mapO_map {α : Type} {f : D → Option PyData} {e : α → D} {g : α → PyData} (h : ∀ a, f (e a) = some (g a)) : ∀ xs : List α, mapO f (xs.map e) = some (xs.map g)
  | [] => rfl
  | x :: xs => by
    rw [List.map_cons, List.map_cons]
    unfold mapO
    rw [h, mapO_map h xs]
theorem XS.oks {r : RS} {Q : Fl → Cs → Prop} (h : XS r Q fun _ _ => False) : OkS r Q := by
  cases r with
  | stuck => exact h.elim
  | go f c => exact ⟨_, _, rfl, h⟩
  | exc x l c => exact h.elim
theorem item_str_at {y : Str} {i : Nat} {c : Cs} (hz : y.length ≤ 100) (hi : i < y.cps.toList.length) : itemD (.str y) (.int (i : Nat)) c = .ok (.str ⟨#[y.cps.toList.getD i 0]⟩) c := by
  have hsz : sizeLine = 16777216 := sizeLine_eq
  show fits y.length _ = _
  unfold fits
  rw [if_pos (by omega), atI_nat (List.getElem?_eq_getElem hi), List.getD_eq_getElem?_getD, List.getElem?_eq_getElem hi]
  rfl
theorem seqW_seq {x : D} {c : Cs} {xs : List D} (h : seqOf x c = some xs) : seqW x c = some xs := by
  cases x with
  | ref k =>
    have h : (match c[k]? with
      | some (.lst xs) => some xs
      | _ => none) = some xs := h
    show cellL k c = _
    unfold cellL
    cases q : c[k]? with
    | none => rw [q] at h; cases h
    | some y =>
      rw [q] at h
      cases y with
      | lst ys => exact h
      | _ => cases h
  | lst ys => exact h
  | tup ys => exact h
  | ro ys => exact h
  | _ => cases h
theorem ok_kenumS {t : MA} {l : Ls} {c : Cs} {x : D} {xs : List D} {QW : Wk → Cs → Prop} (h : Ok (t l c) fun ds c1 => ds = [x] ∧ seqOf x c1 = some xs ∧ QW (enumW x) c1) : Ok (kEnum t l c) QW := by
  obtain ⟨ds, c1, e, rfl, h1, q⟩ := h
  refine ⟨enumW x, c1, ?_, q⟩
  show (t l c).bind _ = _
  rw [e]
  show (if (seqW x c1).isSome = true then (.ok (enumW x) c1 : Mi.R Wk) else .stuck) = _
  rw [if_pos (by rw [seqW_seq h1]; rfl)]
theorem enumW_seq {x : D} {c : Cs} {xs : List D} (hx : seqOf x c = some xs) {i : Nat} (hi : i ≤ xs.length) : enumW x i c = some (enumL xs)[i]? := by
  unfold enumW enumL
  rw [seqW_seq hx]
  simp only [List.getElem?_mapIdx]
  cases q1 : xs[i]? with
  | none =>
    have := List.getElem?_eq_none_iff.mp q1
    simp only []
    rw [if_pos (by omega)]
    rfl
  | some a => rfl
def VT (v : D) (c : Cs) : Prop := (∃ xs, SeqV v c xs) ∨ ∃ t, tyD v c = some t ∧ (t == "list" || t == "tuple") = false
theorem non_seq {v : D} {c : Cs} {t : String} (h : tyD v c = some t) (hn : (t == "list" || t == "tuple") = false) : seqOf v c = none := by
  cases v with
  | lst xs => cases h; cases hn
  | tup xs => cases h; cases hn
  | ro xs => cases h; cases hn
  | ref k =>
    simp only [tyD] at h
    simp only [seqOf]
    cases q : c[k]? with
    | none => rfl
    | some y =>
      rw [q] at h
      cases y with
      | lst xs => cases h; cases hn
      | _ => rfl
  | _ => rfl
/-! ### threads -/
abbrev Th := Bool × Nat
def kdS (b : Bool) : Str := if b = true then "weft" else "warp"
def thD (t : Th) : D := .tup [.str (kdS t.1), .int t.2]
def inB2 (w h : Nat) (t : Th) : Prop := t.2 < (if t.1 = true then h else w)
def thP (t : Th) : PyData := .tuple [.str (kdS t.1), .int t.2]
/-! ### threads and who lies over whom -/
theorem nW : ¬ (("warp" : Str) = "weft") := by decide +kernel
theorem th0 (t : Th) (c : Cs) : itemD (thD t) (.int 0) c = .ok (.str (kdS t.1)) c := rfl
theorem eq_kd (a b : Bool) (c : Cs) : eqX (.str (kdS a)) (.str (kdS b)) c = .ok (.bl (a == b)) c := by
  cases a <;> cases b <;> kernel_rfl
section
variable {f g : MS} {a b : ME} {l l2 : Ls} {c c2 : Cs} {x : Ex} {d : D}
theorem sq_nx (h : f l c = .go (.nx l2) c2) : sSeq f g l c = g l2 c2 := by unfold sSeq; rw [h]; rfl
theorem sq_x (h : f l c = .exc x l2 c2) : sSeq f g l c = .exc x l2 c2 := by unfold sSeq; rw [h]; rfl
theorem se_ok (h : a l c = .ok d c2) : sExpr a l c = .go (.nx l) c2 := by unfold sExpr; rw [h]; rfl
theorem ifNm_x {i : Nat} {h : D → D → Cs → Mi.R D} {y : D} (ha : a l c = .ok d c) (hb : b (l.set i (some d)) c = .ok y c) (hh : h d y c = .ok (.bl true) c) (hf : f (l.set i (some d)) c = .exc x l2 c2) : sIfNm i h a b f g l c = .exc x l2 c2 := by
  unfold sIfNm
  rw [ha]
  simp only [Mi.R.seq, hb, hh, hf]
theorem ifNm_n {i : Nat} {h : D → D → Cs → Mi.R D} {y : D} (ha : a l c = .ok d c) (hb : b (l.set i (some d)) c = .ok y c) (hh : h d y c = .ok (.bl false) c) (hf : g (l.set i (some d)) c = .go (.nx l2) c2) : sIfNm i h a b f g l c = .go (.nx l2) c2 := by
  unfold sIfNm
  rw [ha]
  simp only [Mi.R.seq, hb, hh, hf]
end

def isI (d : D) : Bool := match d with | .int _ => true | _ => false
theorem isi_int {x : D} {c : Cs} {t : String} (h : tyD x c = some t) : isiD [x, .ty "int"] c = .ok (.bl (isT t "int")) c := by simp [isiD, h, tyNames]
theorem isi_bool {x : D} {c : Cs} {t : String} (h : tyD x c = some t) : isiD [x, .ty "bool"] c = .ok (.bl (isT t "bool")) c := by simp [isiD, h, tyNames]
theorem isI_ty {x : D} {c : Cs} {t : String} (h : tyD x c = some t) : (isT t "int" && !isT t "bool") = isI x := by
  unfold tyD at h
  split at h <;> first
    | (cases h; rfl)
    | (split at h <;> first | (cases h; rfl) | cases h)
    | cases h
def ilX (xs : List D) : Bool := decide (1 ≤ xs.length) && decide (xs.length ≤ 8) && xs.all isI
def ilB (v : D) (c : Cs) : Bool := match seqOf v c with
  | some xs => ilX xs
  | none => false
theorem VT.app {v : D} {c : Cs} (h : VT v c) (y : Cs) : VT v (c ++ y) := h.imp (fun ⟨xs, h⟩ => ⟨xs, h.app y⟩) fun ⟨t, h, hn⟩ => ⟨t, tyD_app h y, hn⟩
def invS (v : D) : Ex := ⟨"InvalidScores", [("value", v)]⟩
def ilR (v : D) (c : Cs) (b : Bool) : Mi.R D := if b = true then .ok .non c else .exc (invS v) c
theorem need_integers_eq {v : D} {c : Cs} (h : VT v c) : gneed_integers [v] c = ilR v c (ilB v c) := by
  rcases h with ⟨xs, h⟩ | ⟨t, ht, hn⟩
  · obtain ⟨t, ht, htt⟩ := h.tt
    have e : ilB v c = ilX xs := by unfold ilB; rw [h.sq]
    rw [e]
    obtain ⟨w, hw1, hw2⟩ := wAny_seq h.sq
    have hl := h.ln
    have e1 : gis_sequence [v] c = .ok (.bl true) c := by rw [is_sequence_eq ht, htt]
    have e2 := len_seq h.sq
    have e3 : mLcW (kAny (mVar 0)) [1] (gN 1) (tYesM) (mAnd (mCB isiD (aCons (mVar 1) (aCons (mC (.ty "int")) (aNil)))) (mNot (mCB isiD (aCons (mVar 1) (aCons (mC (.ty "bool")) (aNil)))))) [some v, none] c = .ok (.lst (xs.map fun x => .bl (isI x))) c := by
      have := lcW_pure (it := kAny (mVar 0)) (js := [1]) (g := gN 1) (t := tYesM) (e := mAnd (mCB isiD (aCons (mVar 1) (aCons (mC (.ty "int")) (aNil)))) (mNot (mCB isiD (aCons (mVar 1) (aCons (mC (.ty "bool")) (aNil)))))) (l := [some v, none]) (w := w) (xs := xs) (P := fun _ => true) (F := fun x => .bl (isI x)) (lt := fun x => (wipeL [some v, none] [1]).set 1 (some x)) hw1 hw2 (by omega) (fun y hy => ⟨rfl, rfl, fun _ => ?_⟩)
      · rw [filter_yes] at this; exact this
      · obtain ⟨t2, ht2, _⟩ := (h.el y hy).ex
        rw [← isI_ty ht2]
        refine ok_eq ?_
        walk_at "okm"
        refine Ok.of (isi_int ht2) ⟨_, rfl, fun q => ?_, fun q => ?_⟩
        · walk_at "okm"
          refine Ok.of (isi_bool ht2) ⟨_, rfl, ?_, rfl⟩
          rw [q]; rfl
        · refine ⟨?_, rfl⟩
          rw [q]; rfl
    have e4 := all_bls isI xs c
    have q1 : (1 ≤ (xs.length : Int)) ↔ 1 ≤ xs.length := by omega
    have q2 : ((xs.length : Int) ≤ 8) ↔ xs.length ≤ 8 := by omega
    generalize hC : mLcW (kAny (mVar 0)) [1] (gN 1) (tYesM) (mAnd (mCB isiD (aCons (mVar 1) (aCons (mC (.ty "int")) (aNil)))) (mNot (mCB isiD (aCons (mVar 1) (aCons (mC (.ty "bool")) (aNil)))))) = C at e3
    unfold gneed_integers mFun cneed_integers
    rw [hC]
    generalize gis_sequence = F at e1 ⊢
    by_cases h1 : 1 ≤ xs.length
    · by_cases h2 : xs.length ≤ 8
      · cases h3 : xs.all isI with
        | true => simp [sSeq, sIf, tOrM, tNotM, mT, mCB, aCons, aNil, mVar, mC, mChain, mOp, leD, cmpI, sRaise, sNil, e1, e2, e3, e4, q1, q2, h1, h2, h3, ilR, ilX]
        | false => simp [sSeq, sIf, tOrM, tNotM, mT, mCB, aCons, aNil, mVar, mC, mChain, mOp, leD, cmpI, sRaise, sNil, e1, e2, e3, e4, q1, q2, h1, h2, h3, ilR, ilX, invS]
      · simp [sSeq, sIf, tOrM, tNotM, mT, mCB, aCons, aNil, mVar, mC, mChain, mOp, leD, cmpI, sRaise, sNil, e1, e2, e3, e4, q1, q2, h1, h2, ilR, ilX, invS]
    · simp [sSeq, sIf, tOrM, tNotM, mT, mCB, aCons, aNil, mVar, mC, mChain, mOp, leD, cmpI, sRaise, sNil, e1, e2, e3, e4, q1, q2, h1, ilR, ilX, invS]
  · have e : ilB v c = false := by unfold ilB; rw [non_seq ht hn]
    rw [e]
    have e1 : gis_sequence [v] c = .ok (.bl false) c := by rw [is_sequence_eq ht, hn]
    unfold gneed_integers mFun cneed_integers
    generalize gis_sequence = F at e1 ⊢
    simp [sSeq, sIf, tOrM, tNotM, mT, mCB, aCons, aNil, mVar, mC, sRaise, sNil, e1, ilR, invS]

structure VI (v : D) (c : Cs) (is : List Int) : Prop where
  sv : SeqV v c (is.map D.int)
  lo : 1 ≤ is.length
  hi : is.length ≤ 8
theorem isI_map : ∀ {xs : List D}, xs.all isI = true → ∃ is : List Int, xs = is.map D.int
  | [], _ => ⟨[], rfl⟩
  | x :: xs, h => by
    obtain ⟨h1, h2⟩ := Bool.and_eq_true_iff.mp (show (isI x && xs.all isI) = true from h)
    obtain ⟨is, rfl⟩ := isI_map h2
    cases x with
    | int i => exact ⟨i :: is, rfl⟩
    | _ => cases h1
theorem ilB_ints {v : D} {c : Cs} (h : VT v c) (hb : ilB v c = true) : ∃ is, VI v c is := by
  rcases h with ⟨xs, h⟩ | ⟨t, ht, hn⟩
  · unfold ilB at hb
    rw [h.sq] at hb
    simp only [ilX, Bool.and_eq_true, decide_eq_true_eq] at hb
    obtain ⟨is, rfl⟩ := isI_map hb.2
    rw [List.length_map] at hb
    exact ⟨is, h, hb.1.1, hb.1.2⟩
  · unfold ilB at hb; rw [non_seq ht hn] at hb; cases hb
theorem VI.app {v : D} {c : Cs} {is : List Int} (h : VI v c is) (y : Cs) : VI v (c ++ y) is := ⟨h.sv.app y, h.lo, h.hi⟩
theorem VI.len {v : D} {c : Cs} {is : List Int} (h : VI v c is) : lenD [v] c = .ok (.int is.length) c := by
  rw [len_seq h.sv.sq, List.length_map]
def intsV (v : D) (c : Cs) : List Int := match seqOf v c with
  | some xs => (intsOf xs).getD []
  | none => []
theorem VI.ints {v : D} {c : Cs} {is : List Int} (h : VI v c is) : intsV v c = is := by
  unfold intsV
  rw [h.sv.sq]
  simp only [intsOf_map, Option.getD_some]
def rgB (is : List Int) (n : Nat) : Bool := is.all fun i => decide (0 ≤ i) && decide (i ≤ (n : Int))
theorem need_range_eq {v : D} {c : Cs} {is : List Int} (h : VI v c is) (n : Nat) : gneed_range [v, .int n] c = ilR v c (rgB is n) := by
  have hz : sizeLine = 16777216 := sizeLine_eq
  obtain ⟨w, hw1, hw2⟩ := wAny_seq h.sv.sq
  have hl := h.hi
  have e3 : mLcW (kAny (mVar 0)) [2] (gN 2) (tYesM) (mCB gis_integer (aCons (mVar 2) (aCons (mC (.int 0)) (aCons (mVar 1) (aNil))))) [some v, some (.int n), none] c = .ok (.lst ((is.map D.int).map fun x => .bl (isInt x 0 n))) c := by
    have := lcW_pure (it := kAny (mVar 0)) (js := [2]) (g := gN 2) (t := tYesM) (e := mCB gis_integer (aCons (mVar 2) (aCons (mC (.int 0)) (aCons (mVar 1) (aNil))))) (l := [some v, some (.int n), none]) (w := w) (xs := is.map D.int) (P := fun _ => true) (F := fun x => .bl (isInt x 0 n)) (lt := fun x => (wipeL [some v, some (.int n), none] [2]).set 2 (some x)) hw1 hw2 (by rw [List.length_map]; omega) (fun y hy => ⟨rfl, rfl, fun _ => ?_⟩)
    · rw [filter_yes] at this; exact this
    · obtain ⟨i, _, rfl⟩ := List.mem_map.mp hy
      exact ok_eq (ok_cb (ok_acons (ok_var rfl (ok_acons (ok_c (ok_acons (ok_var rfl (ok_anil (Ok.of (is_integer_eq rfl) ⟨rfl, rfl⟩)))))))))
  have e4 := all_bls (fun x => isInt x 0 n) (is.map D.int) c
  have e5 : (is.map D.int).all (fun x => isInt x 0 n) = rgB is n := by rw [List.all_map]; rfl
  rw [e5] at e4
  generalize (is.map D.int).map (fun x => D.bl (isInt x 0 n)) = zs at e3 e4
  generalize hC : mLcW (kAny (mVar 0)) [2] (gN 2) (tYesM) (mCB gis_integer (aCons (mVar 2) (aCons (mC (.int 0)) (aCons (mVar 1) (aNil))))) = C at e3
  unfold gneed_range mFun cneed_range
  rw [hC]
  cases h3 : rgB is n with
  | true => rw [h3] at e4; simp [sIf, tNotM, mT, mCB, aCons, aNil, mVar, mC, sRaise, sNil, e3, e4, ilR]
  | false => rw [h3] at e4; simp [sIf, tNotM, mT, mCB, aCons, aNil, mVar, mC, sRaise, sNil, e3, e4, ilR, invS]
theorem onInts_seq {v : D} {c : Cs} {is : List Int} {f : List Int → Option Int} {k : Int} (h : SeqV v c (is.map D.int)) (e : f is = some k) : on1 (onIntsY f) [v] c = .ok (.int k) c := by
  have hq := h.sq
  have go : ∀ xs, xs = is.map D.int → (match intsOf xs with
    | some ns => match f ns with
      | some k => (.ok (.int k) c : Mi.R D)
      | none => .stuck
    | none => .stuck) = .ok (.int k) c := fun xs hx => by subst hx; rw [intsOf_map]; simp only [e]
  cases v with
  | lst xs => cases hq; exact go _ rfl
  | tup xs => cases hq; exact go _ rfl
  | ro xs => exact absurd rfl (h.nr xs)
  | ref j =>
    have hq : (match c[j]? with
      | some (.lst xs) => some xs
      | _ => none) = some (is.map D.int) := hq
    have l : lstC (.ref j) c = some (is.map D.int) := by
      cases q : c[j]? with
      | none => rw [q] at hq; cases hq
      | some y =>
        rw [q] at hq
        cases y with
        | lst zs => cases hq; simp [lstC, q]
        | _ => cases hq
    show (match lstC (.ref j) c with
      | some ds => match intsOf ds with
        | some ns => match f ns with
          | some k => (.ok (.int k) c : Mi.R D)
          | none => .stuck
        | none => .stuck
      | none => .stuck) = _
    rw [l]
    exact go _ rfl
  | _ => cases hq
theorem VI.sum {v : D} {c : Cs} {is : List Int} (h : VI v c is) : sumY [v] c = .ok (.int is.sum) c := onInts_seq h.sv rfl
theorem VI.list {v : D} {c : Cs} {is : List Int} (h : VI v c is) : listD [v] c = .ok (.lst (is.map D.int)) c := by simp [listD, on1, listP, h.sv.sq]
inductive Vd where
  | sc (v : D)
  | tot (t : Int)
  | fine
def verd (v w : D) (c : Cs) : Vd :=
  if ilB v c = false then .sc v else if ilB w c = false then .sc w
  else if rgB (intsV v c) (intsV w c).length = false then .sc v
  else if rgB (intsV w c) (intsV v c).length = false then .sc w
  else if (intsV v c).sum + (intsV w c).sum = ((intsV v c).length : Int) * (intsV w c).length then .fine else .tot ((intsV v c).sum + (intsV w c).sum)
def totE (t : Int) : Ex := ⟨"WrongTotal", [("total", .int t)]⟩
def keptS (is js : List Int) : Cell := .dct [(.inr "warp", .lst (is.map D.int)), (.inr "weft", .lst (js.map D.int))]
def Vd.init (v w : D) (k : Nat) (c : Cs) : Vd → Mi.R D
  | .sc v => .exc (invS v) c
  | .tot t => .exc (totE t) c
  | .fine => .ok .non ((c ++ [keptS (intsV v c) (intsV w c)]).set k (.ins "Scores" [("kept_scores", .ref c.length)]))
theorem mul_len (a b : Nat) (ha : a ≤ 8) (hb : b ≤ 8) (c : Cs) : mulI (.int a) (.int b) c = .ok (.int ((a : Int) * b)) c := by
  have h : CMul (a : Int) (b : Int) := Or.inl ⟨by omega, by omega⟩
  simp [mulI, intC, h]
theorem mul_at {a b : ME} {x y z : D} {l : Ls} {c : Cs} {g : D → D → Cs → Mi.R D} (h1 : a l c = .ok x c) (h2 : b l c = .ok y c) (h : g x y c = .ok z c) : mOp g a b l c = .ok z c := by
  unfold mOp
  rw [h1]
  simp only [Mi.R.bind_ok, h2, h]
theorem keys_ne : ¬ (("warp" : Str) = "weft") := by decide +kernel
theorem kept_make (x y : D) (l : Ls) (c : Cs) (f : MD) (h : f l c = .ok [(.str "warp", x), (.str "weft", y)] c) : mDict f l c = .ok (.ref c.length) (c ++ [.dct [(.inr "warp", x), (.inr "weft", y)]]) := by
  unfold mDict
  rw [h]
  have e : mergeKD [] [((.inr "warp" : Key), x), (.inr "weft", y)] = [(.inr "warp", x), (.inr "weft", y)] := by
    unfold mergeKD
    simp [putKD]
    exact keys_ne
  simp only [Mi.R.bind_ok, keyed, e]
  rfl
theorem init_eq {v w : D} {k : Nat} {c : Cs} (hv : VT v c) (hw : VT w c) (hk : c[k]? = some (.ins "Scores" [])) : gScores____init__ [.ref k, v, w] c = (verd v w c).init v w k c := by
  have n1 := need_integers_eq hv
  have n2 := need_integers_eq hw
  unfold gScores____init__ mFun cScores____init__
  cases h1 : ilB v c with
  | false =>
    rw [h1] at n1
    generalize gneed_integers = F at n1 n2 ⊢
    simp [sSeq, sExpr, mCB, aCons, aNil, mVar, n1, ilR, verd, h1, Vd.init, invS]
  | true =>
    cases h2 : ilB w c with
    | false =>
      rw [h1] at n1
      rw [h2] at n2
      generalize gneed_integers = F at n1 n2 ⊢
      simp [sSeq, sExpr, mCB, aCons, aNil, mVar, n1, n2, ilR, verd, h1, h2, Vd.init, invS]
    | true =>
      obtain ⟨is, I⟩ := ilB_ints hv h1
      obtain ⟨js, J⟩ := ilB_ints hw h2
      have r1 := need_range_eq I js.length
      have r2 := need_range_eq J is.length
      have l1 := I.len
      have l2 := J.len
      rw [h1] at n1
      rw [h2] at n2
      cases h3 : rgB is js.length with
      | false =>
        rw [h3] at r1
        generalize gneed_integers = F at n1 n2 ⊢
        generalize gneed_range = G at r1 r2 ⊢
        simp [sSeq, sExpr, mCB, aCons, aNil, mVar, n1, n2, l1, l2, r1, ilR, verd, h1, h2, I.ints, J.ints, h3, Vd.init, invS]
      | true =>
        cases h4 : rgB js is.length with
        | false =>
          rw [h3] at r1
          rw [h4] at r2
          generalize gneed_integers = F at n1 n2 ⊢
          generalize gneed_range = G at r1 r2 ⊢
          simp [sSeq, sExpr, mCB, aCons, aNil, mVar, n1, n2, l1, l2, r1, r2, ilR, verd, h1, h2, I.ints, J.ints, h3, h4, Vd.init, invS]
        | true =>
          rw [h3] at r1
          rw [h4] at r2
          have s1 := I.sum
          have s2 := J.sum
          have m1 := mul_len is.length js.length I.hi J.hi c
          have t1 := I.list
          have t2 := J.list
          generalize gneed_integers = F at n1 n2 ⊢
          generalize gneed_range = G at r1 r2 ⊢
          have a1 : addD (.int is.sum) (.int js.sum) c = .ok (.int (is.sum + js.sum)) c := rfl
          have x1 : ∀ a b : Int, neX (.int a) (.int b) c = .ok (.bl (!decide (a = b))) c := fun _ _ => rfl
          have k2 : (c ++ [keptS is js])[k]? = some (.ins "Scores" []) := by rw [List.getElem?_append_left (List.getElem?_eq_some_iff.mp hk).1]; exact hk
          have kd : mDict (dCons (mC (.str "warp")) (mCB listD (aCons (mVar 1) (aNil))) (dCons (mC (.str "weft")) (mCB listD (aCons (mVar 2) (aNil))) (dNil))) [some (.ref k), some v, some w, some (.int (is.sum + js.sum))] c = .ok (.ref c.length) (c ++ [keptS is js]) := by
            have e1 : (dCons (mC (.str "warp")) (mCB listD (aCons (mVar 1) (aNil))) (dCons (mC (.str "weft")) (mCB listD (aCons (mVar 2) (aNil))) (dNil))) [some (.ref k), some v, some w, some (.int (is.sum + js.sum))] c = .ok [(.str "warp", .lst (is.map D.int)), (.str "weft", .lst (js.map D.int))] c := by
              simp [dCons, dNil, mC, mCB, aCons, aNil, mVar, t1, t2]
            exact kept_make _ _ _ _ _ e1
          have f1 : ∀ o1 o2 : Option D, mCB F (aCons (mVar 1) aNil) [some (.ref k), some v, o1, o2] c = .ok .non c := fun _ _ => by simp [mCB, aCons, aNil, mVar, n1, ilR]
          have f2 : ∀ o1 o2 : Option D, mCB F (aCons (mVar 2) aNil) [some (.ref k), o1, some w, o2] c = .ok .non c := fun _ _ => by simp [mCB, aCons, aNil, mVar, n2, ilR]
          have f3 : mCB G (aCons (mVar 1) (aCons (mCB lenD (aCons (mVar 2) aNil)) aNil)) [some (.ref k), some v, some w, none] c = .ok .non c := by simp [mCB, aCons, aNil, mVar, r1, l2, ilR]
          have f4 : mCB G (aCons (mVar 2) (aCons (mCB lenD (aCons (mVar 1) aNil)) aNil)) [some (.ref k), some v, some w, none] c = .ok .non c := by simp [mCB, aCons, aNil, mVar, r2, l1, ilR]
          have f5 : mOp addD (mCB sumY (aCons (mVar 1) (aNil))) (mCB sumY (aCons (mVar 2) (aNil))) [some (.ref k), some v, some w, none] c = .ok (.int (is.sum + js.sum)) c := by simp [mOp, mCB, aCons, aNil, mVar, s1, s2, a1]
          have f6 : ∀ o, mOp mulI (mCB lenD (aCons (mVar 1) (aNil))) (mCB lenD (aCons (mVar 2) (aNil))) [some (.ref k), some v, some w, o] c = .ok (.int ((is.length : Int) * js.length)) c := fun _ => mul_at (by simp [mCB, aCons, aNil, mVar, l1]) (by simp [mCB, aCons, aNil, mVar, l2]) m1
          have eV : verd v w c = if is.sum + js.sum = (is.length : Int) * js.length then .fine else .tot (is.sum + js.sum) := by
            unfold verd
            rw [h1, h2, I.ints, J.ints, h3, h4]
            rfl
          rw [eV]
          show (match (sSeq _ _ [some (.ref k), some v, some w, none] c) with
            | .go (.rt d) c' => (.ok d c' : Mi.R D)
            | .go (.nx _) c' => .ok .non c'
            | .exc x _ c' => .exc x c'
            | _ => .stuck) = _
          rw [sq_nx (se_ok (f1 _ _)), sq_nx (se_ok (f2 _ _)), sq_nx (se_ok f3), sq_nx (se_ok f4)]
          by_cases h5 : is.sum + js.sum = (is.length : Int) * js.length
          · have q : sFldM ["Scores"] "kept_scores" (mVar 0) (mDict (dCons (mC (.str "warp")) (mCB listD (aCons (mVar 1) (aNil))) (dCons (mC (.str "weft")) (mCB listD (aCons (mVar 2) (aNil))) (dNil)))) [some (.ref k), some v, some w, some (.int (is.sum + js.sum))] c = .go (.nx [some (.ref k), some v, some w, some (.int (is.sum + js.sum))]) ((c ++ [keptS is js]).set k (.ins "Scores" [("kept_scores", .ref c.length)])) := by
              unfold sFldM
              rw [kd]
              simp [mVar, Mi.R.seq, fldS, k2, putFD]
            rw [sq_nx (ifNm_n (g := sNil) (l2 := [some (.ref k), some v, some w, some (.int (is.sum + js.sum))]) f5 (f6 _) (by rw [x1, decide_eq_true h5]; rfl) rfl), if_pos h5, q]
            rw [Vd.init, I.ints, J.ints]
          · rw [sq_x (ifNm_x (f := sRaise "WrongTotal" "total" (mVar 3)) (x := totE (is.sum + js.sum)) (l2 := [some (.ref k), some v, some w, some (.int (is.sum + js.sum))]) f5 (f6 _) (by rw [x1, decide_eq_false h5]; rfl) rfl), if_neg h5]
            rfl

section
variable {l : Ls} {c : Cs} {g : MG} {t : MT} {e : ME} {Q : D → Cs → Prop}
theorem ok_lcM {it : MI} {js : List Nat} (h : Ok (mLc it js g t e l c) fun d c2 => ∃ xs, d = .lst xs ∧ Q (.ref c2.length) (c2 ++ [.lst xs])) : Ok (mLcM it js g t e l c) Q := by
  unfold mLc at h
  unfold mLcM
  cases e1 : it l c with
  | stuck => rw [e1] at h; obtain ⟨_, _, h, _⟩ := h; cases h
  | exc => rw [e1] at h; obtain ⟨_, _, h, _⟩ := h; cases h
  | ok ds c1 =>
    rw [e1] at h
    simp only [R.bind_ok] at h ⊢
    cases e2 : compD g t e (wipeL l js) ds [] c1 with
    | stuck => rw [e2] at h; obtain ⟨_, _, h, _⟩ := h; cases h
    | exc => rw [e2] at h; obtain ⟨_, _, h, _⟩ := h; cases h
    | ok xs c2 =>
      rw [e2] at h
      obtain ⟨d, c3, e3, ys, rfl, q⟩ := h
      cases e3
      exact ⟨_, _, rfl, q⟩
theorem ok_lcMW {it : MK} {js : List Nat} (h : Ok (mLcW it js g t e l c) fun d c2 => ∃ xs, d = .lst xs ∧ Q (.ref c2.length) (c2 ++ [.lst xs])) : Ok (mLcMW it js g t e l c) Q := by
  unfold mLcW at h
  unfold mLcMW
  cases e1 : it l c with
  | stuck => rw [e1] at h; obtain ⟨_, _, h, _⟩ := h; cases h
  | exc => rw [e1] at h; obtain ⟨_, _, h, _⟩ := h; cases h
  | ok w c1 =>
    rw [e1] at h
    simp only [R.bind_ok] at h ⊢
    cases e2 : compW g t e (wipeL l js) w fuelW 0 [] c1 with
    | stuck => rw [e2] at h; obtain ⟨_, _, h, _⟩ := h; cases h
    | exc => rw [e2] at h; obtain ⟨_, _, h, _⟩ := h; cases h
    | ok xs c2 =>
      rw [e2] at h
      obtain ⟨d, c3, e3, ys, rfl, q⟩ := h
      cases e3
      exact ⟨_, _, rfl, q⟩
end
/-- scores as they are drawn -/
def Sc (is : List Int) : Prop := 1 ≤ is.length ∧ is.length ≤ 8 ∧ ∀ i ∈ is, 0 ≤ i ∧ i ≤ 8
theorem cnt_le (k : Nat) : ∀ l : List Nat, 0 ≤ PyProof.Rows.cnt k l ∧ PyProof.Rows.cnt k l ≤ l.length
  | [] => by simp [PyProof.Rows.cnt_nil]
  | x :: l => by
    have := cnt_le k l
    rw [PyProof.Rows.cnt_cons, List.length_cons]
    split <;> omega
theorem rows_g {c : Cs} {k : Nat} {n : Int} {Q : D → Cs → Prop} (hb : Bx c k n) (hn : n ≤ 800000) (q : ∀ rs c', Rows rs → Bx c' k (n + 100) → Gr k c c' → Q (.lst rs) c') : Ok (g_law_rows [.ref k] c) Q :=
  rows_ok hb hn fun rs c' h b l f => q rs c' h b ⟨l, f⟩
/-- the two lists -/
def Two (a b : Nat) (c : Cs) : Prop := ∀ j, j = a ∨ j = b → ∃ zs : List Int, c[j]? = some (.lst (zs.map D.int)) ∧ Sc zs
theorem Two.gr {a b k : Nat} {c c' : Cs} (h : Two a b c) (g : Gr k c c') (ha : a ≠ k) (hb : b ≠ k) : Two a b c' := fun j hj => by
  obtain ⟨zs, h1, h2⟩ := h j hj
  exact ⟨zs, g.get (by rcases hj with rfl | rfl <;> assumption) h1, h2⟩
theorem Two.set {a b j : Nat} {c : Cs} (h : Two a b c) (hj : j = a ∨ j = b) {zs : List Int} (hz : Sc zs) : Two a b (c.set j (.lst (zs.map D.int))) := fun i hi => by
  by_cases e : i = j
  · subst e
    obtain ⟨_, h1, _⟩ := h i hi
    exact ⟨zs, by rw [List.getElem?_set_self (List.getElem?_eq_some_iff.mp h1).1], hz⟩
  · obtain ⟨ws, h1, h2⟩ := h i hi
    exact ⟨ws, by rw [List.getElem?_set_ne (fun h => e h.symm)]; exact h1, h2⟩
theorem len_ref {j : Nat} {c : Cs} {zs : List Int} (h : c[j]? = some (.lst (zs.map D.int))) : lenD [.ref j] c = .ok (.int zs.length) c := by
  simp [lenD, lenC, h]
theorem item_ref {j : Nat} {c : Cs} {zs : List Int} (h : c[j]? = some (.lst (zs.map D.int))) {i : Nat} (hi : i < zs.length) : itemD (.ref j) (.int (i : Nat)) c = .ok (.int zs[i]) c := by
  simp [itemD, h, Mi.itL, atI, ixN, hi]
theorem put_ref {j : Nat} {c : Cs} {zs : List Int} (h : c[j]? = some (.lst (zs.map D.int))) {i : Nat} (hi : i < zs.length) (z : Int) : putD (.ref j) (.int (i : Nat)) (.int z) c = .ok () (c.set j (.lst ((zs.set i z).map D.int))) := by
  simp [putD, h, ixN, hi, List.map_set]
theorem Sc.set {zs : List Int} (h : Sc zs) (i : Nat) {z : Int} (h0 : 0 ≤ z) (h8 : z ≤ 8) : Sc (zs.set i z) := by
  obtain ⟨h1, h2, h3⟩ := h
  refine ⟨by simpa using h1, by simpa using h2, fun y hy => ?_⟩
  rcases List.mem_or_eq_of_mem_set hy with hy | rfl
  · exact h3 y hy
  · exact ⟨h0, h8⟩

theorem eq_one (k : Nat) (c : Cs) : eqX (.str ⟨#[k]⟩) (.str "1") c = .ok (.bl (decide (k = 49))) c := by
  show Mi.R.ok (D.bl ((⟨#[k]⟩ : Str) == "1")) c = _
  by_cases h : k = 49
  · subst h; rfl
  · have : ((⟨#[k]⟩ : Str) == "1") = false := beq_eq_false_iff_ne.mpr fun e => h (by
      have := congrArg (fun s : Str => s.cps.toList) e
      have e1 : ("1" : Str).cps.toList = [49] := by decide +kernel
      simp only [e1] at this
      simpa using this)
    rw [this, decide_eq_false h]
theorem ne_ints (a b : Int) (c : Cs) : neX (.int a) (.int b) c = .ok (.bl (!decide (a = b))) c := by
  show Mi.R.ok (D.bl (!(a == b))) c = _
  by_cases h : a = b
  · subst h; simp
  · rw [decide_eq_false h, beq_eq_false_iff_ne.mpr h]
theorem eq_ints (a b : Int) (c : Cs) : eqX (.int a) (.int b) c = .ok (.bl (decide (a = b))) c := by
  show Mi.R.ok (D.bl (a == b)) c = _
  by_cases h : a = b
  · subst h; simp
  · rw [decide_eq_false h, beq_eq_false_iff_ne.mpr h]
theorem RwS.item0 {ys : List Str} {w : Nat} (h : RwS ys w) (c : Cs) : ∃ y0, itemD (.lst (ys.map D.str)) (.int 0) c = .ok (.str y0) c ∧ lenD [.str y0] c = .ok (.int w) c ∧ y0 ∈ ys := by
  obtain ⟨y0, yr, hys, hy0⟩ := h.head
  have hz : sizeLine = 16777216 := sizeLine_eq
  have hw := h.w8
  refine ⟨y0, item_seq (xs := ys.map D.str) (i := 0) rfl (by rw [hys]; rfl), ?_, by rw [hys]; simp⟩
  obtain ⟨d, c', e, rfl, rfl⟩ := ok_len_str (s := y0) (c := c) (Q := fun d c' => d = .int (w : Nat) ∧ c' = c) (by omega) ⟨by rw [hy0], rfl⟩
  exact e
theorem ne_same (s : Str) (c : Cs) : neX (.str s) (.str s) c = .ok (.bl false) c := by
  show Mi.R.ok (D.bl (!(s == s))) c = _
  simp
theorem os_forYE {α : Type} {it : MI} {g : MG} {f : MS} {l : Ls} {c : Cs} {QS : Fl → Cs → Prop} (enc : α → D) (P : List α → Ls → Cs → Prop) (ha : Ok (it l c) fun ds c1 => ∃ xs, ds = xs.map enc ∧ P xs l c1)
    (hd : ∀ l c, P [] l c → QS (.nx l) c)
    (ht : ∀ x rest l c, P (x :: rest) l c → Ok (g (enc x) l c) fun l1 c1 => OkS (f l1 c1) fun fl c2 => match fl with
      | .nx l2 => P rest l2 c2
      | .ct l2 => P rest l2 c2
      | .bk l2 => QS (.nx l2) c2
      | .rt d => QS (.rt d) c2) : OkS (sFor it g f l c) QS := by
  obtain ⟨ds, c1, e, xs, rfl, hp⟩ := ha
  exact os_forY xs enc P ⟨_, c1, e, rfl, hp⟩ hd ht
theorem depth_ths : ∀ ts : List Th, PyData.depthAll (ts.map thP) ≤ 2
  | [] => by simp [PyData.depthAll]
  | t :: ts => by
    have := depth_ths ts
    simp only [List.map_cons, PyData.depthAll]
    have h : (thP t).depth ≤ 2 := by unfold thP; simp [PyData.depth, PyData.depthAll]
    omega
theorem toPys_ths : ∀ W : List Th, toPys (W.map thD) = some (W.map thP)
  | [] => rfl
  | t :: W => by
    rw [List.map_cons, List.map_cons]
    unfold toPys
    rw [show toPy (thD t) = some (thP t) from rfl, toPys_ths W]
/-! ### loops over ranges, by the number of the turn -/
theorem os_forI {g : MG} {f : MS} {l : Ls} {c : Cs} {QS : Fl → Cs → Prop} (lo : Int) (n : Nat) (P : Nat → Ls → Cs → Prop) (h0 : P 0 l c) (hd : ∀ l c, P n l c → QS (.nx l) c)
    (ht : ∀ k l c, k < n → P k l c → Ok (g (.int (lo + (k : Nat))) l c) fun l1 c1 => OkS (f l1 c1) fun fl c2 => match fl with
      | .nx l2 => P (k + 1) l2 c2
      | .ct l2 => P (k + 1) l2 c2
      | .bk l2 => QS (.nx l2) c2
      | .rt d => QS (.rt d) c2) : OkS (forD g f (rangeL lo n) l c) QS := by
  refine OkS.for (fun ds l c => ∃ k, k ≤ n ∧ ds = (rangeL lo n).drop k ∧ P k l c) ?_ ?_ _ _ _ ⟨0, Nat.zero_le _, rfl, h0⟩
  · rintro l c ⟨k, hk, e, p⟩
    have : k = n := by
      have := congrArg List.length e
      rw [List.length_drop, rangeL_len] at this
      simp at this
      omega
    subst this
    exact hd l c p
  · rintro d ds l c ⟨k, hk, e, p⟩
    have hlt : k < n := by
      have := congrArg List.length e
      rw [List.length_drop, rangeL_len, List.length_cons] at this
      omega
    rw [List.drop_eq_getElem_cons (by rw [rangeL_len]; exact hlt)] at e
    obtain ⟨e1, e2⟩ := List.cons.inj e
    have e3 : d = .int (lo + (k : Nat)) := by
      rw [e1]
      simp [rangeL]
    subst e3
    refine (ht k l c hlt p).mono fun l1 c1 h => h.mono fun fl c2 q => ?_
    cases fl with
    | nx l2 => exact ⟨k + 1, hlt, e2, q⟩
    | ct l2 => exact ⟨k + 1, hlt, e2, q⟩
    | bk l2 => exact q
    | rt d => exact q
theorem wlenV {ys : List Str} {w i : Nat} {l : Ls} {c : Cs} (hr : RwS ys w) (h1 : l[i]? = some (some (.lst (ys.map D.str)))) : (mCB lenD (aCons (mOp itemD (mVar i) (mC (.int 0))) (aNil))) l c = .ok (.int (w : Int)) c := by
  obtain ⟨y0, e1, e2, _⟩ := hr.item0 c
  exact Ok.eq (ok_cb (ok_acons (ok_op (ok_var h1 (ok_c (Ok.of e1 (ok_anil (Ok.of e2 ⟨rfl, rfl⟩))))))))
theorem sm62 {n : Nat} (h : n ≤ 1000) : small62 (n : Int) := ⟨by omega, by omega⟩
/-! ### squares -/
structure Sq where
  a : Nat
  b : Nat
  t : Nat
  o : Nat
def SqOk (w g : Nat) (q : Sq) : Prop := q.a < q.b ∧ q.b < w ∧ q.t < q.o ∧ q.o < g
def SqL (w g : Nat) (L : List Sq) : Prop := ∀ q ∈ L, SqOk w g q
/-! ### scores in order: plain -/
def keyLe : Int × Nat → Int × Nat → Bool := fun p q => decide (p.1 ≤ q.1)
def lexLe : Int × Nat → Int × Nat → Bool := fun p q => decide (p.1 < q.1 ∨ (p.1 = q.1 ∧ p.2 ≤ q.2))
def prI (l : List Int) : List (Int × Nat) := l.zip (List.range l.length)
def ordI (l : List Int) : List (Int × Nat) := (prI l).mergeSort keyLe
theorem prI_fst (l : List Int) : (prI l).map Prod.fst = l := List.map_fst_zip (by simp)
theorem prI_snd (l : List Int) : (prI l).map Prod.snd = List.range l.length := List.map_snd_zip (by simp)
theorem prI_lt (l : List Int) : (prI l).Pairwise fun a b => a.2 < b.2 := by
  have h : ((prI l).map Prod.snd).Pairwise (· < ·) := by rw [prI_snd]; exact List.pairwise_lt_range
  exact List.pairwise_map.mp h
theorem prI_len (l : List Int) : (prI l).length = l.length := by simp [prI]
theorem key_trans (a b c : Int × Nat) (h1 : keyLe a b = true) (h2 : keyLe b c = true) : keyLe a c = true := by
  unfold keyLe at *
  simp at *
  omega
theorem key_total (a b : Int × Nat) : (keyLe a b || keyLe b a) = true := by
  unfold keyLe
  simp
  omega
theorem lex_trans (a b c : Int × Nat) (h1 : lexLe a b = true) (h2 : lexLe b c = true) : lexLe a c = true := by
  unfold lexLe at *
  simp at *
  omega
theorem lex_total (a b : Int × Nat) : (lexLe a b || lexLe b a) = true := by
  unfold lexLe
  simp
  omega
theorem lex_anti {a b : Int × Nat} (h1 : lexLe a b = true) (h2 : lexLe b a = true) : a = b := by
  unfold lexLe at *
  simp at *
  obtain ⟨x, i⟩ := a
  obtain ⟨y, j⟩ := b
  simp at h1 h2 ⊢
  omega
theorem lex_one : ∀ {l k : List (Int × Nat)}, l.Perm k → l.Pairwise (fun a b => lexLe a b = true) → k.Pairwise (fun a b => lexLe a b = true) → l = k
  | [], k, p, _, _ => (List.nil_perm.mp p).symm
  | x :: l, [], p, _, _ => absurd p.length_eq (by simp)
  | x :: l, y :: k, p, h, g => by
    have h' := List.pairwise_cons.mp h
    have g' := List.pairwise_cons.mp g
    have e : x = y := by
      rcases List.mem_cons.mp (p.mem_iff.mpr (List.mem_cons_self (a := y))) with e | m
      · exact e.symm
      · rcases List.mem_cons.mp (p.mem_iff.mp (List.mem_cons_self (a := x))) with e | m2
        · exact e
        · exact lex_anti (h'.1 y m) (g'.1 x m2)
    subst e
    rw [lex_one ((List.perm_cons x).mp p) h'.2 g'.2]
/-- equal scores keep their order -/
theorem ord_stable {l : List (Int × Nat)} {a b : Int × Nat} (h : [a, b].Sublist (l.mergeSort keyLe)) (e : a.1 = b.1) : [a, b].Sublist l := by
  have s1 : (l.filter fun x => x.1 == a.1).Sublist (l.mergeSort keyLe) := by
    refine List.sublist_mergeSort key_trans key_total ?_ List.filter_sublist
    refine List.pairwise_of_forall_mem_list fun x hx y hy => ?_
    have h1 := (List.mem_filter.mp hx).2
    have h2 := (List.mem_filter.mp hy).2
    simp at h1 h2
    unfold keyLe
    simp
    omega
  have s2 := s1.filter fun x => x.1 == a.1
  rw [List.filter_filter] at s2
  simp only [Bool.and_self] at s2
  have hl : (l.filter fun x => x.1 == a.1).length = ((l.mergeSort keyLe).filter fun x => x.1 == a.1).length := (((List.mergeSort_perm l keyLe).filter _).length_eq).symm
  have e2 := s2.eq_of_length hl
  have s3 := h.filter fun x => x.1 == a.1
  rw [← e2] at s3
  have e3 : [a, b].filter (fun x => x.1 == a.1) = [a, b] := by simp [e]
  rw [e3] at s3
  exact s3.trans List.filter_sublist
theorem ord_lex (l : List Int) : (ordI l).Pairwise fun a b => lexLe a b = true := by
  refine List.pairwise_iff_forall_sublist.mpr fun {a b} h => ?_
  have h1 : keyLe a b = true := List.pairwise_iff_forall_sublist.mp (List.pairwise_mergeSort key_trans key_total (prI l)) h
  unfold keyLe at h1
  unfold lexLe
  simp at h1 ⊢
  by_cases e : a.1 = b.1
  · have h2 := List.pairwise_iff_forall_sublist.mp (prI_lt l) (ord_stable h e)
    omega
  · omega
theorem ord_eq (l : List Int) : (prI l).mergeSort lexLe = ordI l := lex_one ((List.mergeSort_perm _ _).trans (List.mergeSort_perm _ _).symm) (List.pairwise_mergeSort lex_trans lex_total (prI l)) (ord_lex l)
theorem ord_fst (l : List Int) : (ordI l).map Prod.fst = sortI l := by
  refine sorted_one ?_ ?_ (sortI_sorted l)
  · have h : ((ordI l).map Prod.fst).Perm ((prI l).map Prod.fst) := (List.mergeSort_perm _ _).map _
    rw [prI_fst] at h
    exact h.trans (sortI_perm l).symm
  · refine List.pairwise_map.mpr ((ord_lex l).imp fun {a b} h => ?_)
    unfold lexLe at h
    simp at h
    omega
theorem ord_mem {l : List Int} {x : Int × Nat} (h : x ∈ ordI l) : x.2 < l.length ∧ l[x.2]? = some x.1 := by
  have h : x ∈ prI l := (List.mergeSort_perm _ _).mem_iff.mp h
  obtain ⟨i, hi⟩ := List.mem_iff_getElem?.mp h
  unfold prI at hi
  rw [List.getElem?_zip_eq_some] at hi
  obtain ⟨h1, h2⟩ := hi
  obtain ⟨h3, h4⟩ := List.getElem?_eq_some_iff.mp h2
  rw [List.getElem_range] at h4
  subst h4
  exact ⟨by simpa using h3, h1⟩
theorem ord_len (l : List Int) : (ordI l).length = l.length := by unfold ordI; rw [List.length_mergeSort, prI_len]
/-- the sum of so many of the least -/
def preI (l : List Int) (n : Nat) : Int := ((sortI l).take n).sum
theorem ord_sum (l : List Int) (n : Nat) : (((ordI l).take n).map Prod.fst).sum = preI l n := by
  unfold preI
  rw [← ord_fst, List.map_take]
/-! ### the two conditions are one -/
def mn2 (m x : Int) : Int := if m < x then m else x
theorem mn_le (m : Int) : ∀ (l : List Int) (s : Nat), s ≤ l.length → (l.map (mn2 m)).sum ≤ (l.take s).sum + m * ((l.length : Int) - s)
  | [], 0, _ => by simp
  | x :: l, 0, _ => by
    have h := mn_le m l 0 (Nat.zero_le _)
    have h1 : mn2 m x ≤ m := by unfold mn2; split <;> omega
    simp only [List.map_cons, List.sum_cons, List.take_zero, List.sum_nil, List.length_cons] at h ⊢
    have e : m * (((l.length + 1 : Nat) : Int) - ((0 : Nat) : Int)) = m * ((l.length : Int) - ((0 : Nat) : Int)) + m := by
      rw [show (((l.length + 1 : Nat) : Int) - ((0 : Nat) : Int)) = ((l.length : Int) - ((0 : Nat) : Int)) + 1 by omega, Int.mul_add, Int.mul_one]
    omega
  | x :: l, s + 1, hs => by
    have h := mn_le m l s (by simpa using hs)
    have h1 : mn2 m x ≤ x := by unfold mn2; split <;> omega
    simp only [List.map_cons, List.sum_cons, List.take_succ_cons, List.length_cons] at h ⊢
    have e : (((l.length + 1 : Nat) : Int) - ((s + 1 : Nat) : Int)) = (l.length : Int) - (s : Int) := by omega
    rw [e]
    omega
theorem mn_all (m : Int) : ∀ (l : List Int), (∀ x ∈ l, m < x) → (l.map (mn2 m)).sum = m * l.length
  | [], _ => by simp
  | x :: l, h => by
    have h1 := mn_all m l fun y hy => h y (List.mem_cons_of_mem _ hy)
    have h2 : mn2 m x = m := by unfold mn2; rw [if_pos (h x List.mem_cons_self)]
    simp only [List.map_cons, List.sum_cons, List.length_cons]
    rw [h1, h2, show ((l.length + 1 : Nat) : Int) = (l.length : Int) + 1 by omega, Int.mul_add, Int.mul_one]
    omega
theorem mn_eq (m : Int) : ∀ (l : List Int), l.Pairwise (· ≤ ·) → ∃ s, s ≤ l.length ∧ (l.map (mn2 m)).sum = (l.take s).sum + m * ((l.length : Int) - s)
  | [], _ => ⟨0, Nat.zero_le _, by simp⟩
  | x :: l, h => by
    obtain ⟨h1, h2⟩ := List.pairwise_cons.mp h
    by_cases hx : m < x
    · refine ⟨0, Nat.zero_le _, ?_⟩
      rw [mn_all m (x :: l) fun y hy => by
        rcases List.mem_cons.mp hy with rfl | hy
        · exact hx
        · have := h1 y hy; omega]
      simp
    · obtain ⟨s, hs, e⟩ := mn_eq m l h2
      refine ⟨s + 1, by simpa using hs, ?_⟩
      have h3 : mn2 m x = x := by unfold mn2; rw [if_neg hx]
      simp only [List.map_cons, List.sum_cons, List.take_succ_cons, List.length_cons]
      have e2 : (((l.length + 1 : Nat) : Int) - ((s + 1 : Nat) : Int)) = (l.length : Int) - (s : Int) := by omega
      rw [h3, e, e2]
      omega
theorem sum_perm {l k : List Int} (h : l.Perm k) : l.sum = k.sum := by
  induction h with
  | nil => rfl
  | cons x _ ih => simp [ih]
  | swap x y l => simp only [List.sum_cons]; omega
  | trans _ _ h1 h2 => exact h1.trans h2
theorem mn_perm {l k : List Int} (m : Int) (h : l.Perm k) : (l.map (mn2 m)).sum = (k.map (mn2 m)).sum := sum_perm (h.map _)
theorem rank_eq (p : Int) (fs : List Int) : (sortI (fs.map fun f => p - f)).reverse = (sortI fs).map fun f => p - f := by
  refine (rev_one ?_ ?_).symm
  · exact (sortI_perm fs).map _
  · refine List.pairwise_map.mpr ((sortI_sorted fs).imp fun {a b} h => ?_)
    show p - a ≥ p - b
    omega
theorem sum_sub (p : Int) : ∀ l : List Int, (l.map fun f => p - f).sum = l.length * p - l.sum
  | [] => by simp
  | x :: l => by
    simp only [List.map_cons, List.sum_cons, List.length_cons]
    rw [sum_sub p l, show ((l.length + 1 : Nat) : Int) = (l.length : Int) + 1 by omega, Int.add_mul, Int.one_mul]
    omega
theorem rank_sum (p : Int) (fs : List Int) {m : Nat} (hm : m ≤ fs.length) : (((sortI (fs.map fun f => p - f)).reverse).take m).sum = m * p - preI fs m := by
  have hl : (sortI fs).length = fs.length := (sortI_perm fs).length_eq
  rw [rank_eq, ← List.map_take, sum_sub, List.length_take, hl, Nat.min_eq_left hm]
  rfl
/-- no set of threads is short of scores -/
def Feas (ws fs : List Int) : Prop := ∀ s t : Nat, s ≤ ws.length → t ≤ fs.length → (s : Int) * t ≤ preI ws s + preI fs t
theorem fits_iff (ws fs : List Int) : (∀ m : Nat, m ≤ fs.length → (((sortI (fs.map fun f => (ws.length : Int) - f)).reverse).take m).sum ≤ (ws.map (mn2 m)).sum) ↔ Feas ws fs := by
  have hl : (sortI ws).length = ws.length := (sortI_perm ws).length_eq
  constructor
  · intro h s t hs ht
    have h1 := h t ht
    rw [rank_sum _ _ ht, mn_perm (t : Int) (sortI_perm ws).symm] at h1
    have h2 := mn_le (t : Int) (sortI ws) s (by omega)
    rw [hl, Int.mul_sub] at h2
    have e : ((sortI ws).take s).sum = preI ws s := rfl
    rw [e] at h2
    have c : (s : Int) * t = t * s := Int.mul_comm _ _
    omega
  · intro h m hm
    rw [rank_sum _ _ hm, mn_perm (m : Int) (sortI_perm ws).symm]
    obtain ⟨s, hs, e⟩ := mn_eq (m : Int) (sortI ws) (sortI_sorted ws)
    rw [hl] at hs e
    have h2 := h s m hs hm
    have e2 : ((sortI ws).take s).sum = preI ws s := rfl
    rw [e2, Int.mul_sub] at e
    have c : (s : Int) * m = m * s := Int.mul_comm _ _
    omega

/-! ### the lists that are drawn -/
structure SL (is js : List Int) : Prop where
  i1 : 1 ≤ is.length
  i8 : is.length ≤ 8
  j1 : 1 ≤ js.length
  j8 : js.length ≤ 8
  ib : ∀ x ∈ is, 0 ≤ x ∧ x ≤ js.length
  jb : ∀ x ∈ js, 0 ≤ x ∧ x ≤ is.length
  tot : is.sum + js.sum = (is.length : Int) * js.length
def oneB (y : Str) (i : Nat) : Int := if y.cps.toList.getD i 0 = 49 then 1 else 0
def colN (ys : List Str) (i : Nat) : Nat := ys.countP fun y => decide (y.cps.toList.getD i 0 = 49)
theorem sum_add2 {α : Type} (f g : α → Int) : ∀ l : List α, (l.map fun x => f x + g x).sum = (l.map f).sum + (l.map g).sum
  | [] => rfl
  | x :: l => by
    simp only [List.map_cons, List.sum_cons, sum_add2 f g l]
    omega
theorem sum_const {α : Type} (k : Int) : ∀ l : List α, (l.map fun _ => k).sum = l.length * k
  | [] => by simp
  | x :: l => by
    simp only [List.map_cons, List.sum_cons, sum_const k l, List.length_cons]
    rw [show ((l.length + 1 : Nat) : Int) = (l.length : Int) + 1 by omega, Int.add_mul, Int.one_mul]
    omega
theorem row_tot : ∀ l : List Nat, l.all bitB = true → ((List.range l.length).map fun i => if l.getD i 0 = 49 then (1 : Int) else 0).sum + PyProof.Rows.cnt 48 l = l.length
  | [], _ => by simp [PyProof.Rows.cnt_nil]
  | x :: l, h => by
    rw [List.all_cons, Bool.and_eq_true] at h
    have ih := row_tot l h.2
    have hb : x = 48 ∨ x = 49 := by simpa [bitB] using h.1
    rw [List.length_cons, List.range_succ_eq_map, List.map_cons, List.map_map, List.sum_cons, PyProof.Rows.cnt_cons]
    have e : ((fun i => if (x :: l).getD i 0 = 49 then (1 : Int) else 0) ∘ Nat.succ) = fun i => if l.getD i 0 = 49 then (1 : Int) else 0 := by
      funext i
      simp
    rw [e]
    generalize ((List.range l.length).map fun i => if l.getD i 0 = 49 then (1 : Int) else 0).sum = S at ih ⊢
    show (if x = 49 then (1 : Int) else 0) + S + ((if x = 48 then 1 else 0) + PyProof.Rows.cnt 48 l) = ((l.length + 1 : Nat) : Int)
    rcases hb with rfl | rfl <;> simp <;> omega
theorem col_sum (w : Nat) : ∀ ys : List Str, ((List.range w).map fun i => (colN ys i : Int)).sum = (ys.map fun y => ((List.range w).map fun i => oneB y i).sum).sum
  | [] => by
    have : (fun i => (colN [] i : Int)) = fun _ : Nat => (0 : Int) := rfl
    rw [this, sum_const]
    simp
  | y :: ys => by
    have e : (fun i => (colN (y :: ys) i : Int)) = fun i => oneB y i + (colN ys i : Int) := by
      funext i
      unfold colN oneB
      rw [List.countP_cons]
      by_cases h : y.cps.toList.getD i 0 = 49
      · rw [if_pos (decide_eq_true h), if_pos h]; omega
      · rw [if_neg (by simpa using h), if_neg h]; omega
    rw [e, sum_add2, col_sum w ys, List.map_cons, List.sum_cons]
theorem row_two {y : Str} {w : Nat} (hl : y.length = w) (hb : bitS y) : ((List.range w).map fun i => oneB y i).sum + Txt.count y "0" = w := by
  have h := row_tot y.cps.toList hb
  rw [len_cps, hl] at h
  rw [show ("0" : Str) = ⟨#[48]⟩ by decide +kernel, PyProof.Rows.count_cnt]
  exact h
theorem lists_SL {ys : List Str} {w : Nat} (hr : RwS ys w) : SL ((List.range w).map fun i => (colN ys i : Int)) (ys.map fun y => Txt.count y "0") := by
  have n8 := hr.n8
  have w8 := hr.w8
  refine ⟨by simpa using hr.w1, by simpa using hr.w8, by simpa using hr.n1, by simpa using hr.n8, fun x hx => ?_, fun x hx => ?_, ?_⟩
  · obtain ⟨i, _, rfl⟩ := List.mem_map.mp hx
    have h : colN ys i ≤ ys.length := List.countP_le_length
    rw [List.length_map]
    omega
  · obtain ⟨y, hy, rfl⟩ := List.mem_map.mp hx
    have h1 := cnt_le 48 y.cps.toList
    have e : y.cps.toList.length = y.length := len_cps y
    have h2 := hr.len y hy
    rw [List.length_map, List.length_range, show ("0" : Str) = ⟨#[48]⟩ by decide +kernel, PyProof.Rows.count_cnt]
    omega
  · rw [col_sum, ← sum_add2, List.length_map, List.length_range, List.length_map]
    have e : (ys.map fun y => ((List.range w).map fun i => oneB y i).sum + Txt.count y "0") = ys.map fun _ => (w : Int) := List.map_congr_left fun y hy => row_two (hr.len y hy) (hr.bit y hy)
    rw [e, sum_const, Int.mul_comm]
theorem lists24_ok {ys : List Str} {w : Nat} {c : Cs} {Q : D → Cs → Prop} (hr : RwS ys w) (q : ∀ is js, SL is js → Q (.lst [.ref c.length, .ref (c.length + 1)]) (c ++ [.lst (is.map D.int), .lst (js.map D.int)])) : Ok (g_law_lists [.lst (ys.map D.str)] c) Q := by
  have hz : sizeLine = 16777216 := sizeLine_eq
  have n8 := hr.n8
  have w8 := hr.w8
  refine Ok.fun rfl ?_
  unfold c_law_lists
  have hrg : Ok ((aCons (mCB lenD (aCons (mOp itemD (mVar 0) (mC (.int 0))) (aNil))) (aNil)) [some (.lst (ys.map D.str)), none, none, none] c) fun xs c1 => c1 = c ∧ xs = [.int (w : Int)] := ok_acons (Ok.of (wlenV hr rfl) (ok_anil ⟨rfl, rfl⟩))
  refine os_seq (os_set (ok_lcM (ok_mlc (r1_eq hrg (by omega)) (by simp; omega) (ok_lcY (List.range w) (fun i => D.int (i : Nat)) (fun i => D.int (colN ys i)) (by simp; omega) (ok_kr hrg (by omega)) (fun i hi => ?_) ⟨_, rfl, ?_⟩))))
  · have hi := List.mem_range.mp hi
    refine ok_gn ⟨rfl, ok_cb (ok_acons (ok_lcT ys D.str D.str (fun y => decide (y.cps.toList.getD i 0 = 49)) (by omega) (ok_ktree (ok_var rfl ⟨rfl, rfl⟩)) (fun y hy => ?_) (ok_anil (ok_len_map ⟨?_, rfl⟩))))⟩
    · have hyl := hr.len y hy
      exact ok_gn ⟨rfl, ok_t (ok_op (ok_op (ok_var rfl (ok_var rfl (Ok.of (item_str_at (by omega) (by rw [len_cps, hyl]; exact hi)) (ok_c (Ok.of (eq_one _ c) ⟨_, rfl, rfl, rfl, fun _ => ok_var rfl ⟨rfl, rfl⟩⟩)))))))⟩
    · unfold colN
      rw [List.countP_eq_length_filter]
  · refine os_ret (ok_lst (ok_acons (ok_var rfl (ok_acons (ok_lcMW (ok_lcY ys D.str (fun y => D.int (Txt.count y "0")) (by omega) (ok_ktree (ok_var rfl ⟨rfl, rfl⟩)) (fun y hy => ok_gn ⟨rfl, ok_m1 (ok_var rfl ⟨y, rfl, ok_c ⟨_, _, rfl, rfl, rfl⟩⟩)⟩) ⟨_, rfl, ok_anil ⟨Nat.le_of_ble_eq_true rfl, ?_⟩⟩))))))
    have := q _ _ (lists_SL hr)
    simpa [Function.comp_def] using this

/-! ### the lists are changed, the total stays -/
structure ST (T : Bool → List Int) (d : Int) : Prop where
  l1 : ∀ b, 1 ≤ (T b).length
  l8 : ∀ b, (T b).length ≤ 8
  bd : ∀ b, ∀ x ∈ T b, 0 ≤ x ∧ x ≤ (T (!b)).length
  tot : (T false).sum + (T true).sum + d = ((T false).length : Int) * (T true).length
def updT (T : Bool → List Int) (b : Bool) (zs : List Int) : Bool → List Int := fun x => if x = b then zs else T x
theorem sum_set : ∀ (l : List Int) (i : Nat) (z : Int) (h : i < l.length), (l.set i z).sum = l.sum - l[i] + z
  | [], i, z, h => absurd h (by simp)
  | x :: l, 0, z, h => by simp only [List.set_cons_zero, List.sum_cons, List.getElem_cons_zero]; omega
  | x :: l, i + 1, z, h => by
    have := sum_set l i z (by simpa using h)
    simp only [List.set_cons_succ, List.sum_cons, List.getElem_cons_succ]
    omega
theorem ST.set {T : Bool → List Int} {d : Int} (h : ST T d) (b : Bool) {i : Nat} (hi : i < (T b).length) {z : Int} (h0 : 0 ≤ z) (h8 : z ≤ (T (!b)).length) : ST (updT T b ((T b).set i z)) (d + (T b)[i] - z) := by
  have hl : ∀ x, (updT T b ((T b).set i z) x).length = (T x).length := fun x => by
    unfold updT
    split
    · rename_i e; rw [e, List.length_set]
    · rfl
  refine ⟨fun x => by rw [hl]; exact h.l1 x, fun x => by rw [hl]; exact h.l8 x, fun x y hy => ?_, ?_⟩
  · rw [hl]
    unfold updT at hy
    split at hy
    · rename_i e
      subst e
      rcases List.mem_or_eq_of_mem_set hy with hy | rfl
      · exact h.bd _ y hy
      · exact ⟨h0, h8⟩
    · exact h.bd x y hy
  · rw [hl, hl, ← h.tot]
    have e := sum_set (T b) i z hi
    cases b
    · have e1 : updT T false ((T false).set i z) false = (T false).set i z := rfl
      have e2 : updT T false ((T false).set i z) true = T true := rfl
      rw [e1, e2, e]; omega
    · have e1 : updT T true ((T true).set i z) false = T false := rfl
      have e2 : updT T true ((T true).set i z) true = (T true).set i z := rfl
      rw [e1, e2, e]; omega
theorem ST.sl {T : Bool → List Int} (h : ST T 0) : SL (T false) (T true) := ⟨h.l1 _, h.l8 _, h.l1 _, h.l8 _, h.bd false, h.bd true, by have := h.tot; omega⟩
theorem SL.st {is js : List Int} (h : SL is js) : ST (fun b => if b = true then js else is) 0 := by
  refine ⟨fun b => ?_, fun b => ?_, fun b => ?_, by have := h.tot; simp; omega⟩
  · cases b; exact h.i1; exact h.j1
  · cases b; exact h.i8; exact h.j8
  · cases b; exact h.ib; exact h.jb
def adT (a : Nat) (b : Bool) : Nat := if b = true then a + 1 else a
def Tw (a : Nat) (T : Bool → List Int) (c : Cs) : Prop := ∀ b, c[adT a b]? = some (.lst ((T b).map D.int))
theorem Tw.gr {a k : Nat} {T : Bool → List Int} {c c' : Cs} (h : Tw a T c) (g : Gr k c c') (ha : ∀ b, adT a b ≠ k) : Tw a T c' := fun b => g.get (ha b) (h b)
theorem adT_inj {a : Nat} {x b : Bool} (h : adT a x = adT a b) : x = b := by
  cases x <;> cases b <;> simp [adT] at h ⊢
theorem Tw.set {a : Nat} {T : Bool → List Int} {c : Cs} (h : Tw a T c) (b : Bool) (zs : List Int) : Tw a (updT T b zs) (c.set (adT a b) (.lst (zs.map D.int))) := fun x => by
  unfold updT
  by_cases e : x = b
  · subst e
    rw [if_pos rfl, List.getElem?_set_self (List.getElem?_eq_some_iff.mp (h x)).1]
  · rw [if_neg e, List.getElem?_set_ne (fun q => e (adT_inj q).symm)]
    exact h x
theorem pick (a : Nat) {i : Int} (h0 : 0 ≤ i) (h1 : i < 2) : ∃ b : Bool, (∀ c, itemD (.lst [.ref a, .ref (a + 1)]) (.int i) c = .ok (.ref (adT a b)) c) ∧ ∀ c, itemD (.lst [.ref a, .ref (a + 1)]) (.int (1 - i)) c = .ok (.ref (adT a (!b))) c := by
  have : i = 0 ∨ i = 1 := by omega
  rcases this with rfl | rfl
  · exact ⟨false, fun _ => rfl, fun _ => rfl⟩
  · exact ⟨true, fun _ => rfl, fun _ => rfl⟩
theorem drawn24_ok {c : Cs} {k : Nat} {n : Int} {Q : D → Cs → Prop} (hb : Bx c k n) (hn : n ≤ 700000)
    (q : ∀ a is js c', SL is js → c.length ≤ a → c'[a]? = some (.lst (is.map D.int)) → c'[a + 1]? = some (.lst (js.map D.int)) → Bx c' k (n + 150) → Gr k c c' → Q (.lst [.ref a, .ref (a + 1)]) c') : Ok (g_law_drawn [.ref k] c) Q := by
  have hz : sizeLine = 16777216 := sizeLine_eq
  refine Ok.fun rfl ?_
  unfold c_law_drawn
  refine os_seq (os_set (ok_cb (ok_acons (ok_cb (ok_acons (ok_var rfl (ok_anil (rows_g hb (by omega) fun rs c1 hr0 b1 G1 => ok_anil ?_))))))))
  obtain ⟨ys, w, rfl, hr⟩ := hr0.rws
  refine lists24_ok hr fun is js hs => ?_
  have hlt := bx_lt hb
  have hkl := Nat.lt_of_lt_of_le hlt G1.1
  have b2 := bx_app b1 [.lst (is.map D.int), .lst (js.map D.int)]
  have G2 : Gr k c (c1 ++ [.lst (is.map D.int), .lst (js.map D.int)]) := G1.app _
  have T2 : Tw c1.length (fun b => if b = true then js else is) (c1 ++ [.lst (is.map D.int), .lst (js.map D.int)]) := fun b => by
    cases b
    · show (c1 ++ _)[c1.length]? = _
      rw [List.getElem?_append_right (Nat.le_refl _), Nat.sub_self]; rfl
    · show (c1 ++ _)[c1.length + 1]? = _
      rw [List.getElem?_append_right (by omega), Nat.add_sub_cancel_left]; rfl
  have hg1 := G1.1
  have S2 := hs.st
  obtain ⟨a, ha⟩ : ∃ a, a = c1.length := ⟨_, rfl⟩
  rw [← ha] at T2 hg1 hkl ⊢
  have hge : ∀ b, c.length ≤ adT a b := fun b => by cases b <;> simp [adT] <;> omega
  have ad : ∀ b, adT a b ≠ k := fun b => by cases b <;> simp [adT] <;> omega
  generalize c1 ++ [.lst (is.map D.int), .lst (js.map D.int)] = c2 at b2 G2 T2 ⊢
  generalize (fun b => if b = true then js else is) = T0 at T2 S2
  refine os_seq (os_for (ok_r1 (ok_acons (ok_op (ok_lst (ok_acons (ok_c (ok_acons (ok_c (ok_acons (ok_c (ok_acons (ok_c (ok_anil ⟨Nat.le_of_ble_eq_true rfl, ok_cb (ok_acons (ok_var rfl (ok_acons (ok_c (ok_anil (take_gr b2 (by omega) (by decide) (by decide) fun i3 c3 e0 e1 b3 G3 l3 => ?_))))))⟩))))))))))))))
  refine item_ints (xs := [0, 0, 1, 3]) e0 e1 fun many hmany => ?_
  have hmany : 0 ≤ many ∧ many ≤ 3 := by
    simp only [List.mem_cons, List.not_mem_nil, or_false] at hmany
    rcases hmany with rfl | rfl | rfl | rfl <;> decide
  refine ok_anil ⟨many, rfl, ⟨by omega, by omega⟩, ?_⟩
  refine OkS.for (fun ds l c' => (∃ o2 o3 o4 o5 o6, l = [some (.ref k), some (.lst [.ref a, .ref (a + 1)]), o2, o3, o4, o5, o6]) ∧ (∃ T, Tw a T c' ∧ ST T 0) ∧ Gr k c c' ∧ Bx c' k (n + 145 - 5 * ds.length) ∧ ds.length ≤ 3) ?_ ?_ _ _ _
    ⟨⟨_, _, _, _, _, rfl⟩, ⟨T0, T2.gr G3 ad, S2⟩, G2.trans G3, bx_mono b3 (by rw [rangeL_len]; omega), by rw [rangeL_len]; omega⟩
  · rintro l c' ⟨⟨o2, o3, o4, o5, o6, rfl⟩, ⟨T, hT, hS⟩, G, b, _⟩
    exact os_ret (ok_var rfl (q a (T false) (T true) c' hS.sl hg1 (hT false) (hT true) (bx_mono b (by simp)) G))
  · rintro d ds l c' ⟨⟨o2, o3, o4, o5, o6, rfl⟩, ⟨T, hT, hS⟩, G, b, hds⟩
    simp only [List.length_cons] at hds b
    refine ok_gn ?_
    refine os_seq (os_par (ok_acons (ok_cb (ok_acons (ok_var rfl (ok_acons (ok_c (ok_anil (take_gr b (by omega) (by decide) (by decide) fun i4 c4 g0 g1 b4 G4 l4 => ok_acons (ok_cb (ok_acons (ok_var rfl (ok_acons (ok_c (ok_anil (take_gr b4 (by omega) (by decide) (by decide) fun i5 c5 g2 g3 b5 G5 l5 => ok_anil ⟨_, _, rfl, ?_⟩))))))))))))))))
    obtain ⟨kb, I1, I2⟩ := pick a g0 g1
    obtain ⟨ob, M1, M2⟩ := pick a g2 g3
    have T5 := (hT.gr G4 ad).gr G5 ad
    refine os_seq (os_par (ok_acons (ok_cb (ok_acons (ok_var rfl (ok_acons (ok_cb (ok_acons (ok_op (ok_var rfl (ok_var rfl (Ok.of (I1 _) (ok_anil (Ok.of (len_ref (T5 kb)) (ok_anil (take_gr b5 (by omega) (by have := hS.l1 kb; omega) (by have := hS.l8 kb; omega) fun i6 c6 g4 g5 b6 G6 l6 => ?_))))))))))))))))
    have T6 := T5.gr G6 ad
    refine ok_acons (ok_cb (ok_acons (ok_var rfl (ok_acons (ok_cb (ok_acons (ok_op (ok_var rfl (ok_var rfl (Ok.of (M1 _) (ok_anil (Ok.of (len_ref (T6 ob)) (ok_anil (take_gr b6 (by omega) (by have := hS.l1 ob; omega) (by have := hS.l8 ob; omega) fun i7 c7 g6 g7 b7 G7 l7 => ok_anil ⟨_, _, rfl, ?_⟩))))))))))))))
    have T7 := T6.gr G7 ad
    obtain ⟨x, rfl⟩ := Int.eq_ofNat_of_zero_le g4
    obtain ⟨y, rfl⟩ := Int.eq_ofNat_of_zero_le g6
    have hx : x < (T kb).length := by omega
    have hy : y < (T ob).length := by omega
    have GG := (((G.trans G4).trans G5).trans G6).trans G7
    have fin : ∀ o5 o6 c8 T', Tw a T' c8 → ST T' 0 → Gr k c c8 → Bx c8 k (n + 145 - 5 * ds.length) → (∃ o2 o3 o4 o5' o6', [some (.ref k), some (.lst [.ref a, .ref (a + 1)]), some d, some (.int i4), some (.int i5), o5, o6] = [some (.ref k), some (.lst [.ref a, .ref (a + 1)]), o2, o3, o4, o5', o6']) ∧ (∃ T, Tw a T c8 ∧ ST T 0) ∧ Gr k c c8 ∧ Bx c8 k (n + 145 - 5 * ds.length) ∧ ds.length ≤ 3 :=
      fun o5 o6 c8 T' t st g b => ⟨⟨_, _, _, _, _, rfl⟩, ⟨T', t, st⟩, g, b, by omega⟩
    have b8 : Bx c7 k (n + 145 - 5 * ds.length) := bx_mono b7 (by omega)
    refine os_if (ok_tand (ok_t (ok_op (ok_op (ok_op (ok_var rfl (ok_var rfl (Ok.of (I1 _) (ok_var rfl (Ok.of (item_ref (T7 kb) hx) (ok_cb (ok_acons (ok_op (ok_var rfl (ok_op (ok_c (ok_var rfl ⟨_, _, rfl, Ok.of (I2 _) (ok_anil (Ok.of (len_ref (T7 (!kb))) ⟨_, _, rfl, _, rfl, fun h1 => ?_, fun h1 => ?_⟩))⟩)))))))))))))))))
    · have h1 : (T kb)[x] < ((T (!kb)).length : Int) := of_decide_eq_true h1
      refine ok_t (ok_op (ok_op (ok_op (ok_var rfl (ok_var rfl (Ok.of (M1 _) (ok_var rfl (Ok.of (item_ref (T7 ob) hy) (ok_c ⟨_, _, rfl, _, rfl, fun h2 => ?_, fun h2 => os_nil ?_⟩)))))))))
      rotate_left
      · exact fin _ _ _ T T7 hS GG b8
      have h2 : 0 < (T ob)[y] := of_decide_eq_true h2
      have hzx := hS.bd kb _ (List.getElem_mem hx)
      have S1 := hS.set kb hx (z := (T kb)[x] + 1) (by omega) (by omega)
      rw [show (0 : Int) + (T kb)[x] - ((T kb)[x] + 1) = -1 by omega] at S1
      refine os_seq (os_asg (ok_op (ok_op (ok_op (ok_var rfl (ok_var rfl (Ok.of (I1 _) (ok_var rfl (Ok.of (item_ref (T7 kb) hx) (ok_c ⟨_, _, rfl, ok_gs (ok_op (ok_var rfl (ok_var rfl (Ok.of (I1 _) (ok_var rfl (Ok.of (put_ref (T7 kb) hx _) ?_))))))⟩))))))))))
      have T8 := T7.set kb ((T kb).set x ((T kb)[x] + 1))
      have G8 : Gr k c (c7.set (adT a kb) (.lst (((T kb).set x ((T kb)[x] + 1)).map D.int))) := GG.set (hge kb) _
      have b9 := bx_set b8 (ad kb) (.lst (((T kb).set x ((T kb)[x] + 1)).map D.int))
      have hl : (updT T kb ((T kb).set x ((T kb)[x] + 1)) ob).length = (T ob).length := by
        unfold updT
        split
        · rename_i e; rw [e, List.length_set]
        · rfl
      have hyu : y < (updT T kb ((T kb).set x ((T kb)[x] + 1)) ob).length := by omega
      have u3 : 0 < (updT T kb ((T kb).set x ((T kb)[x] + 1)) ob)[y] := by
        by_cases e : ob = kb
        · subst e
          have e2 : updT T ob ((T ob).set x ((T ob)[x] + 1)) ob = (T ob).set x ((T ob)[x] + 1) := if_pos rfl
          simp only [e2, List.getElem_set]
          split
          · omega
          · exact h2
        · have e2 : updT T kb ((T kb).set x ((T kb)[x] + 1)) ob = T ob := if_neg e
          simp only [e2]
          exact h2
      generalize updT T kb ((T kb).set x ((T kb)[x] + 1)) = T1 at T8 S1 hyu u3
      have hb1 := S1.bd ob _ (List.getElem_mem hyu)
      have S3 := S1.set ob hyu (z := (T1 ob)[y] - 1) (by omega) (by omega)
      rw [show (-1 : Int) + (T1 ob)[y] - ((T1 ob)[y] - 1) = 0 by omega] at S3
      refine os_asg (ok_op (ok_op (ok_op (ok_var rfl (ok_var rfl (Ok.of (M1 _) (ok_var rfl (Ok.of (item_ref (T8 ob) hyu) (ok_c ⟨_, _, rfl, ok_gs (ok_op (ok_var rfl (ok_var rfl (Ok.of (M1 _) (ok_var rfl (Ok.of (put_ref (T8 ob) hyu _) ?_))))))⟩)))))))))
      exact fin _ _ _ _ (T8.set ob _) S3 (G8.set (hge ob) _) (bx_set b9 (ad ob) _)
    · exact ⟨fun h => Bool.noConfusion h, fun _ => os_nil (fin _ _ _ T T7 hS GG b8)⟩

/-! ### lists that no cloth has, far off -/
theorem SL.perm {is js is2 js2 : List Int} (h : SL is js) (p : is2.Perm is) (r : js2.Perm js) : SL is2 js2 := by
  have e1 := p.length_eq
  have e2 := r.length_eq
  refine ⟨by rw [e1]; exact h.i1, by rw [e1]; exact h.i8, by rw [e2]; exact h.j1, by rw [e2]; exact h.j8, fun x hx => by rw [e2]; exact h.ib x (p.mem_iff.mp hx), fun x hx => by rw [e1]; exact h.jb x (r.mem_iff.mp hx), ?_⟩
  rw [sum_perm p, sum_perm r, e1, e2]
  exact h.tot
theorem sum_rep (n : Nat) (x : Int) : (List.replicate n x).sum = n * x := by
  induction n with
  | zero => simp
  | succ n ih =>
    rw [List.replicate_succ, List.sum_cons, ih, show ((n + 1 : Nat) : Int) = (n : Int) + 1 by omega, Int.add_mul, Int.one_mul]
    omega
def farL (u v : Nat) : List Int := List.replicate u (2 * (v : Int)) ++ List.replicate u 0
theorem far_SL {u v : Nat} (u1 : 1 ≤ u) (u4 : u ≤ 4) (v1 : 1 ≤ v) (v4 : v ≤ 4) : SL (farL u v) (farL v u) := by
  have ln : ∀ a b, (farL a b).length = 2 * a := fun a b => by simp [farL]; omega
  have mem : ∀ a b x, x ∈ farL a b → 0 ≤ x ∧ x ≤ 2 * (b : Int) := fun a b x hx => by
    unfold farL at hx
    rcases List.mem_append.mp hx with h | h
    · rw [(List.mem_replicate.mp h).2]; omega
    · rw [(List.mem_replicate.mp h).2]; omega
  refine ⟨by rw [ln]; omega, by rw [ln]; omega, by rw [ln]; omega, by rw [ln]; omega, fun x hx => ?_, fun x hx => ?_, ?_⟩
  · have := mem _ _ _ hx; rw [ln]; omega
  · have := mem _ _ _ hx; rw [ln]; omega
  · rw [ln, ln]
    unfold farL
    simp only [List.sum_append_int, sum_rep]
    have e : ((2 * u : Nat) : Int) * ((2 * v : Nat) : Int) = 4 * ((u : Int) * v) := by
      rw [show ((2 * u : Nat) : Int) = 2 * (u : Int) by omega, show ((2 * v : Nat) : Int) = 2 * (v : Int) by omega, Int.mul_assoc, Int.mul_left_comm (u : Int)]
      omega
    rw [e]
    have e2 : (u : Int) * (2 * (v : Int)) = 2 * ((u : Int) * v) := by rw [Int.mul_left_comm]
    have e3 : (v : Int) * (2 * (u : Int)) = 2 * ((u : Int) * v) := by rw [Int.mul_left_comm, Int.mul_comm (v : Int)]
    rw [e2, e3]
    omega
theorem mulF (x : D) (k : Int) (c : Cs) (h0 : 0 ≤ k) (h1 : k ≤ 1000) : mulX false (.lst [x]) (.int k) c = .ok (.lst (List.replicate k.toNat x)) c := by
  have e : repL [x] k = List.replicate k.toNat x := by
    show (List.replicate k.toNat [x]).flatten = _
    induction k.toNat with
    | zero => rfl
    | succ m ih => rw [List.replicate_succ, List.replicate_succ, List.flatten_cons, ih]; rfl
  show (if mulLim [x].length k then (if false = true then (.ok (.ref c.length) (c ++ [Cell.lst (repL [x] k)]) : Mi.R D) else .ok (.lst (repL [x] k)) c) else .stuck) = _
  rw [e]
  have : mulLim [x].length k := ⟨by show 1 * k.toNat ≤ 100000; omega, by omega, by omega⟩
  exact if_pos this
theorem mul_two (v : Nat) (h : v ≤ 8) (c : Cs) : mulI (.int 2) (.int (v : Int)) c = .ok (.int (2 * (v : Int))) c := by
  show (if CMul 2 (v : Int) then (.ok (.int (2 * (v : Int))) c : Mi.R D) else .stuck) = _
  rw [if_pos (show CMul 2 (v : Int) from Or.inl ⟨by decide, by decide⟩)]
theorem far_row {u v : Nat} (hu : u ≤ 8) (c : Cs) {Q : D → Cs → Prop} {l : Ls} (hv : v ≤ 8) {i j : Nat} (hi : l[i]? = some (some (.int (v : Nat)))) (hj : l[j]? = some (some (.int (u : Nat)))) (q : Q (.lst ((farL u v).map D.int)) c) :
    Ok (mOp addD (mOp (mulX false) (mLst (aCons (mOp mulI (mC (.int 2)) (mVar i)) (aNil))) (mVar j)) (mOp (mulX false) (mLst (aCons (mC (.int 0)) (aNil))) (mVar j)) l c) Q := by
  have hz : sizeLine = 16777216 := sizeLine_eq
  refine ok_op (ok_op (ok_lst (ok_acons (ok_op (ok_c (ok_var hi (Ok.of (mul_two v hv c) (ok_anil ⟨Nat.le_of_ble_eq_true rfl, ok_var hj (Ok.of (mulF _ _ c (by omega) (by omega)) ?_)⟩))))))))
  refine ok_op (ok_lst (ok_acons (ok_c (ok_anil ⟨Nat.le_of_ble_eq_true rfl, ok_var hj (Ok.of (mulF _ _ c (by omega) (by omega)) ?_)⟩))))
  rw [Int.toNat_natCast]
  refine ok_add_lst (by simp; omega) ?_
  unfold farL at q
  rw [List.map_append, List.map_replicate, List.map_replicate] at q
  exact q
def rotL (l : List Int) (n : Nat) : List Int := l.drop n ++ l.take n
theorem rotL_perm (l : List Int) (n : Nat) : (rotL l n).Perm l := by
  unfold rotL
  refine List.perm_append_comm.trans ?_
  rw [List.take_append_drop]
theorem far_ok {c : Cs} {k : Nat} {n : Int} {Q : D → Cs → Prop} (hb : Bx c k n) (hn : n ≤ 700000)
    (q : ∀ is js c', SL is js → Bx c' k (n + 150) → Gr k c c' → Q (.lst [.lst (is.map D.int), .lst (js.map D.int)]) c') : Ok (g_law_far [.ref k] c) Q := by
  have hz : sizeLine = 16777216 := sizeLine_eq
  refine Ok.fun rfl ?_
  unfold c_law_far
  refine os_seq (os_asg (ok_tup (ok_acons (ok_op (ok_c (ok_cb (ok_acons (ok_var rfl (ok_acons (ok_c (ok_anil (take_gr hb (by omega) (by decide) (by decide) fun u c1 u0 u1 b1 G1 _ => ⟨_, _, rfl, ?_⟩))))))))))))
  refine ok_acons (ok_op (ok_c (ok_cb (ok_acons (ok_var rfl (ok_acons (ok_c (ok_anil (take_gr b1 (by omega) (by decide) (by decide) fun v c2 v0 v1 b2 G2 _ => ⟨_, _, rfl, ?_⟩)))))))))
  refine ok_acons (ok_cb (ok_acons (ok_var rfl (ok_acons (ok_c (ok_anil (take_gr b2 (by omega) (by decide) (by decide) fun t c3 t0 t1 b3 G3 _ => ok_anil ⟨Nat.le_of_ble_eq_true rfl, _, _, rfl, ?_⟩)))))))
  obtain ⟨u', rfl⟩ := Int.eq_ofNat_of_zero_le u0
  obtain ⟨v', rfl⟩ := Int.eq_ofNat_of_zero_le v0
  obtain ⟨t, rfl⟩ := Int.eq_ofNat_of_zero_le t0
  obtain ⟨u, hu⟩ : ∃ u, u = 1 + u' := ⟨_, rfl⟩
  obtain ⟨v, hv⟩ : ∃ v, v = 1 + v' := ⟨_, rfl⟩
  have eu : (1 : Int) + (u' : Int) = (u : Nat) := by omega
  have ev : (1 : Int) + (v' : Int) = (v : Nat) := by omega
  rw [eu, ev]
  have hs := far_SL (u := u) (v := v) (by omega) (by omega) (by omega) (by omega)
  refine os_seq (os_set (ok_lst (ok_acons (far_row (by omega) c3 (by omega) rfl rfl (ok_acons (far_row (by omega) c3 (by omega) rfl rfl (ok_anil ⟨Nat.le_of_ble_eq_true rfl, ?_⟩)))))))
  have G := (G1.trans G2).trans G3
  refine os_ret (ok_lcY [farL u v, farL v u] (fun l => D.lst (l.map D.int)) (fun l => D.lst ((rotL l (t % l.length)).map D.int)) (by simp) (ok_ktree (ok_var rfl ⟨rfl, rfl⟩)) (fun l hl => ?_) ?_)
  · have h16 : 1 ≤ l.length ∧ l.length ≤ 8 := by
      simp only [List.mem_cons, List.not_mem_nil, or_false] at hl
      rcases hl with rfl | rfl
      · exact ⟨hs.i1, hs.i8⟩
      · exact ⟨hs.j1, hs.j8⟩
    have hmod : modI (.int (t : Nat)) (.int (l.length : Nat)) c3 = .ok (.int ((t % l.length : Nat) : Int)) c3 := by
      show (if CNz (t : Int) (l.length : Int) then (.ok (.int ((t : Int).fmod (l.length : Int))) c3 : Mi.R D) else .stuck) = _
      rw [if_pos (show CNz (t : Int) (l.length : Int) from by show (l.length : Int) ≠ 0; omega), fmod_nat]
    have cf : Mi.cutD (l.map D.int) (some ((t % l.length : Nat) : Int)) none = (l.drop (t % l.length)).map D.int := by rw [cutD_map, cutL_from _ (by omega), Int.toNat_natCast]
    have ct : Mi.cutD (l.map D.int) none (some ((t % l.length : Nat) : Int)) = (l.take (t % l.length)).map D.int := by rw [cutD_map, cutL_to _ (by omega), Int.toNat_natCast]
    have s1 : sliceY (.lst (l.map D.int)) (some ((t % l.length : Nat) : Int)) none c3 = .ok (.lst ((l.drop (t % l.length)).map D.int)) c3 := by rw [← cf]; rfl
    have s2 : sliceY (.lst (l.map D.int)) none (some ((t % l.length : Nat) : Int)) c3 = .ok (.lst ((l.take (t % l.length)).map D.int)) c3 := by rw [← ct]; rfl
    refine ok_gn ⟨rfl, ok_op (ok_slY (ok_var rfl (ok_osome (ok_op (ok_var rfl (ok_cb (ok_acons (ok_var rfl (ok_anil (ok_len_map (Ok.of hmod ⟨_, rfl, ok_onone (Ok.of s1 ?_)⟩)))))))))))⟩
    refine ok_slY (ok_var rfl (ok_onone (ok_osome (ok_op (ok_var rfl (ok_cb (ok_acons (ok_var rfl (ok_anil (ok_len_map (Ok.of hmod ⟨_, rfl, Ok.of s2 ?_⟩)))))))))))
    refine ok_add_lst (by simp; omega) ⟨?_, rfl⟩
    unfold rotL
    rw [List.map_append]
  · exact q _ _ c3 (hs.perm (rotL_perm _ _) (rotL_perm _ _)) (bx_mono b3 (by omega)) G

theorem kinds_ne : ¬ ((Sum.inr ("warp" : Str) : Key) = Sum.inr ("weft" : Str)) := fun e => nW (Sum.inr.inj e)
theorem dget_warp {k : Nat} {c : Cs} {x y : D} (hk : c[k]? = some (.dct [(.inr "warp", x), (.inr "weft", y)])) : dgetI (.ref k) (.str "warp") c = .ok x c := by
  have e : dctOf (.ref k) c = some [(.inr "warp", x), (.inr "weft", y)] := by simp [dctOf, hk]
  have g : getK [((.inr "warp" : Key), x), (.inr "weft", y)] (.inr "warp") = some x := by
    unfold getK
    rw [List.find?_cons]
    simp
  unfold dgetI
  rw [e]
  simp only [Mi.keyOf, g]
theorem dget_weft {k : Nat} {c : Cs} {x y : D} (hk : c[k]? = some (.dct [(.inr "warp", x), (.inr "weft", y)])) : dgetI (.ref k) (.str "weft") c = .ok y c := by
  have e : dctOf (.ref k) c = some [(.inr "warp", x), (.inr "weft", y)] := by simp [dctOf, hk]
  have g : getK [((.inr "warp" : Key), x), (.inr "weft", y)] (.inr "weft") = some y := by
    unfold getK
    rw [List.find?_cons]
    simp only [kinds_ne, decide_false]
    rw [List.find?_cons]
    simp
  unfold dgetI
  rw [e]
  simp only [Mi.keyOf, g]
theorem dget_kd {k : Nat} {c : Cs} {x y : D} (b : Bool) (hk : c[k]? = some (.dct [(.inr "warp", x), (.inr "weft", y)])) : dgetI (.ref k) (.str (kdS b)) c = .ok (if b = true then y else x) c := by
  cases b
  · exact dget_warp hk
  · exact dget_weft hk

/-! ### Scores: its value, threads, score_of -/
def scoD (kd : Nat) : D := .obj "Scores" [("kept_scores", .ref kd)]
structure Kp (T : Bool → List Int) (kd : Nat) (c : Cs) : Prop where
  at_ : c[kd]? = some (keptS (T false) (T true))
theorem Kp.pfx {T : Bool → List Int} {kd : Nat} {c c' : Cs} (h : Kp T kd c) (p : Pfx c c') : Kp T kd c' := ⟨p.get h.at_⟩
theorem Kp.get {T : Bool → List Int} {kd : Nat} {c : Cs} (h : Kp T kd c) (b : Bool) : dgetI (.ref kd) (.str (kdS b)) c = .ok (.lst ((T b).map D.int)) c := by
  have e := dget_kd (x := .lst ((T false).map D.int)) (y := .lst ((T true).map D.int)) b h.at_
  rw [e]
  cases b <;> rfl
theorem fld_hit {kd i : Nat} {l : Ls} {c : Cs} (h : l[i]? = some (some (scoD kd))) : mFld ["Scores"] "kept_scores" (mVar i) l c = .ok (.ref kd) c := by
  refine Ok.eq (Ok.bind (ok_var h ?_))
  have e : fldR ["Scores"] "kept_scores" (scoD kd) c = .ok (.ref kd) c := by kernel_rfl
  exact Ok.of e ⟨rfl, rfl⟩
theorem score_ok {T : Bool → List Int} {kd : Nat} {c : Cs} (h : Kp T kd c) {t : Th} {x : Int} (ht : (T t.1)[t.2]? = some x) : gScores__score_of [scoD kd, thD t] c = .ok (.int x) c := by
  refine Ok.eq (Ok.fun rfl ?_)
  unfold cScores__score_of
  refine os_seq (os_asg (ok_var rfl ⟨_, _, rfl, ?_⟩))
  refine os_ret (ok_op (ok_op (Ok.of (fld_hit rfl) (ok_var rfl (Ok.of (h.get t.1) (ok_var rfl (Ok.of (item_seq (xs := (T t.1).map D.int) (i := t.2) (x := .int x) rfl (by rw [List.getElem?_map, ht]; rfl)) ⟨rfl, rfl⟩)))))))
def thT (T : Bool → List Int) : List Th := ([false, true].flatMap fun b => (List.range (T b).length).map fun i => (b, i))
theorem threads_ok {T : Bool → List Int} {kd : Nat} {c : Cs} (h : Kp T kd c) (h8 : ∀ b, (T b).length ≤ 8) : gScores__threads [scoD kd] c = .ok (.lst ((thT T).map thD)) c := by
  refine Ok.eq (Ok.fun rfl ?_)
  unfold cScores__threads
  refine os_ret (ok_lc2 [false, true] (fun b => D.str (kdS b)) (fun _ => true) (fun b => List.range (T b).length) (fun i : Nat => D.int (i : Int)) (fun _ _ => true) (fun b i => thD (b, i)) (by simp) ?_ (fun b hb => ?_) ?_)
  · exact ok_kfix (ds := [.str (kdS false), .str (kdS true)]) rfl ⟨rfl, fun _ _ => rfl⟩
  · refine ok_gn ⟨rfl, _, _, rfl, rfl, rfl, fun _ => ⟨by have := h8 b; simp; omega, ok_kr ?_ (by have := h8 b; omega), fun j hj => ok_gn ⟨rfl, _, _, rfl, rfl, rfl, fun _ => ok_tup (ok_acons (ok_var rfl (ok_acons (ok_var rfl (ok_anil ⟨Nat.le_of_ble_eq_true rfl, rfl, rfl⟩)))))⟩⟩⟩
    exact ok_acons (ok_cb (ok_acons (ok_op (Ok.of (fld_hit rfl) (ok_var rfl (Ok.of (h.get b) (ok_anil (ok_len_map (ok_anil ⟨rfl, rfl⟩)))))))))
  · refine ⟨?_, rfl⟩
    unfold thT
    rw [List.map_flatMap, L2.Mi.filter_all]
    simp [List.map_map, Function.comp_def, L2.Mi.filter_all]

theorem ok_extend {k : Nat} {xs zs : List D} {y : D} {c : Cs} {Q : D → Cs → Prop} (h : c[k]? = some (.lst xs)) (hy : lstC y c = some zs) (hl : xs.length + zs.length ≤ sizeLine) (q : Q .non (c.set k (.lst (xs ++ zs)))) : Ok (extendD (.ref k) [y] c) Q :=
  ⟨_, _, by unfold extendD cellX; simp only [h, hy]; exact if_pos hl, q⟩
/-! ### sorted by the scores -/
theorem keysK_map {α : Type} {g : D → Cs → Mi.R D} {enc : α → D} {key : α → Int} {c : Cs} : ∀ xs : List α, (∀ x ∈ xs, g (enc x) c = .ok (.int (key x)) c) → keysK g (xs.map enc) c = .ok (xs.map key) c
  | [], _ => rfl
  | x :: xs, h => by
    have h1 := h x List.mem_cons_self
    have h2 := keysK_map xs fun y hy => h y (List.mem_cons_of_mem _ hy)
    show (match g (enc x) c with
      | .ok (.int i) c1 => (match keysK g (xs.map enc) c1 with
        | .ok is c2 => (.ok (i :: is) c2 : Mi.R (List Int))
        | _ => .stuck)
      | _ => .stuck) = _
    rw [h1]
    simp only [h2]
    rfl
theorem sortBy_ord (l : List Int) (f : Nat → D) : sortBy l ((List.range l.length).map f) = (ordI l).map fun x => f x.2 := by
  have e : l.zip ((List.range l.length).map f) = (prI l).map fun p => (p.1, f p.2) := by
    unfold prI
    rw [List.zip_map_right]
    rfl
  unfold sortBy ordI
  rw [e, ← List.map_mergeSort (r := keyLe) (f := fun p : Int × Nat => (p.1, f p.2)) (fun a _ b _ => rfl), List.map_map]
  rfl
def lowL (T : Bool → List Int) (b : Bool) (n : Nat) : List Th := ((ordI (T b)).take n).map fun x => (b, x.2)
def lowT (T : Bool → List Int) (s t : Nat) : List Th := lowL T false s ++ lowL T true t
section
variable {T : Bool → List Int} {kd : Nat} {c : Cs} {l : Ls} {o : ME} {t : MA} {mm : Str} {g : List D → Cs → Mi.R D}
theorem sc_meth (hm : (mm == ("kept_scores" : Str)) = false) (h0 : o l c = .ok (scoD kd) c) : mMeth [("Scores", g)] mm o t l c = (t l c).bind fun xs c2 => g (scoD kd :: xs) c2 := by
  have e1 : List.lookup mm [(("kept_scores" : Str), D.ref kd)] = none := by simp only [List.lookup, hm]
  have e2 : List.lookup ("Scores" : Str) [(("Scores" : Str), g)] = some g := by simp [List.lookup]
  show (o l c).bind _ = _
  rw [h0]
  show (match List.lookup ("Scores" : Str) [(("Scores" : Str), g)] with
    | some g => (match List.lookup mm [(("kept_scores" : Str), D.ref kd)] with
      | none => (t l c).bind fun xs c2 => g (scoD kd :: xs) c2
      | some _ => .stuck)
    | none => .stuck) = _
  rw [e2]
  simp only [e1]
theorem ok_sc {i : Nat} {Q : D → Cs → Prop} (hm : (mm == ("kept_scores" : Str)) = false) (h0 : l[i]? = some (some (scoD kd))) (q : Ok (t l c) fun xs c2 => Ok (g (scoD kd :: xs) c2) Q) : Ok (mMeth [("Scores", g)] mm (mVar i) t l c) Q := by
  rw [sc_meth (kd := kd) hm (Ok.eq (ok_var h0 ⟨rfl, rfl⟩))]
  exact Ok.bind q
theorem thr_eq (h : Kp T kd c) (h8 : ∀ b, (T b).length ≤ 8) {i : Nat} (h0 : l[i]? = some (some (scoD kd))) : iLst (mMeth [("Scores", gScores__threads)] "threads" (mVar i) aNil) l c = .ok ((thT T).map thD) c := by
  have : mMeth [("Scores", gScores__threads)] "threads" (mVar i) aNil l c = .ok (.lst ((thT T).map thD)) c := Ok.eq (ok_sc (by decide +kernel) h0 (ok_anil (Ok.of (threads_ok h h8) ⟨rfl, rfl⟩)))
  unfold iLst
  rw [this]
  rfl
theorem thT_filter (b : Bool) : (thT T).filter (fun t => t.1 == b) = (List.range (T b).length).map fun i => (b, i) := by
  have hF : ∀ l : List Nat, l.filter (fun _ => false) = [] := fun l => List.filter_eq_nil_iff.mpr (by simp)
  unfold thT
  cases b <;> simp [List.filter_map, Function.comp_def, L2.Mi.filter_all, hF]
theorem thT_len (h8 : ∀ b, (T b).length ≤ 8) : (thT T).length ≤ 16 := by
  have h1 := h8 false
  have h2 := h8 true
  simp [thT]
  omega
theorem sortM_ok {s n : Nat} {b : Bool} {t p : Nat} {o6 : Option D} (h : Kp T kd c) (h8 : ∀ b, (T b).length ≤ 8) : mSortM [("Scores", gScores__score_of)] "score_of" (aCons (mLc (iLst (mMeth [("Scores", gScores__threads)] "threads" (mVar 0) aNil)) [7] (gN 7) (mT (mOp eqX (mOp itemD (mVar 7) (mC (.int 0))) (mVar 4))) (mVar 7)) (aNil)) (mVar 0)
    [some (scoD kd), some (.int (s : Nat)), some (.int (t : Nat)), some (.ref p), some (.str (kdS b)), some (.int (n : Nat)), o6, none] c = .ok (.lst ((ordI (T b)).map fun x => thD (b, x.2))) c := by
  have h16 := thT_len h8
  have e1 : mLc (iLst (mMeth [("Scores", gScores__threads)] "threads" (mVar 0) aNil)) [7] (gN 7) (mT (mOp eqX (mOp itemD (mVar 7) (mC (.int 0))) (mVar 4))) (mVar 7) [some (scoD kd), some (.int (s : Nat)), some (.int (t : Nat)), some (.ref p), some (.str (kdS b)), some (.int (n : Nat)), o6, none] c = .ok (.lst ((List.range (T b).length).map fun i => thD (b, i))) c := by
    refine Ok.eq (ok_mlc (thr_eq h h8 rfl) (by rw [List.length_map]; omega) (ok_lcT (thT T) thD thD (fun t => t.1 == b) (by omega) (ok_kfix (thr_eq h h8 rfl) ⟨rfl, fun _ _ => rfl⟩) (fun t ht => ?_) ⟨?_, rfl⟩))
    · exact ok_gn ⟨rfl, ok_t (ok_op (ok_op (ok_var rfl (ok_c (Ok.of (th0 t c) (ok_var rfl (Ok.of (eq_kd _ _ _) ⟨_, rfl, rfl, rfl, fun _ => ok_var rfl ⟨rfl, rfl⟩⟩)))))))⟩
    · rw [thT_filter, List.map_map]
      rfl
  have e2 : List.lookup ("score_of" : Str) [(("kept_scores" : Str), D.ref kd)] = none := by
    have : (("score_of" : Str) == ("kept_scores" : Str)) = false := by decide +kernel
    simp only [List.lookup, this]
  have e3 : List.lookup ("Scores" : Str) [(("Scores" : Str), gScores__score_of)] = some gScores__score_of := by simp [List.lookup]
  have e4 : viaK [("Scores", gScores__score_of)] "score_of" (.lst ((List.range (T b).length).map fun i => thD (b, i))) (scoD kd) c = .ok (.lst ((ordI (T b)).map fun x => thD (b, x.2))) c := by
    show (match List.lookup ("Scores" : Str) [(("Scores" : Str), gScores__score_of)] with
      | some g => (match List.lookup ("score_of" : Str) [(("kept_scores" : Str), D.ref kd)] with
        | none => sortK (fun y => g [scoD kd, y]) (.lst ((List.range (T b).length).map fun i => thD (b, i))) c
        | some _ => .stuck)
      | none => .stuck) = _
    rw [e3]
    simp only [e2]
    show (match keysK (fun y => gScores__score_of [scoD kd, y]) ((List.range (T b).length).map fun i => thD (b, i)) c with
      | .ok is c' => (.ok (.lst (sortBy is ((List.range (T b).length).map fun i => thD (b, i)))) c' : Mi.R D)
      | _ => .stuck) = _
    rw [keysK_map (key := fun i => ((T b)[i]?).getD 0) (List.range (T b).length) fun i hi => by
      have hi := List.mem_range.mp hi
      exact score_ok (t := (b, i)) h (by show (T b)[i]? = _; rw [List.getElem?_eq_getElem hi]; rfl)]
    have e5 : (List.range (T b).length).map (fun i => ((T b)[i]?).getD 0) = T b := by
      refine List.ext_getElem (by simp) fun i h1 h2 => ?_
      simp [h2]
    rw [e5]
    simp only [sortBy_ord (T b) fun i => thD (b, i)]
  unfold mSortM
  have e6 : ∀ l c', aCons (mLc (iLst (mMeth [("Scores", gScores__threads)] "threads" (mVar 0) aNil)) [7] (gN 7) (mT (mOp eqX (mOp itemD (mVar 7) (mC (.int 0))) (mVar 4))) (mVar 7)) (aNil) l c' = (mLc (iLst (mMeth [("Scores", gScores__threads)] "threads" (mVar 0) aNil)) [7] (gN 7) (mT (mOp eqX (mOp itemD (mVar 7) (mC (.int 0))) (mVar 4))) (mVar 7) l c').bind fun x c1 => (aNil l c1).bind fun xs c2 => .ok (x :: xs) c2 := fun _ _ => rfl
  rw [e6, e1]
  exact e4
end
theorem lowest_ok {T : Bool → List Int} {kd s t : Nat} {c : Cs} {Q : D → Cs → Prop} (h : Kp T kd c) (h8 : ∀ b, (T b).length ≤ 8) (q : ∀ c', Pfx c c' → Q (.lst ((lowT T s t).map thD)) c') : Ok (gScores__lowest [scoD kd, .int (s : Nat), .int (t : Nat)] c) Q := by
  have hz : sizeLine = 16777216 := sizeLine_eq
  have ll : ∀ b n, (lowL T b n).length ≤ 8 := fun b n => by
    have := h8 b
    have h2 := ord_len (T b)
    unfold lowL
    rw [List.length_map, List.length_take]
    omega
  refine Ok.fun rfl ?_
  unfold cScores__lowest
  refine os_seq (os_set (ok_lstM (ok_anil ⟨Nat.zero_le _, ?_⟩)))
  refine os_seq (XS.oks (xs_forW [(false, s), (true, t)] (fun x : Bool × Nat => .tup [.str (kdS x.1), .int (x.2 : Nat)]) (fun rest l c' => ∃ dn o4 o5 o6, [(false, s), (true, t)] = dn ++ rest ∧ l = [some (scoD kd), some (.int (s : Nat)), some (.int (t : Nat)), some (.ref c.length), o4, o5, o6, none] ∧ c' = c ++ [.lst ((dn.flatMap fun x => lowL T x.1 x.2).map thD)]) (by simp) ?_ ?_ ?_))
  · refine ok_kzip (x := .tup [.str "warp", .str "weft"]) (y := .tup [.int (s : Nat), .int (t : Nat)]) (xs := [.str "warp", .str "weft"]) (ys := [.int (s : Nat), .int (t : Nat)]) (ok_acons (ok_c (ok_acons (ok_tup (ok_acons (ok_var rfl (ok_acons (ok_var rfl (ok_anil ⟨Nat.le_of_ble_eq_true rfl, ok_anil ⟨rfl, rfl, rfl, ⟨[], _, _, _, rfl, rfl, rfl⟩, fun rest l' c' _ i hi => ?_⟩⟩)))))))))
    exact zipW_tree (xs := [.str "warp", .str "weft"]) (ys := [.int (s : Nat), .int (t : Nat)]) rfl rfl c' i hi
  · rintro l c' ⟨dn, o4, o5, o6, hd, rfl, rfl⟩
    rw [List.append_nil] at hd
    subst hd
    refine os_ret (ok_frz (ok_var rfl ⟨_, _, rfl, cell_last _, ?_⟩))
    rw [set_last]
    have e : ([(false, s), (true, t)].flatMap fun x => lowL T x.1 x.2) = lowT T s t := by simp [lowT]
    rw [e]
    exact q _ (Pfx.one _ _)
  · rintro x rest l c' ⟨dn, o4, o5, o6, hd, rfl, rfl⟩
    have h1 : Kp T kd (c ++ [.lst ((dn.flatMap fun x => lowL T x.1 x.2).map thD)]) := h.pfx (Pfx.one _ _)
    have hdl : (dn.flatMap fun x => lowL T x.1 x.2).length ≤ 16 := by
      have hl := congrArg List.length hd
      have h1 : dn.length ≤ 1 := by simp at hl; omega
      clear hl hd
      match dn, h1 with
      | [], _ => simp
      | [a], _ => simp; have := ll a.1 a.2; omega
      | a :: b :: r, h1 => simp at h1
    have hsl : sliceY (.lst ((ordI (T x.1)).map fun y => thD (x.1, y.2))) none (some (x.2 : Int)) (c ++ [.lst ((dn.flatMap fun x => lowL T x.1 x.2).map thD)]) = .ok (.lst ((lowL T x.1 x.2).map thD)) (c ++ [.lst ((dn.flatMap fun x => lowL T x.1 x.2).map thD)]) := by
      have e : Mi.cutD ((ordI (T x.1)).map fun y => thD (x.1, y.2)) none (some (x.2 : Int)) = (lowL T x.1 x.2).map thD := by
        rw [cutD_map, cutL_to _ (by omega), Int.toNat_natCast]
        unfold lowL
        rw [List.map_map]
        rfl
      rw [← e]
      rfl
    refine ⟨_, _, rfl, OkS.xs ?_⟩
    refine os_seq (os_set (Ok.of (sortM_ok h1 h8) ?_))
    refine os_expr (ok_bm (ok_var rfl ⟨isL_ref (cell_last _), ok_acons (ok_slY (ok_var rfl (ok_onone (ok_osome (ok_var rfl ⟨_, rfl, Ok.of hsl (ok_anil (ok_extend (cell_last _) rfl (by rw [List.length_map, List.length_map]; have := ll x.1 x.2; omega) ?_))⟩)))))⟩))
    refine ⟨dn ++ [x], _, _, _, by rw [hd, List.append_assoc]; rfl, rfl, ?_⟩
    rw [set_last, List.flatMap_append, List.flatMap_singleton, List.map_append]

/-! ### excess, pairs, violation -/
def scr (T : Bool → List Int) (t : Th) : Int := ((T t.1)[t.2]?).getD 0
theorem low_at {T : Bool → List Int} {b : Bool} {n : Nat} {u : Th} (h : u ∈ lowL T b n) : (T u.1)[u.2]? = some (scr T u) ∧ inB2 (T false).length (T true).length u := by
  unfold lowL at h
  obtain ⟨x, hx, rfl⟩ := List.mem_map.mp h
  obtain ⟨h1, h2⟩ := ord_mem (List.mem_of_mem_take hx)
  refine ⟨?_, ?_⟩
  · show (T b)[x.2]? = some (((T b)[x.2]?).getD 0)
    rw [h2]
    rfl
  · cases b
    · exact h1
    · exact h1
theorem lowT_at {T : Bool → List Int} {s t : Nat} {u : Th} (h : u ∈ lowT T s t) : (T u.1)[u.2]? = some (scr T u) ∧ inB2 (T false).length (T true).length u := by
  rcases List.mem_append.mp h with h | h
  · exact low_at h
  · exact low_at h
theorem low_sum (T : Bool → List Int) (b : Bool) (n : Nat) : ((lowL T b n).map (scr T)).sum = preI (T b) n := by
  rw [← ord_sum]
  unfold lowL
  rw [List.map_map]
  congr 1
  refine List.map_congr_left fun x hx => ?_
  obtain ⟨h1, h2⟩ := ord_mem (List.mem_of_mem_take hx)
  show ((T b)[x.2]?).getD 0 = x.1
  rw [h2]
  rfl
theorem lowT_sum (T : Bool → List Int) (s t : Nat) : ((lowT T s t).map (scr T)).sum = preI (T false) s + preI (T true) t := by
  unfold lowT
  rw [List.map_append, List.sum_append_int, low_sum, low_sum]
theorem lowT_len {T : Bool → List Int} (h8 : ∀ b, (T b).length ≤ 8) (s t : Nat) : (lowT T s t).length ≤ 16 := by
  have h1 := h8 false
  have h2 := h8 true
  have h3 := ord_len (T false)
  have h4 := ord_len (T true)
  simp only [lowT, lowL, List.length_append, List.length_map, List.length_take]
  omega
theorem sum_lst (ns : List Int) (c : Cs) : sumY [.lst (ns.map D.int)] c = .ok (.int ns.sum) c := by
  show (match lstC (.lst (ns.map D.int)) c with
    | some ds => (match intsOf ds with
      | some ns => (.ok (.int ns.sum) c : Mi.R D)
      | none => .stuck)
    | none => .stuck) = _
  rw [show lstC (.lst (ns.map D.int)) c = some (ns.map D.int) from rfl]
  simp only [intsOf_map]
theorem mul_nat {s t : Nat} (h : s ≤ 100) (c : Cs) : mulI (.int (s : Int)) (.int (t : Int)) c = .ok (.int ((s : Int) * t)) c := by
  show (if CMul (s : Int) (t : Int) then (.ok (.int ((s : Int) * t)) c : Mi.R D) else .stuck) = _
  rw [if_pos (show CMul (s : Int) (t : Int) from Or.inl ⟨by omega, by omega⟩)]
theorem comp_scr {T : Bool → List Int} {c1 : Cs} {e : ME} {lw : Ls} {i : Nat} {QL : List D → Cs → Prop} (L : List Th) (hl : L.length ≤ 1000) (he : ∀ u ∈ L, ∀ l1, l1 = lw.set i (some (thD u)) → e l1 c1 = .ok (.int (scr T u)) c1) (q : QL ((L.map (scr T)).map D.int) c1) : Ok (compD (gN i) tYesM e lw (L.map thD) [] c1) QL := by
  have hz : sizeLine = 16777216 := sizeLine_eq
  refine comp_ok (fun ds acc c' => c' = c1 ∧ ∃ dn rest, L = dn ++ rest ∧ ds = rest.map thD ∧ acc = (dn.map (scr T)).map D.int) ?_ ?_ _ _ _ ⟨rfl, [], L, rfl, rfl, rfl⟩
  · rintro acc c' ⟨rfl, dn, rest, hL, hd, rfl⟩
    have : rest = [] := List.map_eq_nil_iff.mp hd.symm
    subst this
    rw [List.append_nil] at hL
    subst hL
    exact q
  · rintro d ds acc c' ⟨rfl, dn, rest, hL, hd, rfl⟩
    cases rest with
    | nil => cases hd
    | cons u rest =>
      obtain ⟨rfl, rfl⟩ := List.cons.inj hd
      have hln := congrArg List.length hL
      rw [List.length_append] at hln
      refine ⟨_, _, rfl, true, _, rfl, Ok.of (he u (by rw [hL]; simp) _ rfl) ⟨by rw [List.length_map, List.length_map]; omega, rfl, dn ++ [u], rest, by rw [hL, List.append_assoc]; rfl, rfl, by simp⟩⟩
theorem lexc_ok {T : Bool → List Int} {kd s t : Nat} {c : Cs} {Q : D → Cs → Prop} (h : Kp T kd c) (h8 : ∀ b, (T b).length ≤ 8) (hs : s ≤ 100) (q : ∀ c', Pfx c c' → Q (.int (preI (T false) s + preI (T true) t - (s : Int) * t)) c') : Ok (gScores__lowest_excess [scoD kd, .int (s : Nat), .int (t : Nat)] c) Q := by
  refine Ok.fun rfl ?_
  unfold cScores__lowest_excess
  refine os_ret (ok_op (ok_cb (ok_acons (ok_lc (ok_ilst (ok_sc (by decide +kernel) rfl (ok_acons (ok_var rfl (ok_acons (ok_var rfl (ok_anil (lowest_ok h h8 fun c1 p1 => .inl ⟨_, rfl, ?_⟩))))))))))))
  have h1 := h.pfx p1
  refine comp_scr (T := T) _ (by have := lowT_len h8 s t; omega) (fun u hu l1 hl1 => ?_) (ok_anil (Ok.of (sum_lst _ _) (ok_op (ok_var rfl (ok_var rfl (Ok.of (mul_nat hs c1) ?_))))))
  · subst hl1
    exact Ok.eq (ok_sc (by decide +kernel) rfl (ok_acons (ok_var rfl (ok_anil (Ok.of (score_ok h1 (lowT_at hu).1) ⟨rfl, rfl⟩)))))
  · rw [lowT_sum]
    exact Ok.of (show subD (.int (preI (T false) s + preI (T true) t)) (.int ((s : Int) * t)) c1 = .ok (.int (preI (T false) s + preI (T true) t - (s : Int) * t)) c1 from rfl) (q c1 p1)
def allST (p q : Nat) : List (Nat × Nat) := (List.range (p + 1)).flatMap fun s => (List.range (q + 1)).map fun t => (s, t)
def stD (x : Nat × Nat) : D := .tup [.int x.1, .int x.2]
theorem allST_mem {p q : Nat} {x : Nat × Nat} : x ∈ allST p q ↔ x.1 ≤ p ∧ x.2 ≤ q := by
  obtain ⟨s, t⟩ := x
  simp [allST, Nat.lt_succ_iff]
theorem pairs_ok {T : Bool → List Int} {kd : Nat} {c : Cs} (h : Kp T kd c) (h8 : ∀ b, (T b).length ≤ 8) : gScores__pairs [scoD kd] c = .ok (.lst ((allST (T false).length (T true).length).map stD)) c := by
  have w8 := h8 false
  have n8 := h8 true
  refine Ok.eq (Ok.fun rfl ?_)
  unfold cScores__pairs
  refine os_seq (os_asg (ok_mlc (ds := [.str (kdS false), .str (kdS true)]) rfl (by simp) (ok_lcY [false, true] (fun b => D.str (kdS b)) (fun b => D.int ((T b).length : Nat)) (by simp) (ok_kfix (ds := [.str (kdS false), .str (kdS true)]) rfl ⟨rfl, fun _ _ => rfl⟩) (fun b hb => ?_) ⟨_, _, rfl, ?_⟩)))
  · exact ok_gn ⟨rfl, ok_cb (ok_acons (ok_op (Ok.of (fld_hit rfl) (ok_var rfl (Ok.of (h.get b) (ok_anil (ok_len_map ⟨rfl, rfl⟩)))))))⟩
  have one : ∀ n : Nat, addD (.int (n : Nat)) (.int 1) c = .ok (.int ((n + 1 : Nat) : Int)) c := fun n => rfl
  refine os_ret (ok_lc2 (List.range ((T false).length + 1)) (fun i : Nat => D.int (i : Int)) (fun _ => true) (fun _ => List.range ((T true).length + 1)) (fun i : Nat => D.int (i : Int)) (fun _ _ => true) (fun s t => stD (s, t)) (by simp; omega) ?_ (fun s hs => ?_) ?_)
  · exact ok_kr (ok_acons (ok_op (ok_var rfl (ok_c (Ok.of (one _) (ok_anil ⟨rfl, rfl⟩)))))) (by omega)
  · refine ok_gn ⟨rfl, _, _, rfl, rfl, rfl, fun _ => ⟨by simp; omega, ok_kr (ok_acons (ok_op (ok_var rfl (ok_c (Ok.of (one _) (ok_anil ⟨rfl, rfl⟩)))))) (by omega), fun t ht => ok_gn ⟨rfl, _, _, rfl, rfl, rfl, fun _ => ok_tup (ok_acons (ok_var rfl (ok_acons (ok_var rfl (ok_anil ⟨Nat.le_of_ble_eq_true rfl, rfl, rfl⟩)))))⟩⟩⟩
  · refine ⟨?_, rfl⟩
    unfold allST
    rw [List.map_flatMap, L2.Mi.filter_all]
    simp [List.map_map, Function.comp_def, L2.Mi.filter_all]
def shortB (T : Bool → List Int) (x : Nat × Nat) : Bool := decide (preI (T false) x.1 + preI (T true) x.2 - (x.1 : Int) * x.2 < 0)
def fstV (T : Bool → List Int) : Option (Nat × Nat) := (allST (T false).length (T true).length).find? (shortB T)
def srtT (T : Bool → List Int) (x : Nat × Nat) : List D := sortD ((lowT T x.1 x.2).map thP) ((lowT T x.1 x.2).map thD)
theorem sortTP_th (ts : List Th) : sortTP (ts.map thD) = some (sortD (ts.map thP) (ts.map thD)) := by
  have h3 : ∀ a b : Th, W.alike (thP a) (thP b) = true := fun a b => by simp [thP, W.alike, W.alikeAll]
  have h4 : alikesB (ts.map thP) = true := by
    refine List.all_eq_true.mpr fun p hp => List.all_eq_true.mpr fun q hq => ?_
    obtain ⟨a, _, rfl⟩ := List.mem_map.mp hp
    obtain ⟨b, _, rfl⟩ := List.mem_map.mp hq
    exact h3 a b
  have h5 : (ts.map thP).all tup1B = true := List.all_eq_true.mpr fun p hp => by
    obtain ⟨a, _, rfl⟩ := List.mem_map.mp hp
    rfl
  have h6 := depth_ths ts
  unfold sortTP
  rw [toPys_ths]
  simp only []
  rw [if_pos ⟨h4, h5, by omega⟩]
theorem viol_ok {T : Bool → List Int} {kd : Nat} {c : Cs} {Q : D → Cs → Prop} (h : Kp T kd c) (h8 : ∀ b, (T b).length ≤ 8) (q0 : fstV T = none → ∀ c', Pfx c c' → Q .non c') (q1 : ∀ x, fstV T = some x → ∀ f c', Pfx c c' → c.length ≤ f → c'[f]? = some (.lst (srtT T x)) → Q (.ref f) c') : Ok (gScores__violation [scoD kd] c) Q := by
  have w8 := h8 false
  have n8 := h8 true
  refine Ok.fun rfl ?_
  unfold cScores__violation
  refine os_seq (os_forYE stD (fun rest l c' => (∃ o1 o2, l = [some (scoD kd), o1, o2]) ∧ Pfx c c' ∧ (∀ x ∈ rest, x.1 ≤ 8) ∧ fstV T = rest.find? (shortB T)) (ok_ilst (ok_sc (by decide +kernel) rfl (ok_anil (Ok.of (pairs_ok h h8) (.inl ⟨_, rfl, _, rfl, ⟨_, _, rfl⟩, Pfx.refl c, fun x hx => by have := (allST_mem.mp hx).1; omega, rfl⟩))))) ?_ ?_)
  · rintro l c' ⟨⟨o1, o2, rfl⟩, pp, _, hf⟩
    exact os_ret (ok_c (q0 hf c' pp))
  · rintro x rest l c' ⟨⟨o1, o2, rfl⟩, pp, hx8, hf⟩
    have h1 := h.pfx pp
    refine ⟨_, _, rfl, ?_⟩
    refine os_if (ok_t (ok_op (ok_sc (by decide +kernel) rfl (ok_acons (ok_var rfl (ok_acons (ok_var rfl (ok_anil (lexc_ok h1 h8 (by have := hx8 x List.mem_cons_self; omega) fun c1 p1 => ok_c (Ok.of (show ltD (.int (preI (T false) x.1 + preI (T true) x.2 - (x.1 : Int) * x.2)) (.int 0) c1 = .ok (.bl (shortB T x)) c1 from rfl) ⟨_, rfl, fun ht => ?_, fun hf2 => os_nil ?_⟩))))))))))
    · have hx : fstV T = some x := by rw [hf, List.find?_cons_of_pos ht]
      have h2 := h1.pfx p1
      refine os_ret (ok_cb (ok_acons (ok_sc (by decide +kernel) rfl (ok_acons (ok_var rfl (ok_acons (ok_var rfl (ok_anil (lowest_ok h2 h8 fun c2 p2 => ok_anil ?_)))))))))
      have e : sortTM [.lst ((lowT T x.1 x.2).map thD)] c2 = .ok (.ref c2.length) (c2 ++ [.lst (srtT T x)]) := by
        unfold sortTM
        simp only [sortTP_th]
        rfl
      have pp2 := (pp.trans p1).trans p2
      exact Ok.of e (q1 x hx _ _ (pp2.trans (Pfx.one _ _)) (by have := pp2.len; omega) (cell_last _))
    · exact ⟨⟨_, _, rfl⟩, pp.trans p1, fun y hy => hx8 y (List.mem_cons_of_mem _ hy), by rw [hf, List.find?_cons_of_neg (by rw [hf2]; decide)]⟩

/-! ### the law's lists, its lowest -/
inductive IsS (x : D) (c : Cs) (ns : List Int) : Prop
  | tree (h : x = .lst (ns.map D.int))
  | cell (k : Nat) (h : x = .ref k) (hc : c[k]? = some (.lst (ns.map D.int)))
theorem IsS.pfx {x : D} {c c' : Cs} {ns : List Int} (h : IsS x c ns) (p : Pfx c c') : IsS x c' ns := by
  cases h with
  | tree h => exact .tree h
  | cell k h hc => exact .cell k h (p.get hc)
theorem IsS.lstC {x : D} {c : Cs} {ns : List Int} (h : IsS x c ns) : Mi.lstC x c = some (ns.map D.int) := by
  cases h with
  | tree h => subst h; rfl
  | cell k h hc => subst h; simp [Mi.lstC, hc]
theorem IsS.seq {x : D} {c : Cs} {ns : List Int} (h : IsS x c ns) : seqOf x c = some (ns.map D.int) := by
  cases h with
  | tree h => subst h; rfl
  | cell k h hc => subst h; simp [seqOf, hc]
theorem IsS.any {x : D} {c : Cs} {ns : List Int} (h : IsS x c ns) : ∃ w, wAny x c = .ok w c ∧ ∀ i, w i c = some (ns.map D.int)[i]? := by
  cases h with
  | tree h => subst h; exact ⟨_, wAny_tree rfl, fun _ => rfl⟩
  | cell k h hc =>
    subst h
    refine ⟨cellW k, ?_, fun i => ?_⟩
    · show (match cellL k c with
        | some _ => (.ok (cellW k) c : Mi.R Wk)
        | none => .stuck) = _
      have : cellL k c = some (ns.map D.int) := by unfold cellL; rw [hc]
      rw [this]
    · unfold cellW cellL
      rw [hc]
theorem IsS.len {x : D} {c : Cs} {ns : List Int} (h : IsS x c ns) : lenD [x] c = .ok (.int ns.length) c := by rw [len_seq h.seq, List.length_map]
theorem IsS.sum {x : D} {c : Cs} {ns : List Int} (h : IsS x c ns) : sumY [x] c = .ok (.int ns.sum) c := by
  have e : onInts (fun ns => some ns.sum) x c = .ok (.int ns.sum) c := by
    unfold onInts
    rw [h.lstC]
    simp only [intsOf_map]
  cases h with
  | tree h => subst h; exact e
  | cell k h hc => subst h; exact e
theorem IsS.max {x : D} {c : Cs} {ns : List Int} (h : IsS x c ns) (h1 : 1 ≤ ns.length) : ∃ m, ns.max? = some m ∧ maxY [x] c = .ok (.int m) c := by
  obtain ⟨m, hm⟩ : ∃ m, ns.max? = some m := by
    cases q : ns.max? with
    | none => rw [List.max?_eq_none_iff.mp q] at h1; simp at h1
    | some m => exact ⟨m, rfl⟩
  have e : onInts (fun ns => ns.max?) x c = .ok (.int m) c := by
    unfold onInts
    rw [h.lstC]
    simp only [intsOf_map, hm]
  refine ⟨m, hm, ?_⟩
  cases h with
  | tree h => subst h; exact e
  | cell k h hc => subst h; exact e
theorem IsS.min {x : D} {c : Cs} {ns : List Int} (h : IsS x c ns) (h1 : 1 ≤ ns.length) : ∃ m, ns.min? = some m ∧ minY [x] c = .ok (.int m) c := by
  obtain ⟨m, hm⟩ : ∃ m, ns.min? = some m := by
    cases q : ns.min? with
    | none => rw [List.min?_eq_none_iff.mp q] at h1; simp at h1
    | some m => exact ⟨m, rfl⟩
  have e : onInts (fun ns => ns.min?) x c = .ok (.int m) c := by
    unfold onInts
    rw [h.lstC]
    simp only [intsOf_map, hm]
  refine ⟨m, hm, ?_⟩
  cases h with
  | tree h => subst h; exact e
  | cell k h hc => subst h; exact e
structure LsV (v : D) (c : Cs) (T : Bool → List Int) : Prop where
  ex : ∃ X : Bool → D, v = .lst [X false, X true] ∧ ∀ b, IsS (X b) c (T b)
theorem LsV.pfx {v : D} {c c' : Cs} {T : Bool → List Int} (h : LsV v c T) (p : Pfx c c') : LsV v c' T := by
  obtain ⟨X, e, hX⟩ := h.ex
  exact ⟨X, e, fun b => (hX b).pfx p⟩
theorem LsV.pick {v : D} {c : Cs} {T : Bool → List Int} (h : LsV v c T) (b : Bool) : ∃ x, (∀ c', itemD v (.int (if b = true then 1 else 0)) c' = .ok x c') ∧ IsS x c (T b) := by
  obtain ⟨X, rfl, hX⟩ := h.ex
  refine ⟨X b, fun c' => ?_, hX b⟩
  cases b <;> rfl
theorem kd_idx (b : Bool) (c : Cs) : intFD [.bl (b == true)] c = .ok (.int (if b = true then 1 else 0)) c := by cases b <;> rfl
def pP2 (p : Int × Nat) : PyData := .tuple [.int p.1, .int p.2]
def pD2 (p : Int × Nat) : D := .tup [.int p.1, .int p.2]
theorem toPys_map {α : Type} {f : α → D} {g : α → PyData} (h : ∀ a, toPy (f a) = some (g a)) : ∀ xs : List α, toPys (xs.map f) = some (xs.map g)
  | [] => rfl
  | x :: xs => by
    rw [List.map_cons, List.map_cons]
    unfold toPys
    rw [h x, toPys_map h xs]
theorem sortTP_two (l : List Int) (hl : l.length ≤ 8) : sortTP ((prI l).map pD2) = some ((ordI l).map pD2) := by
  have h4 : alikesB ((prI l).map pP2) = true := by
    refine List.all_eq_true.mpr fun p hp => List.all_eq_true.mpr fun q hq => ?_
    obtain ⟨a, _, rfl⟩ := List.mem_map.mp hp
    obtain ⟨b, _, rfl⟩ := List.mem_map.mp hq
    simp [pP2, W.alike, W.alikeAll]
  have h5 : ((prI l).map pP2).all tup1B = true := List.all_eq_true.mpr fun p hp => by
    obtain ⟨a, _, rfl⟩ := List.mem_map.mp hp
    rfl
  have h6 : ∀ ps : List (Int × Nat), PyData.depthAll (ps.map pP2) ≤ 2 := fun ps => by
    induction ps with
    | nil => simp [PyData.depthAll]
    | cons p ps ih =>
      simp only [List.map_cons, PyData.depthAll]
      have : (pP2 p).depth ≤ 2 := by simp [pP2, PyData.depth, PyData.depthAll]
      omega
  have h7 := h6 (prI l)
  unfold sortTP
  rw [toPys_map (g := pP2) (fun a => rfl)]
  simp only []
  rw [if_pos ⟨h4, h5, by omega⟩]
  congr 1
  unfold sortD
  have e : ((prI l).map pP2).zip ((prI l).map pD2) = (prI l).map fun p => (pP2 p, pD2 p) := by
    rw [List.zip_map']
  have e2 : ∀ a b : Int × Nat, lexLe a b = W.dataLe false Prod.fst (pP2 a, pD2 a) (pP2 b, pD2 b) := fun a b => by
    have h := congrFun (congrFun (W.dataLe_ii (β := Int × Nat) (fun p => p.1) (fun p => (p.2 : Int))) a) b
    have h2 : W.dataLe false Prod.fst (pP2 a, pD2 a) (pP2 b, pD2 b) = W.dataLe false (fun p : Int × Nat => PyData.tuple [.int p.1, .int (p.2 : Int)]) a b := rfl
    rw [h2, h]
    unfold lexLe
    refine decide_eq_decide.mpr ?_
    omega
  rw [e, ← List.map_mergeSort (r := lexLe) (f := fun p : Int × Nat => (pP2 p, pD2 p)) (fun a _ b _ => e2 a b), List.map_map, ord_eq]
  rfl
theorem enum_pr (l : List Int) : enumL (l.map D.int) = (prI l).map fun p => D.tup [.int (p.2 : Nat), .int p.1] := by
  refine List.ext_getElem (by simp [enumL, prI]) fun i h1 h2 => ?_
  simp [enumL] at h1
  simp [enumL, prI, h1]
theorem llow_ok {T : Bool → List Int} {v : D} {c : Cs} {b : Bool} {n : Nat} (h : LsV v c T) (h8 : ∀ b, (T b).length ≤ 8) : g_law_lowest [v, .str (kdS b), .int (n : Nat)] c = .ok (.lst ((lowL T b n).map thD)) c := by
  have hb8 := h8 b
  obtain ⟨x, hx, hs⟩ := h.pick b
  refine Ok.eq (Ok.fun rfl ?_)
  unfold c_law_lowest
  refine os_seq (os_set (ok_op (ok_var rfl (ok_cb (ok_acons (ok_op (ok_var rfl (ok_c (Ok.of (eq_kd b true c) (ok_anil (Ok.of (kd_idx b c) (Ok.of (hx c) ?_))))))))))))
  refine os_seq (os_set (ok_cb (ok_acons (ok_lcY (prI (T b)) (fun p => D.tup [.int (p.2 : Nat), .int p.1]) pD2 (by rw [prI_len]; omega) ?_ (fun p hp => ?_) (ok_anil ?_)))))
  · refine ok_kenumS (x := x) (xs := (T b).map D.int) (ok_acons (ok_var rfl (ok_anil ⟨rfl, hs.seq, rfl, fun i hi => ?_⟩)))
    rw [enumW_seq hs.seq (by rw [List.length_map]; rw [prI_len] at hi; exact hi), enum_pr]
  · exact ⟨_, _, rfl, rfl, ok_tup (ok_acons (ok_var rfl (ok_acons (ok_var rfl (ok_anil ⟨Nat.le_of_ble_eq_true rfl, rfl, rfl⟩)))))⟩
  have e : sortT [.lst ((prI (T b)).map pD2)] c = .ok (.lst ((ordI (T b)).map pD2)) c := by
    unfold sortT
    simp only [sortTP_two (T b) hb8]
  refine Ok.of e ?_
  have hsl : sliceY (.lst ((ordI (T b)).map pD2)) none (some (n : Int)) c = .ok (.lst (((ordI (T b)).take n).map pD2)) c := by
    have e : Mi.cutD ((ordI (T b)).map pD2) none (some (n : Int)) = ((ordI (T b)).take n).map pD2 := by
      rw [cutD_map, cutL_to _ (by omega), Int.toNat_natCast]
    rw [← e]
    rfl
  have hol := ord_len (T b)
  refine os_ret (ok_lcY ((ordI (T b)).take n) pD2 (fun p => thD (b, p.2)) (by rw [List.length_take]; omega) (ok_ktree (ok_slY (ok_var rfl (ok_onone (ok_osome (ok_var rfl ⟨_, rfl, Ok.of hsl ⟨rfl, rfl⟩⟩)))))) (fun p hp => ?_) ?_)
  · exact ⟨_, _, rfl, rfl, ok_tup (ok_acons (ok_var rfl (ok_acons (ok_var rfl (ok_anil ⟨Nat.le_of_ble_eq_true rfl, rfl, rfl⟩)))))⟩
  · refine ⟨?_, rfl⟩
    unfold lowL
    rw [List.map_map]
    rfl

/-! ### the first set that is short -/
theorem allST_lex (p q : Nat) : (allST p q).Pairwise fun x y => x.1 < y.1 ∨ (x.1 = y.1 ∧ x.2 < y.2) := by
  unfold allST
  refine List.pairwise_flatMap.mpr ⟨fun s _ => ?_, ?_⟩
  · exact List.pairwise_map.mpr (List.pairwise_lt_range.imp fun h => .inr ⟨rfl, h⟩)
  · refine List.pairwise_lt_range.imp fun {a b} h x hx y hy => ?_
    obtain ⟨t, _, rfl⟩ := List.mem_map.mp hx
    obtain ⟨u, _, rfl⟩ := List.mem_map.mp hy
    exact .inl h
theorem fst_hit {T : Bool → List Int} {s t : Nat} (hs : s ≤ (T false).length) (ht : t ≤ (T true).length) (h1 : ∀ a b, a < s → b ≤ (T true).length → shortB T (a, b) = false) (h2 : ∀ b, b < t → shortB T (s, b) = false) (h : shortB T (s, t) = true) : fstV T = some (s, t) := by
  have hm : (s, t) ∈ allST (T false).length (T true).length := allST_mem.mpr ⟨hs, ht⟩
  unfold fstV
  cases q : (allST (T false).length (T true).length).find? (shortB T) with
  | none => have := List.find?_eq_none.mp q _ hm; exact absurd h this
  | some y =>
    obtain ⟨hy, as, bs, e, ha⟩ := List.find?_eq_some_iff_append.mp q
    have pw := allST_lex (T false).length (T true).length
    rw [e] at hm pw
    rcases List.mem_append.mp hm with k | k
    · have := ha _ k
      rw [h] at this
      cases this
    · rcases List.mem_cons.mp k with k | k
      · rw [k]
      · exfalso
        have hyb : y ∈ allST (T false).length (T true).length := by rw [e]; simp
        obtain ⟨y1, y2⟩ := allST_mem.mp hyb
        have lt := (List.pairwise_cons.mp (List.pairwise_append.mp pw).2.1).1 _ k
        simp only at lt
        obtain ⟨ya, yb⟩ := y
        simp only at lt y1 y2
        rcases lt with lt | ⟨lt, lt2⟩
        · rw [h1 ya yb lt y2] at hy; cases hy
        · subst lt
          rw [h2 yb lt2] at hy; cases hy
theorem fst_none {T : Bool → List Int} (h : ∀ a b, a ≤ (T false).length → b ≤ (T true).length → shortB T (a, b) = false) : fstV T = none := by
  unfold fstV
  refine List.find?_eq_none.mpr fun x hx => ?_
  obtain ⟨h1, h2⟩ := allST_mem.mp hx
  rw [h x.1 x.2 h1 h2]
  decide
theorem feas_iff (T : Bool → List Int) : Feas (T false) (T true) ↔ fstV T = none := by
  constructor
  · intro h
    refine fst_none fun a b ha hb => ?_
    have := h a b ha hb
    unfold shortB
    exact decide_eq_false (by simp only; omega)
  · intro h s t hs ht
    have := List.find?_eq_none.mp h (s, t) (allST_mem.mpr ⟨hs, ht⟩)
    unfold shortB at this
    simp at this
    omega
theorem due_ok {T : Bool → List Int} {v : D} {c : Cs} {Q : D → Cs → Prop} (h : LsV v c T) (h8 : ∀ b, (T b).length ≤ 8) (q0 : fstV T = none → Q .non c) (q1 : ∀ x, fstV T = some x → Q (.lst (srtT T x)) c) : Ok (g_law_due [v] c) Q := by
  have hz : sizeLine = 16777216 := sizeLine_eq
  have w8 := h8 false
  have n8 := h8 true
  obtain ⟨x, hx, hxs⟩ := h.pick false
  obtain ⟨y, hy, hys⟩ := h.pick true
  have one : ∀ n : Nat, addD (.int (n : Nat)) (.int 1) c = .ok (.int ((n + 1 : Nat) : Int)) c := fun n => rfl
  refine Ok.fun rfl ?_
  unfold c_law_due
  refine os_seq (os_for (ok_r1 (ok_acons (ok_op (ok_cb (ok_acons (ok_op (ok_var rfl (ok_c (Ok.of (hx c) (ok_anil (Ok.of hxs.len (ok_c (Ok.of (one _) (ok_anil ⟨_, rfl, sm62 (by omega), ?_⟩)))))))))))))))
  rw [Int.toNat_natCast]
  refine os_forI 0 ((T false).length + 1) (fun s l c' => c' = c ∧ (∃ o1 o2 o3, l = [some v, o1, o2, o3, none, none]) ∧ ∀ a b, a < s → b ≤ (T true).length → shortB T (a, b) = false) ⟨rfl, ⟨_, _, _, rfl⟩, fun a b ha _ => by omega⟩ ?_ ?_
  · rintro l c' ⟨rfl, ⟨o1, o2, o3, rfl⟩, hn⟩
    exact os_ret (ok_c (q0 (fst_none fun a b ha hb => hn a b (by omega) hb)))
  · rintro s l c' hs ⟨rfl, ⟨o1, o2, o3, rfl⟩, hn⟩
    rw [Int.zero_add]
    refine ok_gn (os_for (ok_r1 (ok_acons (ok_op (ok_cb (ok_acons (ok_op (ok_var rfl (ok_c (Ok.of (hy c') (ok_anil (Ok.of hys.len (ok_c (Ok.of (one _) (ok_anil ⟨_, rfl, sm62 (by omega), ?_⟩)))))))))))))))
    rw [Int.toNat_natCast]
    refine os_forI 0 ((T true).length + 1) (fun t l c2 => c2 = c' ∧ (∃ o2 o3, l = [some v, some (.int (s : Nat)), o2, o3, none, none]) ∧ ∀ b, b < t → shortB T (s, b) = false) ⟨rfl, ⟨_, _, rfl⟩, fun b hb => by omega⟩ ?_ ?_
    · rintro l c2 ⟨rfl, ⟨o2, o3, rfl⟩, hn2⟩
      refine ⟨rfl, ⟨_, _, _, rfl⟩, fun a b ha hb => ?_⟩
      by_cases e : a = s
      · subst e; exact hn2 b (by omega)
      · exact hn a b (by omega) hb
    · rintro t l c2 ht ⟨rfl, ⟨o2, o3, rfl⟩, hn2⟩
      rw [Int.zero_add]
      have hl16 := lowT_len h8 s t
      have hadd : addD (.lst ((lowL T false s).map thD)) (.lst ((lowL T true t).map thD)) c2 = .ok (.lst ((lowT T s t).map thD)) c2 := by
        refine Ok.eq (ok_add_lst (by rw [List.length_map, List.length_map]; unfold lowT at hl16; rw [List.length_append] at hl16; omega) ⟨?_, rfl⟩)
        unfold lowT
        rw [List.map_append]
      refine ok_gn (os_seq (os_set (ok_op (ok_cb (ok_acons (ok_var rfl (ok_acons (ok_c (ok_acons (ok_var rfl (ok_anil (Ok.of (llow_ok (b := false) h h8) (ok_cb (ok_acons (ok_var rfl (ok_acons (ok_c (ok_acons (ok_var rfl (ok_anil (Ok.of (llow_ok (b := true) h h8) (Ok.of hadd ?_))))))))))))))))))) )))
      refine os_if (ok_t (ok_op (ok_cb (ok_acons (ok_lcY (lowT T s t) thD (fun u => D.int (scr T u)) (by omega) (ok_ktree (ok_var rfl ⟨rfl, rfl⟩)) (fun u hu => ?_) (ok_anil ?_))))))
      · obtain ⟨z, hz1, hz2⟩ := h.pick u.1
        refine ⟨_, _, rfl, rfl, ok_op (ok_op (ok_var rfl (ok_cb (ok_acons (ok_op (ok_var rfl (ok_c (Ok.of (eq_kd u.1 true c2) (ok_anil (Ok.of (kd_idx u.1 c2) (Ok.of (hz1 c2) (ok_var rfl (Ok.of (item_seq (x := .int (scr T u)) hz2.seq (by rw [List.getElem?_map, (lowT_at hu).1]; rfl)) ⟨rfl, rfl⟩)))))))))))))⟩
      · have e : (lowT T s t).map (fun u => D.int (scr T u)) = ((lowT T s t).map (scr T)).map D.int := by rw [List.map_map]; rfl
        rw [e]
        refine Ok.of (sum_lst _ _) (ok_op (ok_var rfl (ok_var rfl (Ok.of (mul_nat (by omega) c2) ?_))))
        rw [lowT_sum]
        have hlt : ltD (.int (preI (T false) s + preI (T true) t)) (.int ((s : Int) * t)) c2 = .ok (.bl (shortB T (s, t))) c2 := by
          show Mi.R.ok (D.bl (decide (preI (T false) s + preI (T true) t < (s : Int) * t))) c2 = _
          unfold shortB
          congr 2
          refine decide_eq_decide.mpr ?_
          simp only
          omega
        refine Ok.of hlt ⟨_, rfl, fun hh => ?_, fun hh => os_nil ?_⟩
        · have e2 : sortT [.lst ((lowT T s t).map thD)] c2 = .ok (.lst (srtT T (s, t))) c2 := by
            unfold sortT
            simp only [sortTP_th]
            rfl
          exact os_ret (ok_cb (ok_acons (ok_var rfl (ok_anil (Ok.of e2 (q1 (s, t) (fst_hit (by omega) (by omega) hn hn2 hh)))))))
        · refine ⟨rfl, ⟨_, _, rfl⟩, fun b hb => ?_⟩
          by_cases e : b = t
          · subst e; exact hh
          · exact hn2 b (by omega)

/-! ### fits, is_feasible -/
theorem rv_ok (ns : List Int) (c : Cs) : sortRV [.lst (ns.map D.int)] c = .ok (.lst ((sortI ns).reverse.map D.int)) c := by
  show (match intsOf (ns.map D.int) with
    | some ns => (.ok (.lst ((sortI ns).reverse.map D.int)) c : Mi.R D)
    | none => .stuck) = _
  rw [intsOf_map]
theorem addM_ok {x : D} {c : Cs} {ns ms : List Int} (h : IsS x c ns) (h8 : ns.length ≤ 8) (m8 : ms.length ≤ 8) : addM x (.lst (ms.map D.int)) c = .ok (.ref c.length) (c ++ [.lst ((ns ++ ms).map D.int)]) := by
  have hz : sizeLine = 16777216 := sizeLine_eq
  unfold addM
  rw [h.lstC]
  show (if (ns.map D.int).length + (ms.map D.int).length ≤ sizeLine then (.ok (.ref c.length) (c ++ [Cell.lst (ns.map D.int ++ ms.map D.int)]) : Mi.R D) else .stuck) = _
  rw [if_pos (by rw [List.length_map, List.length_map]; omega), ← List.map_append]
theorem fits_ok {T : Bool → List Int} {x : D} {c : Cs} {Q : D → Cs → Prop} (hS : ST T 0) (hx : IsS x c (T false)) (q : ∀ c', Pfx c c' → Q (.bl (fstV T).isNone) c') : Ok (g_law_fits [x, .lst (((T true).map fun f => ((T false).length : Int) - f).map D.int)] c) Q := by
  have hz : sizeLine = 16777216 := sizeLine_eq
  have w8 := hS.l8 false
  have n8 := hS.l8 true
  have w1 := hS.l1 false
  have n1 := hS.l1 true
  obtain ⟨cs, hcs⟩ : ∃ cs, cs = (T true).map fun f => ((T false).length : Int) - f := ⟨_, rfl⟩
  have hcl : cs.length = (T true).length := by rw [hcs, List.length_map]
  have hsum : (T false).sum = cs.sum := by
    rw [hcs, sum_sub]
    have := hS.tot
    rw [Int.mul_comm] at this
    omega
  have hcb : ∀ z ∈ cs, 0 ≤ z ∧ z ≤ (T false).length := fun z hz => by
    rw [hcs] at hz
    obtain ⟨f, hf, rfl⟩ := List.mem_map.mp hz
    have : 0 ≤ f ∧ f ≤ (T false).length := hS.bd true f hf
    omega
  rw [← hcs]
  refine Ok.fun rfl ?_
  unfold c_law_fits
  refine os_seq (os_set (ok_cb (ok_acons (ok_var rfl (ok_anil (Ok.of (rv_ok cs c) ?_))))))
  have hc0 : IsS (.lst (cs.map D.int)) c cs := .tree rfl
  refine os_seq (os_if (ok_tor (ok_t (ok_op (ok_cb (ok_acons (ok_var rfl (ok_anil (Ok.of hx.sum (ok_cb (ok_acons (ok_var rfl (ok_anil (Ok.of hc0.sum (Ok.of (ne_ints _ _ c) ⟨_, rfl, fun h => ?_, fun _ => ?_⟩)))))))))))))))
  · rw [decide_eq_true hsum] at h; cases h
  have hx2 : IsS x (c ++ [.lst ((T false ++ cs).map D.int)]) (T false) := hx.pfx (Pfx.one _ _)
  have hc2 : IsS (.lst (cs.map D.int)) (c ++ [.lst ((T false ++ cs).map D.int)]) cs := .tree rfl
  have hr2 : IsS (.ref c.length) (c ++ [.lst ((T false ++ cs).map D.int)]) (T false ++ cs) := .cell _ rfl (cell_last _)
  have pp : Pfx c (c ++ [.lst ((T false ++ cs).map D.int)]) := Pfx.one _ _
  have hadd := addM_ok (c := c) (ms := cs) hx w8 (by omega)
  generalize c ++ [Cell.lst ((T false ++ cs).map D.int)] = c2 at hx2 hc2 hr2 pp hadd
  obtain ⟨mn, hmn, emn⟩ := hr2.min (by rw [List.length_append]; omega)
  obtain ⟨mx, hmx, emx⟩ := hx2.max w1
  obtain ⟨my, hmy, emy⟩ := hc2.max (by omega)
  have lt : ∀ a b : Int, ltD (.int a) (.int b) c2 = .ok (.bl (decide (a < b))) c2 := fun a b => rfl
  have gt : ∀ a b : Int, gtD (.int a) (.int b) c2 = .ok (.bl (decide (b < a))) c2 := fun a b => rfl
  refine ok_tor (ok_t (ok_op (ok_cb (ok_acons (ok_op (ok_var rfl (ok_var rfl (Ok.of hadd (ok_anil (Ok.of emn (ok_c (Ok.of (lt _ _) ⟨_, rfl, fun h => ?_, fun _ => ?_⟩))))))))))))
  · have h := of_decide_eq_true h
    have hm := (List.min?_eq_some_iff.mp hmn).1
    rcases List.mem_append.mp hm with k | k
    · have := (hS.bd false mn k).1; omega
    · have := (hcb mn k).1; omega
  refine ok_tor (ok_t (ok_op (ok_cb (ok_acons (ok_var rfl (ok_anil (Ok.of emx (ok_cb (ok_acons (ok_var rfl (ok_anil (Ok.of hc2.len (Ok.of (gt _ _) ⟨_, rfl, fun h => ?_, fun _ => ?_⟩)))))))))))))
  · have h := of_decide_eq_true h
    have : 0 ≤ mx ∧ mx ≤ (T true).length := hS.bd false mx (List.max?_eq_some_iff.mp hmx).1
    omega
  refine ok_t (ok_op (ok_cb (ok_acons (ok_var rfl (ok_anil (Ok.of emy (ok_cb (ok_acons (ok_var rfl (ok_anil (Ok.of hx2.len (Ok.of (gt _ _) ⟨_, rfl, fun h => ?_, fun _ => os_nil ?_⟩))))))))))))
  · have h := of_decide_eq_true h
    have := hcb my (List.max?_eq_some_iff.mp hmy).1
    omega
  have hrl : ((sortI cs).reverse).length = (T true).length := by rw [List.length_reverse, (sortI_perm cs).length_eq, hcl]
  have hfi := fits_iff (T false) (T true)
  rw [← hcs] at hfi
  have one : ∀ n : Nat, addD (.int (n : Nat)) (.int 1) c2 = .ok (.int ((n + 1 : Nat) : Int)) c2 := fun n => rfl
  refine os_seq (os_for (ok_r1 (ok_acons (ok_op (ok_cb (ok_acons (ok_var rfl (ok_anil (ok_len_map (ok_c (Ok.of (one _) (ok_anil ⟨_, rfl, sm62 (by omega), ?_⟩))))))))))))
  rw [Int.toNat_natCast, hrl]
  refine os_forI 0 ((T true).length + 1) (fun j l c' => c' = c2 ∧ (∃ o3, l = [some x, some (.lst (cs.map D.int)), some (.lst ((sortI cs).reverse.map D.int)), o3, none]) ∧ ∀ m, m < j → (((sortI cs).reverse).take m).sum ≤ ((T false).map (mn2 m)).sum) ⟨rfl, ⟨_, rfl⟩, fun m hm => by omega⟩ ?_ ?_
  · rintro l c' ⟨rfl, ⟨o3, rfl⟩, hm⟩
    have hf : fstV T = none := (feas_iff T).mp (hfi.mp fun m hm2 => hm m (by omega))
    refine os_ret (ok_c ?_)
    have := q c' pp
    rw [hf] at this
    exact this
  · rintro j l c' hj ⟨rfl, ⟨o3, rfl⟩, hm⟩
    rw [Int.zero_add]
    have hsl : sliceY (.lst ((sortI cs).reverse.map D.int)) none (some (j : Int)) c' = .ok (.lst ((((sortI cs).reverse).take j).map D.int)) c' := by
      have e : Mi.cutD ((sortI cs).reverse.map D.int) none (some (j : Int)) = (((sortI cs).reverse).take j).map D.int := by
        rw [cutD_map, cutL_to _ (by omega), Int.toNat_natCast]
      rw [← e]
      rfl
    obtain ⟨w, hw1, hw2⟩ := hx2.any
    refine ok_gn (os_if (ok_t (ok_op (ok_cb (ok_acons (ok_slY (ok_var rfl (ok_onone (ok_osome (ok_var rfl ⟨_, rfl, Ok.of hsl (ok_anil (Ok.of (sum_lst _ _) ?_))⟩))))))))))
    refine ok_cb (ok_acons (ok_lcY (T false) D.int (fun z => D.int (mn2 j z)) (by omega) (ok_kany (ok_var rfl (Ok.of hw1 ⟨rfl, fun i _ => hw2 i⟩))) (fun z hz => ok_gn ⟨rfl, ok_cb (ok_acons (ok_var rfl (ok_acons (ok_var rfl (ok_anil (Ok.of (show min2 [.int z, .int (j : Int)] c' = .ok (.int (mn2 j z)) c' from rfl) ⟨rfl, rfl⟩))))))⟩) (ok_anil ?_)))
    have e : (T false).map (fun z => D.int (mn2 j z)) = ((T false).map (mn2 j)).map D.int := by rw [List.map_map]; rfl
    rw [e]
    refine Ok.of (sum_lst _ _) (Ok.of (gt _ _) ⟨_, rfl, fun h => ?_, fun h => os_nil ?_⟩)
    · have h := of_decide_eq_true h
      have hne : fstV T ≠ none := fun k => by
        have := hfi.mpr ((feas_iff T).mpr k) j (by omega)
        omega
      refine os_ret (ok_c ?_)
      have := q c' pp
      cases k : fstV T with
      | none => exact absurd k hne
      | some y => rw [k] at this; exact this
    · have h := of_decide_eq_false h
      refine ⟨rfl, ⟨_, rfl⟩, fun m hm2 => ?_⟩
      by_cases e : m = j
      · subst e; omega
      · exact hm m (by omega)
theorem feas_ok {T : Bool → List Int} {kd : Nat} {c : Cs} {Q : D → Cs → Prop} (h : Kp T kd c) (h8 : ∀ b, (T b).length ≤ 8) (q : ∀ c', Pfx c c' → Q (.bl (fstV T).isNone) c') : Ok (gScores__is_feasible [scoD kd] c) Q := by
  refine Ok.fun rfl ?_
  unfold cScores__is_feasible
  refine os_ret (ok_op (ok_sc (by decide +kernel) rfl (ok_anil (viol_ok h h8 (fun h0 c' p => ?_) fun x h1 f c' p _ _ => ?_))))
  · refine ok_c (Ok.of (show isD .non .non c' = .ok (.bl true) c' from rfl) ?_)
    have := q c' p
    rw [h0] at this
    exact this
  · refine ok_c (Ok.of (show isD (.ref f) .non c' = .ok (.bl false) c' from rfl) ?_)
    have := q c' p
    rw [h1] at this
    exact this

/-! ### Scores made; what is shown; the law -/
theorem IsS.vt {x : D} {c : Cs} {ns : List Int} (h : IsS x c ns) (h8 : ns.length ≤ 8) : VT x c := by
  refine .inl ⟨ns.map D.int, h.seq, ?_, by rw [List.length_map]; omega, fun d hd => ?_, ?_⟩
  · cases h with
    | tree h => subst h; exact .inl rfl
    | cell k h hc => subst h; exact .inl (by simp [tyD, hc])
  · obtain ⟨z, _, rfl⟩ := List.mem_map.mp hd
    exact ⟨"int", rfl, fun e => by simp at e⟩
  · cases h with
    | tree h => subst h; exact fun _ => nofun
    | cell k h hc => subst h; exact fun _ => nofun
theorem IsS.ints {x : D} {c : Cs} {ns : List Int} (h : IsS x c ns) : intsV x c = ns := by
  unfold intsV
  rw [h.seq]
  simp only [intsOf_map, Option.getD_some]
theorem IsS.il {x : D} {c : Cs} {ns : List Int} (h : IsS x c ns) (h1 : 1 ≤ ns.length) (h8 : ns.length ≤ 8) : ilB x c = true := by
  unfold ilB
  rw [h.seq]
  simp only [ilX, List.length_map, Bool.and_eq_true, decide_eq_true_eq]
  refine ⟨⟨h1, h8⟩, List.all_eq_true.mpr fun d hd => ?_⟩
  obtain ⟨z, _, rfl⟩ := List.mem_map.mp hd
  rfl
theorem verd_fine {T : Bool → List Int} {x y : D} {c : Cs} (hS : ST T 0) (hx : IsS x c (T false)) (hy : IsS y c (T true)) : verd x y c = .fine := by
  have rg : ∀ b, rgB (T b) (T (!b)).length = true := fun b => List.all_eq_true.mpr fun z hz => by
    have := hS.bd b z hz
    simp only [Bool.and_eq_true, decide_eq_true_eq]
    omega
  have h1 := rg false
  have h2 := rg true
  simp only [Bool.not_false, Bool.not_true] at h1 h2
  unfold verd
  rw [hx.il (hS.l1 _) (hS.l8 _), hy.il (hS.l1 _) (hS.l8 _), hx.ints, hy.ints, h1, h2]
  simp only [Bool.true_eq_false, if_false]
  rw [if_pos (by have := hS.tot; omega)]
theorem make_ok {T : Bool → List Int} {x y : D} {c : Cs} {Q : D → Cs → Prop} (hS : ST T 0) (hx : IsS x c (T false)) (hy : IsS y c (T true)) (q : ∀ kd c', Pfx c c' → Kp T kd c' → Q (scoD kd) c') : Ok ((mkR "Scores" gScores____init__ [x, y] c).bind fun d c1 => frzI d c1) Q := by
  have hx1 := hx.pfx (Pfx.one c [.ins "Scores" []])
  have hy1 := hy.pfx (Pfx.one c [.ins "Scores" []])
  have e := init_eq (v := x) (w := y) (k := c.length) (c := c ++ [.ins "Scores" []]) (hx1.vt (hS.l8 _)) (hy1.vt (hS.l8 _)) (cell_last _)
  rw [verd_fine hS hx1 hy1] at e
  have e : gScores____init__ [.ref c.length, x, y] (c ++ [.ins "Scores" []]) = .ok .non (((c ++ [Cell.ins "Scores" []]) ++ [keptS (intsV x (c ++ [Cell.ins "Scores" []])) (intsV y (c ++ [Cell.ins "Scores" []]))]).set c.length (.ins "Scores" [("kept_scores", .ref (c ++ [Cell.ins "Scores" []]).length)])) := e
  rw [hx1.ints, hy1.ints] at e
  generalize gScores____init__ = F at e ⊢
  have hl : (c ++ [Cell.ins "Scores" []]).length = c.length + 1 := by simp
  rw [hl] at e
  generalize hkp : keptS (T false) (T true) = kp at e
  have s0 : ∀ z, ((c ++ [Cell.ins "Scores" []]) ++ [kp]).set c.length z = (c ++ [z]) ++ [kp] := fun z => by
    rw [List.set_append_left _ _ (by simp), set_last]
  have s1 : ∀ z z2, ((c ++ [z]) ++ [kp]).set c.length z2 = (c ++ [z2]) ++ [kp] := fun z z2 => by
    rw [List.set_append_left _ _ (by simp), set_last]
  have g0 : ∀ z : Cell, ((c ++ [z]) ++ [kp])[c.length]? = some z := fun z => by
    rw [List.getElem?_append_left (by simp), cell_last]
  rw [s0] at e
  have e2 : mkR "Scores" F [x, y] c = .ok (.ref c.length) ((c ++ [.ins "Scores" [("kept_scores", .ref (c.length + 1))]]) ++ [kp]) := by unfold mkR; rw [e]; rfl
  have e3 : frzI (.ref c.length) ((c ++ [.ins "Scores" [("kept_scores", .ref (c.length + 1))]]) ++ [kp]) = .ok (scoD (c.length + 1)) ((c ++ [.frz (scoD (c.length + 1))]) ++ [kp]) := by
    show (match ((c ++ [Cell.ins "Scores" [("kept_scores", .ref (c.length + 1))]]) ++ [kp])[c.length]? with
      | some (.ins n fs) => (.ok (.obj n fs) (((c ++ [Cell.ins "Scores" [("kept_scores", .ref (c.length + 1))]]) ++ [kp]).set c.length (.frz (.obj n fs))) : Mi.R D)
      | _ => .stuck) = _
    rw [g0]
    show Mi.R.ok _ (((c ++ [_]) ++ [kp]).set c.length _) = _
    rw [s1]
    rfl
  rw [e2]
  refine Ok.of e3 (q _ _ ((Pfx.one c _).trans (Pfx.one _ _)) ⟨?_⟩)
  rw [List.getElem?_append_right (by simp), hkp]
  simp
theorem ok_make24 {T : Bool → List Int} {t : MA} {l : Ls} {c : Cs} {Q : D → Cs → Prop} (h : Ok (t l c) fun xs c1 => ∃ x y, xs = [x, y] ∧ ST T 0 ∧ IsS x c1 (T false) ∧ IsS y c1 (T true) ∧ ∀ kd c', Pfx c1 c' → Kp T kd c' → Q (scoD kd) c') : Ok (mFrzI (mMake "Scores" gScores____init__ t) l c) Q := by
  obtain ⟨xs, c1, e, x, y, rfl, hS, hx, hy, q⟩ := h
  unfold mFrzI mMake
  rw [e]
  exact make_ok hS hx hy q
theorem sortD_map {α β : Type} (ps : List PyData) (f : α → β) (ts : List α) : sortD ps (ts.map f) = (sortD ps ts).map f := by
  unfold sortD
  have e : ps.zip (ts.map f) = (ps.zip ts).map fun p => (p.1, f p.2) := by
    rw [List.zip_map_right]
    rfl
  rw [e, ← List.map_mergeSort (r := W.dataLe false Prod.fst) (f := fun p : PyData × α => (p.1, f p.2)) (fun a _ b _ => rfl), List.map_map, List.map_map]
  rfl
theorem repr_at {d : D} {p : PyData} {c : Cs} (e : toPyC 30 c d = some p) (h1 : bP p = true) (h2 : wP p ≤ 16777216) (h3 : p.depth ≤ 60) : reprX [d] c = .ok (.str p.shown) c := by
  show reprQ d c = _
  unfold reprQ
  rw [e]
  exact if_pos (okR_w h1 h2 h3)
theorem ths_show (us : List Th) (hl : us.length ≤ 100) (h8 : ∀ u ∈ us, u.2 ≤ 8) : bP (.list (us.map thP)) = true ∧ wP (.list (us.map thP)) ≤ 16777216 ∧ (PyData.list (us.map thP)).depth ≤ 60 := by
  have hd := depth_ths us
  refine ⟨?_, ?_, by simp only [PyData.depth]; omega⟩
  · show bPs (us.map thP) = true
    clear hl hd
    induction us with
    | nil => rfl
    | cons u us ih =>
      have h1 := h8 u List.mem_cons_self
      have h2 := ih fun v hv => h8 v (List.mem_cons_of_mem _ hv)
      show (bP (thP u) && bPs (us.map thP)) = true
      rw [h2, Bool.and_true]
      obtain ⟨b, i⟩ := u
      show (bP (.str (kdS b)) && (bP (.int (i : Nat)) && true)) = true
      have e1 : bP (.str (kdS b)) = true := by cases b <;> decide +kernel
      have e2 : bP (.int (i : Nat)) = true := by
        show decide ((i : Int).natAbs < 10 ^ 40) = true
        exact decide_eq_true (by simp only at h1; omega)
      rw [e1, e2]
      rfl
  · have h : wPs (us.map thP) ≤ 1000 * us.length := by
      clear hl h8 hd
      induction us with
      | nil => simp [wPs]
      | cons u us ih =>
        obtain ⟨b, i⟩ := u
        have : wP (thP (b, i)) ≤ 500 := by
          have h1 : (10 * (kdS b).length + 2 + 2 + (45 + 2 + 0) + 3 : Nat) ≤ 500 := by cases b <;> decide +kernel
          exact h1
        simp only [List.map_cons, List.length_cons, wPs]
        omega
    simp only [wP]
    omega
def usT (T : Bool → List Int) (x : Nat × Nat) : List Th := sortD ((lowT T x.1 x.2).map thP) (lowT T x.1 x.2)
theorem srt_us (T : Bool → List Int) (x : Nat × Nat) : srtT T x = (usT T x).map thD := sortD_map _ _ _
theorem us_mem {T : Bool → List Int} {x : Nat × Nat} {u : Th} (h : u ∈ usT T x) : u ∈ lowT T x.1 x.2 := by
  unfold usT sortD at h
  obtain ⟨p, hp, rfl⟩ := List.mem_map.mp h
  exact (List.of_mem_zip (a := p.1) (b := p.2) (List.mem_mergeSort.mp hp)).2
theorem repr_srt {T : Bool → List Int} (h8 : ∀ b, (T b).length ≤ 8) (x : Nat × Nat) : ∃ s, ∀ c, reprX [.lst (srtT T x)] c = .ok (.str s) c ∧ ∀ f, c[f]? = some (.lst (srtT T x)) → reprX [.ref f] c = .ok (.str s) c := by
  have hl : (usT T x).length ≤ 100 := by
    have := lowT_len h8 x.1 x.2
    unfold usT sortD
    rw [List.length_map, List.length_mergeSort, List.length_zip, List.length_map]
    omega
  obtain ⟨a1, a2, a3⟩ := ths_show (usT T x) hl fun u hu => by
    have h : u.2 < (if u.1 = true then (T true).length else (T false).length) := (lowT_at (us_mem hu)).2
    have h1 := h8 false
    have h2 := h8 true
    split at h <;> omega
  have hm : ∀ c, mapO (toPyC 29 c) ((usT T x).map thD) = some ((usT T x).map thP) := fun c => mapO_map (fun p => rfl) _
  refine ⟨_, fun c => ⟨repr_at (p := .list ((usT T x).map thP)) ?_ a1 a2 a3, fun f hf => repr_at (p := .list ((usT T x).map thP)) ?_ a1 a2 a3⟩⟩
  · rw [srt_us]
    show (mapO (toPyC 29 c) _).map PyData.list = _
    rw [hm]
    rfl
  · rw [srt_us] at hf
    rw [toPyC_lst hf, hm]
    rfl
theorem repr_bl (b : Bool) : ∃ s, ∀ c, reprX [.bl b] c = .ok (.str s) c := ⟨_, fun c => repr_at (p := .bool b) rfl rfl (by simp [wP]) (by simp [PyData.depth])⟩
theorem repr_non : ∃ s, ∀ c, reprX [.non] c = .ok (.str s) c := ⟨_, fun c => repr_at (p := .none) rfl rfl (by simp [wP]) (by simp [PyData.depth])⟩
theorem ne_bls (a b : Bool) (c : Cs) : neX (.bl a) (.bl b) c = .ok (.bl (a != b)) c := by cases a <;> cases b <;> rfl

theorem pfx_of {c c' : Cs} (h1 : c.length ≤ c'.length) (h2 : ∀ k, k < c.length → c'[k]? = c[k]?) : Pfx c c' := by
  refine ⟨c'.drop c.length, List.ext_getElem? fun k => ?_⟩
  rcases Nat.lt_or_ge k c.length with h | h
  · rw [h2 k h, List.getElem?_append_left h]
  · rw [List.getElem?_append_right h, List.getElem?_drop]
    congr 1
    omega
theorem bx_pfx {c c' : Cs} {k : Nat} {n : Int} (h : Bx c k n) (p : Pfx c c') : Bx c' k n := by
  obtain ⟨y, rfl⟩ := p
  exact bx_app h y
/-! ### lists of whole numbers -/

theorem Pfx.gr {k : Nat} {c c' : Cs} (p : Pfx c c') : Gr k c c' := ⟨p.len, fun j _ hj => p.at hj⟩
theorem law_true (ns : List Int) (hl : ns.length ≤ 63) : ∃ c, glaw [.ro (ns.map D.int)] [] = .ok (.bl true) c := by
  have hz : sizeLine = 16777216 := sizeLine_eq
  have r : Ok (glaw [.ro (ns.map D.int)] []) fun d _ => d = .bl true := by
    refine Ok.fun rfl ?_
    unfold claw
    walk_at "ok"
    refine ⟨⟨by simp only [List.length_map]; split <;> split <;> omega, by simp only [List.length_map]; split <;> split <;> omega⟩, ?_⟩
    refine OkS.for (fun ds l c => (∃ o1 o2 o3 o4 o5 o6 o7 o8 o9, l = [some (.ro (ns.map D.int)), o1, o2, o3, o4, o5, o6, o7, o8, o9, none]) ∧ ∀ d ∈ ds, ∃ i : Nat, i ≤ 1000 ∧ d = .int i) ?_ ?_ _ _ _ ?_
    · rintro l c ⟨⟨o1, o2, o3, o4, o5, o6, o7, o8, o9, rfl⟩, _⟩
      exact os_ret (ok_c rfl)
    · rintro d ds l c ⟨⟨o1, o2, o3, o4, o5, o6, o7, o8, o9, rfl⟩, hd⟩
      obtain ⟨i, hi, rfl⟩ := hd d List.mem_cons_self
      refine ok_gn (os_seq (os_set (ok_cb (ok_acons (ok_cb (ok_acons (ok_var rfl (ok_acons (ok_var rfl (ok_anil ?_))))))))))
      refine cell_ok hl hi fun v => ok_anil ?_
      refine box_ok fun c1 b1 l1 f1 => ?_
      refine os_for (ok_r1 (ok_acons (ok_c (ok_anil ⟨_, rfl, sm62 (n := 6) (by omega), ?_⟩))))
      rw [show ((6 : Int)).toNat = 6 from rfl]
      have hkl := bx_lt b1
      generalize c.length = k at b1 hkl ⊢
      refine os_forI 0 6 (fun j l c' => (∃ o3 o4 o5 o6 o7 o8 o9, l = [some (.ro (ns.map D.int)), some (.int (i : Nat)), some (.ref k), o3, o4, o5, o6, o7, o8, o9, none]) ∧ Bx c' k (1000 * (j : Nat))) ⟨⟨_, _, _, _, _, _, _, rfl⟩, bx_mono b1 (by omega)⟩ ?_ ?_
      · rintro l c' ⟨⟨o3, o4, o5, o6, o7, o8, o9, rfl⟩, _⟩
        exact ⟨⟨_, _, _, _, _, _, _, _, _, rfl⟩, fun d h => hd d (List.mem_cons_of_mem _ h)⟩
      · rintro j l c' hj ⟨⟨o3, o4, o5, o6, o7, o8, o9, rfl⟩, b⟩
        have body : ∀ T v c3, ST T 0 → LsV v c3 T → Bx c3 k (1000 * (j : Nat) + 900) → OkS ((sSeq (sSet 5 (mFrzI (mMake "Scores" gScores____init__ (aCons (mOp itemD (mVar 4) (mC (.int 0))) (aCons (mOp itemD (mVar 4) (mC (.int 1))) (aNil)))))) (sSeq (sSet 6 (mCB g_law_fits (aCons (mOp itemD (mVar 4) (mC (.int 0))) (aCons (mLcW (kAny (mOp itemD (mVar 4) (mC (.int 1)))) [10] (gN 10) (tYesM) (mOp subD (mCB lenD (aCons (mOp itemD (mVar 4) (mC (.int 0))) (aNil))) (mVar 10))) (aNil))))) (sFor (iR1 (aCons (mC (.int 2)) (aNil))) (gN 7) (sSeq (sPar [8, 9] (aCons (mMeth [("Scores", gScores__violation)] "violation" (mVar 5) aNil) (aCons (mCB g_law_due (aCons (mVar 4) (aNil))) (aNil)))) (sSeq (sIf (tOrM (mT (mOp neX (mCB reprX (aCons (mVar 8) (aNil))) (mCB reprX (aCons (mVar 9) (aNil))))) (tOrM (mT (mOp neX (mCB reprX (aCons (mMeth [("Scores", gScores__is_feasible)] "is_feasible" (mVar 5) aNil) (aNil))) (mCB reprX (aCons (mVar 6) (aNil))))) (mT (mOp neX (mVar 6) (mOp isD (mVar 9) (mC .non)))))) (sRet (mC (.bl false))) (sNil)) (sIf (mT (mOp isntD (mVar 8) (mC .non))) (sExpr (mBM appendD (mVar 8) (aCons (mC (.str "more")) (aNil)))) (sNil))))))) [some (.ro (ns.map D.int)), some (.int (i : Nat)), some (.ref k), some (.int (0 + (j : Nat))), some v, o5, o6, o7, o8, o9, none] c3) fun fl c2 => match fl with
            | .nx l2 => (∃ o3 o4 o5 o6 o7 o8 o9, l2 = [some (.ro (ns.map D.int)), some (.int (i : Nat)), some (.ref k), o3, o4, o5, o6, o7, o8, o9, none]) ∧ Bx c2 k (1000 * ((j + 1 : Nat) : Int))
            | _ => False := by
          intro T v c3 hS hv b3
          have w8 := hS.l8
          obtain ⟨x, hx, hxs⟩ := hv.pick false
          obtain ⟨y, hy, hys⟩ := hv.pick true
          refine os_seq (os_set (ok_make24 (T := T) (ok_acons (ok_op (ok_var rfl (ok_c (Ok.of (hx c3) (ok_acons (ok_op (ok_var rfl (ok_c (Ok.of (hy c3) (ok_anil ⟨x, y, rfl, hS, hxs, hys, fun kd c4 p4 hk => ?_⟩)))))))))))))
          have hx4 := hxs.pfx p4
          have hy4 := hys.pfx p4
          have hv4 := hv.pfx p4
          have b4 := bx_pfx b3 p4
          obtain ⟨w, hw1, hw2⟩ := hy4.any
          have n8 := w8 true
          refine os_seq (os_set (ok_cb (ok_acons (ok_op (ok_var rfl (ok_c (Ok.of (hx c4) (ok_acons (ok_lcY (T true) D.int (fun f => D.int (((T false).length : Int) - f)) (by omega) (ok_kany (ok_op (ok_var rfl (ok_c (Ok.of (hy c4) (Ok.of hw1 ⟨rfl, fun i _ => hw2 i⟩)))))) (fun f hf => ?_) (ok_anil ?_))))))))))
          · exact ok_gn ⟨rfl, ok_op (ok_cb (ok_acons (ok_op (ok_var rfl (ok_c (Ok.of (hx c4) (ok_anil (Ok.of hx4.len (ok_var rfl (Ok.of (show subD (.int ((T false).length : Nat)) (.int f) c4 = .ok (.int (((T false).length : Int) - f)) c4 from rfl) ⟨rfl, rfl⟩))))))))))⟩
          have em : (T true).map (fun f => D.int (((T false).length : Int) - f)) = ((T true).map fun f => ((T false).length : Int) - f).map D.int := by rw [List.map_map]; rfl
          rw [em]
          refine fits_ok hS hx4 fun c5 p5 => ?_
          have hk5 := hk.pfx p5
          have hv5 := hv4.pfx p5
          have b5 := bx_pfx b4 p5
          have hkl5 := bx_lt b5
          refine os_for (ok_r1 (ok_acons (ok_c (ok_anil ⟨_, rfl, sm62 (n := 2) (by omega), ?_⟩))))
          rw [show ((2 : Int)).toNat = 2 from rfl]
          refine os_forI 0 2 (fun _ l c' => (∃ o7 o8 o9, l = [some (.ro (ns.map D.int)), some (.int (i : Nat)), some (.ref k), some (.int (0 + (j : Nat))), some v, some (scoD kd), some (.bl (fstV T).isNone), o7, o8, o9, none]) ∧ Pfx c5 c') ⟨⟨_, _, _, rfl⟩, Pfx.refl c5⟩ ?_ ?_
          · rintro l c' ⟨⟨o7, o8, o9, rfl⟩, pp⟩
            exact ⟨⟨_, _, _, _, _, _, _, rfl⟩, bx_mono (bx_pfx b5 pp) (by omega)⟩
          · rintro u l c' _ ⟨⟨o7, o8, o9, rfl⟩, pp⟩
            obtain ⟨sb, hsb⟩ := repr_bl (fstV T).isNone
            refine ok_gn (os_seq (os_par (ok_acons (ok_sc (by decide +kernel) rfl (ok_anil (viol_ok (hk5.pfx pp) w8 (fun h0 c6 p6 => ?_) fun z hz f c6 p6 hf hfc => ?_))))))
            · refine ok_acons (ok_cb (ok_acons (ok_var rfl (ok_anil (due_ok ((hv5.pfx pp).pfx p6) w8 (fun _ => ok_anil ⟨_, _, rfl, ?_⟩) fun z hz => by rw [h0] at hz; cases hz)))))
              obtain ⟨sn, hsn⟩ := repr_non
              have hk6 := (hk5.pfx pp).pfx p6
              refine os_seq (os_if (ok_tor (ok_t (ok_op (ok_cb (ok_acons (ok_var rfl (ok_anil (Ok.of (hsn c6) (ok_cb (ok_acons (ok_var rfl (ok_anil (Ok.of (hsn c6) (Ok.of (ne_same _ c6) ⟨_, rfl, fun h => Bool.noConfusion h, fun _ => ?_⟩)))))))))))))))
              refine ok_tor (ok_t (ok_op (ok_cb (ok_acons (ok_sc (by decide +kernel) rfl (ok_anil (feas_ok hk6 w8 fun c7 p7 => ok_anil (Ok.of (hsb c7) (ok_cb (ok_acons (ok_var rfl (ok_anil (Ok.of (hsb c7) (Ok.of (ne_same _ c7) ⟨_, rfl, fun h => Bool.noConfusion h, fun _ => ?_⟩))))))))))))))
              refine ok_t (ok_op (ok_var rfl (ok_op (ok_var rfl (ok_c (Ok.of (show isD .non .non c7 = .ok (.bl true) c7 from rfl) (Ok.of (ne_bls _ _ c7) ⟨_, rfl, fun h => ?_, fun _ => os_nil ?_⟩)))))))
              · rw [h0] at h; cases h
              refine os_if (ok_t (ok_op (ok_var rfl (ok_c (Ok.of (show isntD .non .non c7 = .ok (.bl false) c7 from rfl) ⟨_, rfl, fun h => Bool.noConfusion h, fun _ => os_nil ?_⟩)))))
              exact ⟨⟨_, _, _, rfl⟩, (pp.trans p6).trans p7⟩
            · refine ok_acons (ok_cb (ok_acons (ok_var rfl (ok_anil (due_ok ((hv5.pfx pp).pfx p6) w8 (fun h0 => by rw [h0] at hz; cases hz) fun z2 hz2 => ok_anil ⟨_, _, rfl, ?_⟩)))))
              have ez : z2 = z := by rw [hz] at hz2; exact (Option.some.inj hz2).symm
              subst ez
              obtain ⟨sn, hsn⟩ := repr_srt w8 z2
              have hk6 := (hk5.pfx pp).pfx p6
              refine os_seq (os_if (ok_tor (ok_t (ok_op (ok_cb (ok_acons (ok_var rfl (ok_anil (Ok.of ((hsn c6).2 f hfc) (ok_cb (ok_acons (ok_var rfl (ok_anil (Ok.of (hsn c6).1 (Ok.of (ne_same _ c6) ⟨_, rfl, fun h => Bool.noConfusion h, fun _ => ?_⟩)))))))))))))))
              refine ok_tor (ok_t (ok_op (ok_cb (ok_acons (ok_sc (by decide +kernel) rfl (ok_anil (feas_ok hk6 w8 fun c7 p7 => ok_anil (Ok.of (hsb c7) (ok_cb (ok_acons (ok_var rfl (ok_anil (Ok.of (hsb c7) (Ok.of (ne_same _ c7) ⟨_, rfl, fun h => Bool.noConfusion h, fun _ => ?_⟩))))))))))))))
              refine ok_t (ok_op (ok_var rfl (ok_op (ok_var rfl (ok_c (Ok.of (show isD (.lst (srtT T z2)) .non c7 = .ok (.bl false) c7 from rfl) (Ok.of (ne_bls _ _ c7) ⟨_, rfl, fun h => ?_, fun _ => os_nil ?_⟩)))))))
              · rw [hz] at h; cases h
              have hf7 := p7.get hfc
              have hln : (srtT T z2).length ≤ 100 := by
                have := lowT_len w8 z2.1 z2.2
                rw [srt_us, List.length_map]
                unfold usT sortD
                rw [List.length_map, List.length_mergeSort, List.length_zip, List.length_map]
                omega
              refine os_if (ok_t (ok_op (ok_var rfl (ok_c (Ok.of (show isntD (.ref f) .non c7 = .ok (.bl true) c7 from rfl) ⟨_, rfl, fun _ => ?_, fun h => Bool.noConfusion h⟩)))))
              refine os_expr (ok_bm (ok_var rfl ⟨isL_ref hf7, ok_acons (ok_c (ok_anil (ok_append hf7 (by omega) ?_)))⟩))
              have pall := (pp.trans p6).trans p7
              refine ⟨⟨_, _, _, rfl⟩, pfx_of (by rw [List.length_set]; exact pall.len) fun m hm => ?_⟩
              have hpl := pp.len
              rw [List.getElem?_set_ne (by omega)]
              exact pall.at hm
        refine ok_gn (os_seq (os_set (ok_if (ok_t (ok_op (ok_cb (ok_acons (ok_var rfl (ok_acons (ok_c (ok_anil (take_gr b (by omega) (by decide) (by decide) fun u c2 u0 u1 b2 G2 _ => ok_c (Ok.of (eq_ints _ _ c2) ⟨_, rfl, fun h => ?_, fun h => ?_⟩)))))))))))))
        · refine ok_cb (ok_acons (ok_var rfl (ok_anil (far_ok b2 (by omega) fun is js c3 hs b3 G3 => ?_))))
          refine (body (fun b => if b = true then js else is) _ c3 hs.st ⟨fun b => .lst ((if b = true then js else is).map D.int), rfl, fun b => .tree (by cases b <;> rfl)⟩ (bx_mono b3 (by omega))).mono fun fl c4 hh => ?_
          cases fl with
          | nx l2 => exact hh
          | rt d => exact hh.elim
          | bk l2 => exact hh.elim
          | ct l2 => exact hh.elim
        · refine ok_cb (ok_acons (ok_var rfl (ok_anil (drawn24_ok b2 (by omega) fun a is js c3 hs ha h1 h2 b3 G3 => ?_))))
          refine (body (fun b => if b = true then js else is) _ c3 hs.st ⟨fun b => .ref (adT a b), rfl, fun b => .cell _ rfl (by cases b; exact h1; exact h2)⟩ (bx_mono b3 (by omega))).mono fun fl c4 hh => ?_
          cases fl with
          | nx l2 => exact hh
          | rt d => exact hh.elim
          | bk l2 => exact hh.elim
          | ct l2 => exact hh.elim
    · refine ⟨⟨_, _, _, _, _, _, _, _, _, rfl⟩, fun d h => ?_⟩
      obtain ⟨i, h1, rfl⟩ := rangeL_mem h
      refine ⟨i, ?_, by rw [Int.zero_add]⟩
      simp only [List.length_map] at h1
      revert h1
      split <;> split <;> omega
  obtain ⟨d, c, e, rfl⟩ := r
  exact ⟨c, e⟩

end L2.Lw
open PySem PySem.W PyProof.Rows
set_option maxRecDepth 100000 in
set_option maxHeartbeats 0 in
theorem PySem.Challenge.cw_weavegraph_k24_violations_holds : PySem.Challenge.rw_weavegraph_k24_violations.Holds := by
  w_on; o_law; k_head; (case hw => w_witness2)
  k_fill
  refine L2.Mi.law_g (l := PySem.Challenge.rw_weavegraph_k24_violations) (n := 63) (k := 8) (x := "_law_script") (g := fun _ => L2.Lw.glaw) rfl (by decide) rfl ⟨rfl, by decide, by decide⟩ (fun w h Y => PySem.W.kIn_of Y) (fun w h Y => ⟨fun p hp => (nomatch hp), fun p hp => (nomatch hp), fun p hp => (nomatch hp)⟩) ?F (fun _ ns hl => L2.Lw.law_true ns hl)
  case F =>
    intro w mg fa h KX G hmg
    refine' L2.Lw.law_fin KX G hmg ?z_all ?z_bool ?z_enumerate ?z_int ?z_isinstance ?z_len ?z_list ?z_max ?z_min ?z_range ?z_repr ?z_sorted ?z_str ?z_sum ?z_tuple ?z_zip ?a_KINDS ?l_KINDS ?a_MOST_THREADS ?z_super ?z_third ?z_top ?xaInvalidScores ?xcInvalidScores ?xtInvalidScores ?xsInvalidScores ?xbInvalidScores ?xiInvalidScores ?xyInvalidScores ?xlInvalidScores ?xoInvalidScores ?xdInvalidScores ?xvInvalidScores ?xfInvalidScores ?xeInvalidScores ?xmInvalidScores ?xpInvalidScores ?xnInvalidScores ?xqInvalidScores ?xrInvalidScores ?xkInvalidScores ?xgInvalidScores ?xhInvalidScores ?xjInvalidScores ?xaWrongTotal ?xcWrongTotal ?xtWrongTotal ?xsWrongTotal ?xbWrongTotal ?xiWrongTotal ?xyWrongTotal ?xlWrongTotal ?xoWrongTotal ?xdWrongTotal ?xvWrongTotal ?xfWrongTotal ?xeWrongTotal ?xmWrongTotal ?xpWrongTotal ?xnWrongTotal ?xqWrongTotal ?xrWrongTotal ?xkWrongTotal ?xgWrongTotal ?xhWrongTotal ?xjWrongTotal ?caScores ?cpScores ?cdScores ?coScores ?csScores ?fn_Scores_kept_scores ?kiScores ?kfScores ?knScores ?kkScores ?lScores____init__ ?cScores____init__ ?kScores____init__ ?mfScores__is_feasible ?mnScores__is_feasible ?lScores__is_feasible ?cScores__is_feasible ?kScores__is_feasible ?mfScores__lowest ?mnScores__lowest ?lScores__lowest ?cScores__lowest ?kScores__lowest ?mfScores__lowest_excess ?mnScores__lowest_excess ?lScores__lowest_excess ?cScores__lowest_excess ?kScores__lowest_excess ?mfScores__pairs ?mnScores__pairs ?lScores__pairs ?cScores__pairs ?kScores__pairs ?mfScores__score_of ?mnScores__score_of ?lScores__score_of ?cScores__score_of ?kScores__score_of ?bgScores__score_of ?btScores__score_of ?bfScores__score_of ?mfScores__threads ?mnScores__threads ?lScores__threads ?cScores__threads ?kScores__threads ?mfScores__violation ?mnScores__violation ?lScores__violation ?cScores__violation ?kScores__violation ?a_law_box ?l_law_box ?c_law_box ?k_law_box ?a_law_cell ?l_law_cell ?c_law_cell ?k_law_cell ?a_law_take ?l_law_take ?c_law_take ?k_law_take ?a_law_far ?l_law_far ?c_law_far ?k_law_far ?a_law_lists ?l_law_lists ?c_law_lists ?k_law_lists ?a_law_rows ?l_law_rows ?c_law_rows ?k_law_rows ?a_law_drawn ?l_law_drawn ?c_law_drawn ?k_law_drawn ?ais_sequence ?lis_sequence ?cis_sequence ?kis_sequence ?aneed_integers ?lneed_integers ?cneed_integers ?kneed_integers ?ais_integer ?lis_integer ?cis_integer ?kis_integer ?aneed_range ?lneed_range ?cneed_range ?kneed_range ?a_law_fits ?l_law_fits ?c_law_fits ?k_law_fits ?a_law_lowest ?l_law_lowest ?c_law_lowest ?k_law_lowest ?a_law_due ?l_law_due ?c_law_due ?k_law_due ?alaw ?llaw ?claw ?klaw
    (case z_all => k_is)
    (case z_bool => k_is)
    (case z_enumerate => k_is)
    (case z_int => k_is)
    (case z_isinstance => k_is)
    (case z_len => k_is)
    (case z_list => k_is)
    (case z_max => k_is)
    (case z_min => k_is)
    (case z_range => k_is)
    (case z_repr => k_is)
    (case z_sorted => k_is)
    (case z_str => k_is)
    (case z_sum => k_is)
    (case z_tuple => k_is)
    (case z_zip => k_is)
    (case a_KINDS => k_is)
    (case l_KINDS => k_is)
    (case a_MOST_THREADS => k_is)
    (case z_super => k_is)
    (case z_third => k_is)
    (case z_top => first | rfl | decide +kernel)
    (case xaInvalidScores => k_is)
    (case xcInvalidScores => first | k_is | rfl)
    (case xtInvalidScores => first | rfl | decide +kernel | k_is)
    (case xsInvalidScores => first | k_is | rfl | decide +kernel)
    (case xbInvalidScores => k_is)
    (case xiInvalidScores => k_is)
    (case xyInvalidScores => k_is)
    (case xlInvalidScores => k_is)
    (case xoInvalidScores => k_is)
    (case xdInvalidScores => k_is)
    (case xvInvalidScores => rfl)
    (case xfInvalidScores => first | rfl | decide +kernel)
    (case xeInvalidScores => k_is)
    (case xmInvalidScores => k_is)
    (case xpInvalidScores => k_is)
    (case xnInvalidScores => k_is)
    (case xqInvalidScores => k_is)
    (case xrInvalidScores => k_is)
    (case xkInvalidScores => k_is)
    (case xgInvalidScores => k_is)
    (case xhInvalidScores => k_is)
    (case xjInvalidScores => k_is)
    (case xaWrongTotal => k_is)
    (case xcWrongTotal => first | k_is | rfl)
    (case xtWrongTotal => first | rfl | decide +kernel | k_is)
    (case xsWrongTotal => first | k_is | rfl | decide +kernel)
    (case xbWrongTotal => k_is)
    (case xiWrongTotal => k_is)
    (case xyWrongTotal => k_is)
    (case xlWrongTotal => k_is)
    (case xoWrongTotal => k_is)
    (case xdWrongTotal => k_is)
    (case xvWrongTotal => rfl)
    (case xfWrongTotal => first | rfl | decide +kernel)
    (case xeWrongTotal => k_is)
    (case xmWrongTotal => k_is)
    (case xpWrongTotal => k_is)
    (case xnWrongTotal => k_is)
    (case xqWrongTotal => k_is)
    (case xrWrongTotal => k_is)
    (case xkWrongTotal => k_is)
    (case xgWrongTotal => k_is)
    (case xhWrongTotal => k_is)
    (case xjWrongTotal => k_is)
    (case caScores => k_is)
    (case cpScores => k_is)
    (case cdScores => k_is)
    (case coScores => k_is)
    (case csScores => k_is)
    (case fn_Scores_kept_scores => k_is)
    (case kiScores => k_is)
    (case kfScores => k_is)
    (case knScores => k_is)
    (case kkScores => k_is)
    (case lScores____init__ => k_is)
    (case cScores____init__ => k_is)
    (case kScores____init__ => k_is)
    (case mfScores__is_feasible => k_is)
    (case mnScores__is_feasible => k_is)
    (case lScores__is_feasible => k_is)
    (case cScores__is_feasible => k_is)
    (case kScores__is_feasible => k_is)
    (case mfScores__lowest => k_is)
    (case mnScores__lowest => k_is)
    (case lScores__lowest => k_is)
    (case cScores__lowest => k_is)
    (case kScores__lowest => k_is)
    (case mfScores__lowest_excess => k_is)
    (case mnScores__lowest_excess => k_is)
    (case lScores__lowest_excess => k_is)
    (case cScores__lowest_excess => k_is)
    (case kScores__lowest_excess => k_is)
    (case mfScores__pairs => k_is)
    (case mnScores__pairs => k_is)
    (case lScores__pairs => k_is)
    (case cScores__pairs => k_is)
    (case kScores__pairs => k_is)
    (case mfScores__score_of => k_is)
    (case mnScores__score_of => k_is)
    (case lScores__score_of => k_is)
    (case cScores__score_of => k_is)
    (case kScores__score_of => k_is)
    (case bgScores__score_of => k_is)
    (case btScores__score_of => k_is)
    (case bfScores__score_of => k_is)
    (case mfScores__threads => k_is)
    (case mnScores__threads => k_is)
    (case lScores__threads => k_is)
    (case cScores__threads => k_is)
    (case kScores__threads => k_is)
    (case mfScores__violation => k_is)
    (case mnScores__violation => k_is)
    (case lScores__violation => k_is)
    (case cScores__violation => k_is)
    (case kScores__violation => k_is)
    (case a_law_box => k_is)
    (case l_law_box => k_is)
    (case c_law_box => k_is)
    (case k_law_box => k_is)
    (case a_law_cell => k_is)
    (case l_law_cell => k_is)
    (case c_law_cell => k_is)
    (case k_law_cell => k_is)
    (case a_law_take => k_is)
    (case l_law_take => k_is)
    (case c_law_take => k_is)
    (case k_law_take => k_is)
    (case a_law_far => k_is)
    (case l_law_far => k_is)
    (case c_law_far => k_is)
    (case k_law_far => k_is)
    (case a_law_lists => k_is)
    (case l_law_lists => k_is)
    (case c_law_lists => k_is)
    (case k_law_lists => k_is)
    (case a_law_rows => k_is)
    (case l_law_rows => k_is)
    (case c_law_rows => k_is)
    (case k_law_rows => k_is)
    (case a_law_drawn => k_is)
    (case l_law_drawn => k_is)
    (case c_law_drawn => k_is)
    (case k_law_drawn => k_is)
    (case ais_sequence => k_is)
    (case lis_sequence => k_is)
    (case cis_sequence => k_is)
    (case kis_sequence => k_is)
    (case aneed_integers => k_is)
    (case lneed_integers => k_is)
    (case cneed_integers => k_is)
    (case kneed_integers => k_is)
    (case ais_integer => k_is)
    (case lis_integer => k_is)
    (case cis_integer => k_is)
    (case kis_integer => k_is)
    (case aneed_range => k_is)
    (case lneed_range => k_is)
    (case cneed_range => k_is)
    (case kneed_range => k_is)
    (case a_law_fits => k_is)
    (case l_law_fits => k_is)
    (case c_law_fits => k_is)
    (case k_law_fits => k_is)
    (case a_law_lowest => k_is)
    (case l_law_lowest => k_is)
    (case c_law_lowest => k_is)
    (case k_law_lowest => k_is)
    (case a_law_due => k_is)
    (case l_law_due => k_is)
    (case c_law_due => k_is)
    (case k_law_due => k_is)
    (case alaw => k_is)
    (case llaw => k_is)
    (case claw => k_is)
    (case klaw => k_is)

