import PyProof.Rows.All
import Wide.All
import OpenK.AllK
import Wide.FinOn
import HandS.Lambda
import HandS.ForMost
import HandS.IsInst
import HandS.Exc
import HandS.JoinGen
import HandS.Style
import HandS.Deep
import HandS.RaiseMore
import HandS.ExcInit
import KE.KUnpack
import HandS.Text
import HandS.DictEq
import HandS.Flow
import HandS.Defaults
import HandS.StrMore
import KE.KExcSuper
import HandS.TryMany
import HandS.ExcField
import HandS.Property
import HandS.ClsMeth
import KE.KOpsOwn
import KE.KCallOwn
import HandS.FStr
import HandS.Strs
import HandS.Small
import HandS.SlotsOwn
import HandS.Star
import HandS.TupMul
import HandS.Translate
import HandS.More
import HandS.Iter
import KE.GoesEnum
import KE.GoesMore
import KE.KFmtOwn
import HandS.NoneIn
import PyProof.ListStr
import PyProof.P3In
import HandS.SortInts
import HandS.Dict
import KE.KRevSl
import HandS.DictComp
import HandS.TupAny
import HandS.HotCalls
import HandS.SetBool
import HandS.SetFor
import HandS.Zip
import PyProof.TupleOfSeq
import HandS.Conv
import HandS.DictTup
import HandS.TupLen
import KE.KDictPairs
import KE.KDictDisplayH
import KE.KUnpackStar
import PySem.Challenge.RW_weavegraph_k15_shortest_paths
set_option Elab.async false
set_option linter.all false
set_option autoImplicit false
set_option maxRecDepth 100000
set_option maxHeartbeats 8000000
/-! the code objects of defs that make generators or functions, and their tables (printed law by law) -/
namespace L2.Mi
def codeL : List (Nat × Nat) := []
def tabsL : List Nat := codeL.map (·.2)
/-- the defs that hold lambdas: code object, its table, the lambdas' qualified name -/
def lamL : List (Nat × Nat × PySem.Str) := []
def allL : List (Nat × Nat) := codeL ++ lamL.map fun p => (p.1, p.2.1)
def tabsA : List Nat := allL.map (·.2)
end L2.Mi

namespace L2.Mi
open PySem PySem.Spec PyProof.Rows L2

/-! A layer of plain values over HandS: data as trees (D), cells for what is changed, computations R. -/

inductive D where
  | non
  | bl (b : Bool)
  | int (i : Int)
  | str (s : Str)
  | lst (xs : List D)
  | tup (xs : List D)
  | ro (xs : List D)
  | dct (kvs : List (Key × D))
  | ref (k : Nat)
  | obj (C : Str) (fs : List (Str × D))
  | adr (a : Addr)
  | ty (n : String)
  | gh (i : Nat) (G : Addr → Hp → List Addr → Prop)

inductive Cell where
  | lst (xs : List D)
  | dct (kvs : List (Key × D))
  | dT (kvs : List (List Key × D))
  | dTz (kvs : List (List Key × D))
  | ins (C : Str) (fs : List (Str × D))
  | frz (d : D)

abbrev Cs := List Cell
abbrev Ls := List (Option D)
structure Ex where
  cls : Str
  fs : List (Str × D)

inductive R (α : Type) where
  | stuck
  | ok (a : α) (c : Cs)
  | exc (x : Ex) (c : Cs)

def R.bind {α β : Type} (r : R α) (f : α → Cs → R β) : R β :=
  match r with
  | .stuck => .stuck
  | .ok a c => f a c
  | .exc x c => .exc x c
@[simp] theorem R.bind_ok {α β : Type} (a : α) (c : Cs) (f : α → Cs → R β) : (R.ok a c).bind f = f a c := rfl
@[simp] theorem R.bind_exc {α β : Type} (x : Ex) (c : Cs) (f : α → Cs → R β) : (R.exc x c : R α).bind f = .exc x c := rfl
@[simp] theorem R.bind_stuck {α β : Type} (f : α → Cs → R β) : (R.stuck : R α).bind f = .stuck := rfl

/-- a class, by its name: of the module, or a built-in one -/
def NamV (K : PySem.W.Frag) (n : Str) (v : Value) : Prop := PySem.W.nsIn K mainGlobals n = some (some v) ∨ (PySem.W.nsIn K mainGlobals n = some none ∧ bootBuiltins n = some v)
theorem NamV.one {K : PySem.W.Frag} {n : Str} {v u : Value} (a : NamV K n v) (b : NamV K n u) : v = u := by
  rcases a with a | ⟨a, a2⟩ <;> rcases b with b | ⟨b, b2⟩ <;> rw [a] at b
  · cases b; rfl
  · cases b
  · cases b
  · rw [a2] at b2; cases b2; rfl
mutual
inductive Rep (K : PySem.W.Frag) (I : Hp) (m : List Addr) : V → D → Prop where
  | non : Rep K I m .non .non
  | bl (b : Bool) : Rep K I m (.bl b) (.bl b)
  | int (i : Int) : Rep K I m (.int i) (.int i)
  | str (s : Str) : Rep K I m (.str s) (.str s)
  | lst {a : Addr} {vs : List V} {ds : List D} (h : I a = some (.lst vs)) (r : Reps K I m vs ds) : Rep K I m (.ref a) (.lst ds)
  | ro {a : Addr} {vs : List V} {ds : List D} (h : SqL K I a vs) (r : Reps K I m vs ds) : Rep K I m (.ref a) (.ro ds)
  | tup {a : Addr} {vs : List V} {ds : List D} (h : SqT K I a vs) (r : Reps K I m vs ds) (x : I a = some (.tup vs) ∨ ∀ s i, ds ≠ [D.str s, D.int i]) : Rep K I m (.ref a) (.tup ds)
  | dct {a : Addr} {vs : List (Key × V)} {ds : List (Key × D)} (h : I a = some (.dK vs)) (r : RepK K I m vs ds) : Rep K I m (.ref a) (.dct ds)
  | ref {k : Nat} {a : Addr} (h : m[k]? = some a) : Rep K I m (.ref a) (.ref k)
  | obj {a C dx : Addr} {n : Str} {vs : List (Str × V)} {ds : List (Str × D)} (hn : NamV K n (.ref C)) (h : I a = some (.ins C dx vs)) (r : RepF K I m vs ds) : Rep K I m (.ref a) (.obj n ds)
  | adr (a : Addr) : Rep K I m (.ref a) (.adr a)
  | ty (n : String) : Rep K I m (.ty n) (.ty n)
  | gh {a : Addr} {i : Nat} {G : Addr → Hp → List Addr → Prop} (gm : ∀ (I I' : Hp) (m m' : List Addr), Same I I' → (∀ (k : Nat) (a : Addr), m[k]? = some a → m'[k]? = some a) → G a I m → G a I' m') (h : G a I m) : Rep K I m (.ref a) (.gh i G)
inductive Reps (K : PySem.W.Frag) (I : Hp) (m : List Addr) : List V → List D → Prop where
  | nil : Reps K I m [] []
  | cons {v : V} {vs : List V} {d : D} {ds : List D} (h : Rep K I m v d) (t : Reps K I m vs ds) : Reps K I m (v :: vs) (d :: ds)
inductive RepK (K : PySem.W.Frag) (I : Hp) (m : List Addr) : List (Key × V) → List (Key × D) → Prop where
  | nil : RepK K I m [] []
  | cons {k : Key} {v : V} {vs : List (Key × V)} {d : D} {ds : List (Key × D)} (h : Rep K I m v d) (t : RepK K I m vs ds) : RepK K I m ((k, v) :: vs) ((k, d) :: ds)
inductive RepF (K : PySem.W.Frag) (I : Hp) (m : List Addr) : List (Str × V) → List (Str × D) → Prop where
  | nil : RepF K I m [] []
  | cons {k : Str} {v : V} {vs : List (Str × V)} {d : D} {ds : List (Str × D)} (h : Rep K I m v d) (t : RepF K I m vs ds) : RepF K I m ((k, v) :: vs) ((k, d) :: ds)
end

theorem sqT_same {K : PySem.W.Frag} {H H' : Hp} {a : Addr} {xs : List V} (e : Same H H') (h : SqT K H a xs) : SqT K H' a xs := by
  rcases h with (h | ⟨o, h⟩) | h
  · exact Or.inl (Or.inl (e _ _ h))
  · exact Or.inl (Or.inr ⟨o, e _ _ h⟩)
  · exact Or.inr h

/-- the cells' addresses grow at the end -/
def Pre (m m' : List Addr) : Prop := ∀ (k : Nat) (a : Addr), m[k]? = some a → m'[k]? = some a
theorem Pre.refl (m : List Addr) : Pre m m := fun _ _ h => h
theorem Pre.trans {m m1 m2 : List Addr} (a : Pre m m1) (b : Pre m1 m2) : Pre m m2 := fun k x h => b k x (a k x h)

section
variable {K : PySem.W.Frag} {I I' : Hp} {m m' : List Addr}
mutual
theorem Rep.mono (s : Same I I') (p : Pre m m') : ∀ {v : V} {d : D}, Rep K I m v d → Rep K I' m' v d
  | _, _, .non => .non
  | _, _, .bl b => .bl b
  | _, _, .int i => .int i
  | _, _, .str x => .str x
  | _, _, .lst h r => .lst (s _ _ h) (Reps.mono s p r)
  | _, _, .ro h r => .ro (s.seq h) (Reps.mono s p r)
  | _, _, .tup h r x => .tup (sqT_same s h) (Reps.mono s p r) (x.imp (fun e => s _ _ e) id)
  | _, _, .dct h r => .dct (s _ _ h) (RepK.mono s p r)
  | _, _, .ref h => .ref (p _ _ h)
  | _, _, .obj hn h r => .obj hn (s _ _ h) (RepF.mono s p r)
  | _, _, .adr a => .adr a
  | _, _, .ty n => .ty n
  | _, _, .gh gm h => .gh gm (gm _ _ _ _ s p h)
theorem Reps.mono (s : Same I I') (p : Pre m m') : ∀ {v : List V} {d : List D}, Reps K I m v d → Reps K I' m' v d
  | _, _, .nil => .nil
  | _, _, .cons h t => .cons (Rep.mono s p h) (Reps.mono s p t)
theorem RepK.mono (s : Same I I') (p : Pre m m') : ∀ {v : List (Key × V)} {d : List (Key × D)}, RepK K I m v d → RepK K I' m' v d
  | _, _, .nil => .nil
  | _, _, .cons h t => .cons (Rep.mono s p h) (RepK.mono s p t)
theorem RepF.mono (s : Same I I') (p : Pre m m') : ∀ {v : List (Str × V)} {d : List (Str × D)}, RepF K I m v d → RepF K I' m' v d
  | _, _, .nil => .nil
  | _, _, .cons h t => .cons (Rep.mono s p h) (RepF.mono s p t)
end
theorem Reps.length : ∀ {vs : List V} {ds : List D}, Reps K I m vs ds → vs.length = ds.length
  | _, _, .nil => rfl
  | _, _, .cons _ t => congrArg (· + 1) (Reps.length t)
theorem Reps.get : ∀ {vs : List V} {ds : List D} {i : Nat} {d : D}, Reps K I m vs ds → ds[i]? = some d → ∃ v, vs[i]? = some v ∧ Rep K I m v d
  | _, _, _, _, .nil, e => by simp at e
  | _, _, 0, _, .cons h _, e => by simp at e; subst e; exact ⟨_, rfl, h⟩
  | _, _, i + 1, d, .cons _ t, e => by
    obtain ⟨v, h1, h2⟩ := Reps.get (i := i) (d := d) t (by simpa using e)
    exact ⟨v, by simpa using h1, h2⟩
theorem Reps.append : ∀ {vs ws : List V} {ds es : List D}, Reps K I m vs ds → Reps K I m ws es → Reps K I m (vs ++ ws) (ds ++ es)
  | _, _, _, _, .nil, s => s
  | _, _, _, _, .cons r t, s => .cons r (Reps.append t s)
theorem Reps.set {v : V} {d : D} (r : Rep K I m v d) : ∀ {vs : List V} {ds : List D} (i : Nat), Reps K I m vs ds → Reps K I m (vs.set i v) (ds.set i d)
  | _, _, _, .nil => .nil
  | _, _, 0, .cons _ t => .cons r t
  | _, _, i + 1, .cons q t => .cons q (Reps.set r i t)
theorem Reps.take : ∀ {vs : List V} {ds : List D} (n : Nat), Reps K I m vs ds → Reps K I m (vs.take n) (ds.take n)
  | _, _, 0, _ => .nil
  | _, _, _ + 1, .nil => .nil
  | _, _, n + 1, .cons r t => .cons r (Reps.take n t)
theorem Reps.drop : ∀ {vs : List V} {ds : List D} (n : Nat), Reps K I m vs ds → Reps K I m (vs.drop n) (ds.drop n)
  | _, _, 0, r => r
  | _, _, _ + 1, .nil => .nil
  | _, _, n + 1, .cons _ t => Reps.drop n t
end

/-- dicts with tuple keys -/
def RepT (K : PySem.W.Frag) (I : Hp) (m : List Addr) (vs : List (List Key × V)) (ds : List (List Key × D)) : Prop := vs.map Prod.fst = ds.map Prod.fst ∧ Reps K I m (vs.map Prod.snd) (ds.map Prod.snd)
theorem RepT.mono {K : PySem.W.Frag} {I I' : Hp} {m m' : List Addr} {vs : List (List Key × V)} {ds : List (List Key × D)} (r : RepT K I m vs ds) (s : Same I I') (p : Pre m m') : RepT K I' m' vs ds := ⟨r.1, Reps.mono s p r.2⟩
/-- what a cell is, at its address -/
def CellAt (K : PySem.W.Frag) (I H : Hp) (m : List Addr) (a : Addr) : Cell → Prop
  | .lst ds => I a = none ∧ ∃ vs, H a = some (.lst vs) ∧ Reps K I m vs ds
  | .dct ds => I a = none ∧ ∃ vs, H a = some (.dK vs) ∧ RepK K I m vs ds
  | .dT ds => I a = none ∧ ∃ vs, H a = some (.dT vs) ∧ RepT K I m vs ds
  | .dTz ds => ∃ o vs, I a = some (.frz o (.dT vs)) ∧ RepT K I m vs ds
  | .ins C ds => I a = none ∧ ∃ dx vs, I dx = none ∧ dx ∉ m ∧ H dx = some (.own a) ∧ (∃ A, NamV K C (.ref A) ∧ H a = some (.ins A dx vs)) ∧ RepF K I m vs ds
  | .frz d => (I a ≠ none) ∧ Rep K I m (.ref a) d

/-- I: what never changes; m: the cells' addresses -/
def Fx (o : HO) : Prop := (∀ ps, o ≠ .tbl ps) ∧ ∀ q, o ≠ .ext q
/-- .. and no tuple: what stays unknown -/
def Fy (o : HO) : Prop := Fx o ∧ ∀ xs, o ≠ .tup xs
def Nt (H : Hp) (p : Addr) : Prop := ∀ o, H p = some o → Fx o
structure Tb (I H : Hp) (m : List Addr) : Prop where
  g : ∀ P ∈ tabsL, GxR.TabG H P ∧ I P = none ∧ P ∉ m
  l : ∀ p ∈ lamL, LamX.TabS H p.2.1 p.2.2 ∧ I p.2.1 = none ∧ p.2.1 ∉ m
theorem Tb.up {I H I' H' : Hp} {m m' : List Addr} (t : Tb I H m) {p : Addr} (hp : Nt H p) (eI : ∀ b, b ≠ p → I' b = I b) (eH : ∀ b, b ≠ p → H' b = H b) (em : ∀ b ∈ m', b ∈ m ∨ b = p) : Tb I' H' m' := by
  refine ⟨fun P hP => ?_, fun q hq => ?_⟩
  · obtain ⟨⟨ps, h1, h2⟩, h3, h4⟩ := t.g P hP
    have ne : P ≠ p := fun e => by subst e; exact (hp _ h1).1 _ rfl
    refine ⟨⟨ps, by rw [eH P ne]; exact h1, h2⟩, by rw [eI P ne]; exact h3, fun z => ?_⟩
    rcases em P z with z | z
    · exact h4 z
    · exact ne z
  · obtain ⟨⟨ps, h1, h2, h5⟩, h3, h4⟩ := t.l q hq
    have ne : q.2.1 ≠ p := fun e => by rw [e] at h1; exact (hp _ h1).1 _ rfl
    refine ⟨⟨ps, by rw [eH _ ne]; exact h1, h2, fun pos cv hc => ?_⟩, by rw [eI _ ne]; exact h3, fun z => ?_⟩
    · obtain ⟨c, e1, e2⟩ := h5 pos cv hc
      have nc : c ≠ p := fun e => by rw [e] at e2; exact (hp _ e2).2 _ rfl
      exact ⟨c, e1, by rw [eH c nc]; exact e2⟩
    · rcases em _ z with z | z
      · exact h4 z
      · exact ne z
theorem nt_none {H : Hp} {p : Addr} (h : H p = none) : Nt H p := fun o e => by rw [h] at e; cases e
theorem nt_some {H : Hp} {p : Addr} {o : HO} (h : H p = some o) (ho : Fx o) : Nt H p := fun o' e => by rw [h] at e; cases e; exact ho
section
variable {I H : Hp} {m : List Addr} {p : Addr}
theorem Tb.upH (t : Tb I H m) (hp : Nt H p) {o : HO} : Tb I (upd H p o) m := t.up hp (fun _ _ => rfl) (fun _ hb => upd_ne hb) (fun _ hb => .inl hb)
theorem Tb.upI (t : Tb I H m) (hp : Nt H p) {o : HO} : Tb (upd I p o) H m := t.up hp (fun _ hb => upd_ne hb) (fun _ _ => rfl) (fun _ hb => .inl hb)
theorem Tb.upHI (t : Tb I H m) (hp : Nt H p) {o o' : HO} : Tb (upd I p o) (upd H p o') m := t.up hp (fun _ hb => upd_ne hb) (fun _ hb => upd_ne hb) (fun _ hb => .inl hb)
theorem Tb.upHm (t : Tb I H m) (hp : Nt H p) {o : HO} : Tb I (upd H p o) (m ++ [p]) := t.up hp (fun _ _ => rfl) (fun _ hb => upd_ne hb) (fun _ hb => (List.mem_append.mp hb).imp_right List.mem_singleton.mp)
theorem Tb.upm (t : Tb I H m) (hp : Nt H p) : Tb I H (m ++ [p]) := t.up hp (fun _ _ => rfl) (fun _ _ => rfl) (fun _ hb => (List.mem_append.mp hb).imp_right List.mem_singleton.mp)
end
structure Rel (K : PySem.W.Frag) (I H : Hp) (m : List Addr) (c : Cs) : Prop where
  same : Same I H
  len : m.length = c.length
  nd : ∀ (i j : Nat) (a : Addr), m[i]? = some a → m[j]? = some a → i = j
  cell : ∀ (k : Nat) (a : Addr) (x : Cell), m[k]? = some a → c[k]? = some x → CellAt K I H m a x
  tabs : Tb I H m

/-- what may happen in between: I and m grow; what is neither known nor a cell stays -/
structure Ext (I : Hp) (m : List Addr) (H I' : Hp) (m' : List Addr) (H' : Hp) : Prop where
  same : Same I I'
  pre : Pre m m'
  fr : ∀ b o, H b = some o → Fy o → I b = none → b ∉ m → H' b = some o ∧ I' b = none ∧ b ∉ m'
theorem Ext.refl (I : Hp) (m : List Addr) (H : Hp) : Ext I m H I m H := ⟨Same.refl I, Pre.refl m, fun _ _ h1 _ h2 h3 => ⟨h1, h2, h3⟩⟩
theorem Ext.trans {I I1 I2 H H1 H2 : Hp} {m m1 m2 : List Addr} (a : Ext I m H I1 m1 H1) (b : Ext I1 m1 H1 I2 m2 H2) : Ext I m H I2 m2 H2 :=
  ⟨a.same.trans b.same, a.pre.trans b.pre, fun x o h1 hT h2 h3 => let ⟨q1, q2, q3⟩ := a.fr x o h1 hT h2 h3; b.fr x o q1 hT q2 q3⟩
theorem Rep.ext {K : PySem.W.Frag} {I I1 H H1 : Hp} {m m1 : List Addr} {v : V} {d : D} (r : Rep K I m v d) (e : Ext I m H I1 m1 H1) : Rep K I1 m1 v d := r.mono e.same e.pre
theorem Reps.ext {K : PySem.W.Frag} {I I1 H H1 : Hp} {m m1 : List Addr} {v : List V} {d : List D} (r : Reps K I m v d) (e : Ext I m H I1 m1 H1) : Reps K I1 m1 v d := r.mono e.same e.pre

/-- the locals -/
structure Locs (K : PySem.W.Frag) (I : Hp) (m : List Addr) (σ : St) (ls : Ls) : Prop where
  len : σ.length = ls.length
  at_ : ∀ (i : Nat) (d : D), ls[i]? = some (some d) → ∃ v, σ[i]? = some (some v) ∧ Rep K I m v d
theorem Locs.ext {K : PySem.W.Frag} {I I1 H H1 : Hp} {m m1 : List Addr} {σ : St} {ls : Ls} (l : Locs K I m σ ls) (e : Ext I m H I1 m1 H1) : Locs K I1 m1 σ ls :=
  ⟨l.len, fun i d h => let ⟨v, h1, h2⟩ := l.at_ i d h; ⟨v, h1, h2.ext e⟩⟩
theorem Locs.set {K : PySem.W.Frag} {I : Hp} {m : List Addr} {σ : St} {ls : Ls} {v : V} {d : D} (i : Nat) (l : Locs K I m σ ls) (r : Rep K I m v d) : Locs K I m (σ.set i (some v)) (ls.set i (some d)) := by
  refine ⟨by simp [l.len], fun j e h => ?_⟩
  by_cases hj : i = j
  · subst hj
    by_cases hl : i < ls.length
    · rw [List.getElem?_set_self hl] at h
      cases h
      exact ⟨v, by rw [List.getElem?_set_self (by rw [l.len]; exact hl)], r⟩
    · rw [List.getElem?_eq_none (by simpa using hl)] at h
      cases h
  · rw [List.getElem?_set_ne hj] at h ⊢
    exact l.at_ j e h

/-- an exception, its class and its own dict -/
def RepX (K : PySem.W.Frag) (I : Hp) (m : List Addr) (H : Hp) (cls : Value) (dd : Option Addr) (x : Ex) : Prop :=
  NamV K x.cls cls ∧ ((dd = none ∧ x.fs = []) ∨ ∃ a vs, dd = some a ∧ I a = some (.xd vs) ∧ RepF K I m vs x.fs)

/-- what is wanted behind a computation -/
def After {α β : Type} (rep : Hp → List Addr → β → α → Prop) (K : PySem.W.Frag) (I : Hp) (m : List Addr) (H : Hp) (W : XK) (Q : β → Hp → Prop) : R α → Prop
  | .stuck => False
  | .ok d c => ∀ I' m' H' v, Ext I m H I' m' H' → Rel K I' H' m' c → rep I' m' v d → Q v H'
  | .exc x c => ∀ I' m' H' cls dd, Ext I m H I' m' H' → Rel K I' H' m' c → RepX K I' m' H' cls dd x → W cls dd H'
section
variable {α β γ δ : Type} {rep : Hp → List Addr → β → α → Prop} {rep' : Hp → List Addr → δ → γ → Prop} {K : PySem.W.Frag} {I I1 H H1 : Hp} {m m1 : List Addr} {W : XK} {Q Q' : β → Hp → Prop} {Q2 : δ → Hp → Prop} {r : R α} {c : Cs}
theorem After.ext (e : Ext I m H I1 m1 H1) (a : After rep K I m H W Q r) : After rep K I1 m1 H1 W Q r := by
  cases r with
  | stuck => exact a
  | ok d c => exact fun I' m' H' v e' => a I' m' H' v (e.trans e')
  | exc x c => exact fun I' m' H' cls dd e' => a I' m' H' cls dd (e.trans e')
theorem After.mono (a : After rep K I m H W Q r) (h : ∀ v H', Q v H' → Q' v H') : After rep K I m H W Q' r := by
  cases r with
  | stuck => exact a
  | ok d c => exact fun I' m' H' v e' r' p => h _ _ (a I' m' H' v e' r' p)
  | exc x c => exact a
/-- what stands behind the first of two computations -/
def Mid (rep : Hp → List Addr → β → α → Prop) (rep' : Hp → List Addr → δ → γ → Prop) (K : PySem.W.Frag) (I : Hp) (m : List Addr) (H : Hp) (W : XK) (Q2 : δ → Hp → Prop) (f : α → Cs → R γ) (v : β) (H1 : Hp) : Prop :=
  ∃ I1 m1 c1 a, Ext I m H I1 m1 H1 ∧ Rel K I1 H1 m1 c1 ∧ rep I1 m1 v a ∧ After rep' K I1 m1 H1 W Q2 (f a c1)
theorem After.bind {f : α → Cs → R γ} (a : After rep' K I m H W Q2 (r.bind f)) : After rep K I m H W (Mid rep rep' K I m H W Q2 f) r := by
  cases r with
  | stuck => exact a
  | ok d c => exact fun I' m' H' v e' r' p => ⟨I', m', c, d, e', r', p, After.ext e' a⟩
  | exc x c => exact a
/-- nothing happens any more -/
theorem After.here {d : α} {v : β} (a : After rep K I m H W Q (.ok d c)) (r : Rel K I H m c) (p : rep I m v d) : Q v H := a I m H v (Ext.refl I m H) r p
end

def rD (K : PySem.W.Frag) : Hp → List Addr → V → D → Prop := fun I m v d => Rep K I m v d
def rA (K : PySem.W.Frag) : Hp → List Addr → List V → List D → Prop := fun I m v d => Reps K I m v d
def rB : Hp → List Addr → Bool → Bool → Prop := fun _ _ v d => v = d

abbrev ME := Ls → Cs → R D
abbrev MA := Ls → Cs → R (List D)
abbrev MT := Ls → Cs → R Bool
/-- the reading of a computation -/
def rd {α β : Type} (rep : Hp → List Addr → β → α → Prop) (K : PySem.W.Frag) (W : WX) (f : Ls → Cs → R α) : St → Hp → (β → Hp → Prop) → Prop := fun σ H Q =>
  ∃ I m ls c, Rel K I H m c ∧ Locs K I m σ ls ∧ After rep K I m H (fun cls dd H' => W cls dd σ H') Q (f ls c)
abbrev rdE (K : PySem.W.Frag) (W : WX) (f : ME) : TE := rd (rD K) K W f
abbrev rdA (K : PySem.W.Frag) (W : WX) (f : MA) : TA := rd (rA K) K W f
abbrev rdT (K : PySem.W.Frag) (W : WX) (f : MT) : TT := rd rB K W f

/-- a new object that never changes -/
theorem alloc {K : PySem.W.Frag} {I H : Hp} {m : List Addr} {c : Cs} {p : Addr} {o : HO} (r : Rel K I H m c) (np : H p = none) : Rel K (upd I p o) (upd H p o) m c ∧ Ext I m H (upd I p o) m (upd H p o) := by
  have nI : I p = none := r.same.free np
  have sI : Same I (upd I p o) := fun b u e => by rw [upd_ne (ne_of_none e nI)]; exact e
  have sH : Same H (upd H p o) := fun b u e => by rw [upd_ne (ne_of_none e np)]; exact e
  refine ⟨⟨fun b u e => ?_, r.len, r.nd, fun k a x h1 h2 => ?_, r.tabs.upHI (nt_none np)⟩, sI, Pre.refl m, fun b u h1 hT h2 h3 => ⟨sH b u h1, ?_, h3⟩⟩
  · by_cases hb : b = p
    · subst hb
      rw [upd_same] at e ⊢
      exact e
    · rw [upd_ne hb] at e ⊢
      exact r.same b u e
  · have q := r.cell k a x h1 h2
    cases x with
    | lst ds =>
      obtain ⟨q1, vs, q2, q3⟩ := q
      exact ⟨by rw [upd_ne (ne_of_none q2 np)]; exact q1, vs, sH _ _ q2, q3.mono sI (Pre.refl m)⟩
    | dct ds =>
      obtain ⟨q1, vs, q2, q3⟩ := q
      exact ⟨by rw [upd_ne (ne_of_none q2 np)]; exact q1, vs, sH _ _ q2, q3.mono sI (Pre.refl m)⟩
    | dT ds =>
      obtain ⟨q1, vs, q2, q3⟩ := q
      exact ⟨by rw [upd_ne (ne_of_none q2 np)]; exact q1, vs, sH _ _ q2, q3.mono sI (Pre.refl m)⟩
    | dTz es => exact q.imp (fun _ y => y.imp fun _ y => ⟨sI _ _ y.1, y.2.mono sI (Pre.refl m)⟩)
    | ins C ds =>
      obtain ⟨q1, dx, vs, q2, q3, q4, q5, q6⟩ := q
      exact ⟨by rw [upd_ne (q5.elim fun _ z => ne_of_none z.2 np)]; exact q1, dx, vs, by rw [upd_ne (ne_of_none q4 np)]; exact q2, q3, sH _ _ q4, q5.imp fun _ z => ⟨z.1, sH _ _ z.2⟩, q6.mono sI (Pre.refl m)⟩
    | frz d =>
      obtain ⟨q1, q2⟩ := q
      refine ⟨fun z => q1 ?_, q2.mono sI (Pre.refl m)⟩
      by_cases hb : a = p
      · subst hb; exact nI
      · rw [upd_ne hb] at z; exact z
  · rw [upd_ne (ne_of_none h1 np)]
    exact h2
end L2.Mi

namespace L2.Mi
open PySem PySem.Spec PyProof.Rows L2

/-! ### weaker readings -/
theorem PEi {X : Cx} {e : Expr} {t t' : TE} (h : PE X e t) (w : ∀ σ H Q, t' σ H Q → t σ H Q) : PE X e t' := ⟨fun pins s σ H Q I q => h.run pins s σ H Q I (w σ H Q q)⟩
theorem PTi {X : Cx} {e : Expr} {t t' : TT} (h : PT X e t) (w : ∀ σ H Q, t' σ H Q → t σ H Q) : PT X e t' := ⟨fun pins s σ H Q I q => h.run pins s σ H Q I (w σ H Q q)⟩
theorem PWi {X : Cx} {e : Expr} {t t' : TT} (h : PW X e t) (w : ∀ σ H Q, t' σ H Q → t σ H Q) : PW X e t' := ⟨fun wh pins s σ H Q I q => h.run wh pins s σ H Q I (w σ H Q q)⟩
theorem PAi {X : Cx} {e : List Expr} {t t' : TA} (h : PA X e t) (w : ∀ σ H Q, t' σ H Q → t σ H Q) : PA X e t' := ⟨fun p pins s σ H Q I q => h.run p pins s σ H Q I (w σ H Q q)⟩

section
variable {X : Cx} {W : WX} {a b c e : Expr} {es rest : List Expr} {pos : Pos} {fa fb fc : ME} {f g : D → D → Cs → R D}

/-! ### names, constants -/
def mVar (i : Nat) : ME := fun l c => match l[i]? with
  | some (some d) => .ok d c
  | _ => .stuck
theorem me_var {i : Nat} (h : PE X e (tVar i)) : PE X e (rdE X.K W (mVar i)) := PEi h fun σ H Q ⟨I, m, l, c, r, L, A⟩ => by
  unfold mVar at A
  cases q : l[i]? with
  | none => rw [q] at A; exact A.elim
  | some o =>
    cases o with
    | none => rw [q] at A; exact A.elim
    | some d =>
      rw [q] at A
      obtain ⟨v, h1, h2⟩ := L.at_ i d q
      exact ⟨v, h1, A.here r h2⟩
def mC (d : D) : ME := fun _ c => .ok d c
theorem me_c {v : V} {d : D} (h : PE X e (tC v)) (p : ∀ I m, Rep X.K I m v d) : PE X e (rdE X.K W (mC d)) := PEi h fun σ H Q ⟨I, m, l, c, r, L, A⟩ => A.here r (p I m)
theorem me_int {i : Int} {j : Nat} : PE X (.Constant (.int i) j pos) (rdE X.K W (mC (.int i))) := me_c pe_int fun _ _ => .int i
theorem me_bl {i : Bool} {j : Nat} : PE X (.Constant (.bool i) j pos) (rdE X.K W (mC (.bl i))) := me_c pe_bl fun _ _ => .bl i
theorem me_non {j : Nat} : PE X (.Constant .none j pos) (rdE X.K W (mC .non)) := me_c pe_non fun _ _ => .non
theorem me_str {i : Str} {j : Nat} : PE X (.Constant (.str i) j pos) (rdE X.K W (mC (.str i))) := me_c pe_str fun _ _ => .str i

/-! ### operators -/
def OpS (K : PySem.W.Frag) (r : R2) (g : D → D → Cs → R D) : Prop := ∀ (I H : Hp) (m : List Addr) (c : Cs) (v1 v2 : V) (d1 d2 : D) (W : XK) (Q : VK),
  Rel K I H m c → Rep K I m v1 d1 → Rep K I m v2 d2 → After (rD K) K I m H W Q (g d1 d2 c) → r v1 v2 H Q
def mOp (g : D → D → Cs → R D) (a b : ME) : ME := fun l c => (a l c).bind fun x c1 => (b l c1).bind fun y c2 => g x y c2
theorem op_read {K : PySem.W.Frag} {r : R2} {σ : St} {H : Hp} {Q : VK} (hs : OpS K r g) (h : rdE K W (mOp g fa fb) σ H Q) : tOp r (rdE K W fa) (rdE K W fb) σ H Q := by
  obtain ⟨I, m, l, c, R, L, A⟩ := h
  refine ⟨I, m, l, c, R, L, After.mono (After.bind (rep := rD K) A) fun v1 H1 ⟨I1, m1, c1, d1, E1, R1, p1, A1⟩ => ?_⟩
  refine ⟨I1, m1, l, c1, R1, L.ext E1, After.mono (After.bind (rep := rD K) A1) fun v2 H2 ⟨I2, m2, c2, d2, E2, R2, p2, A2⟩ => ?_⟩
  exact hs _ _ _ _ _ _ _ _ _ _ R2 (Rep.ext p1 E2) p2 A2
theorem me_op {op : Operator} {r : R2} (ho : OpR X (binaryOp op) r) (hs : OpS X.K r g) (ha : PE X a (rdE X.K W fa)) (hb : PE X b (rdE X.K W fb)) : PE X (.BinOp a op b pos) (rdE X.K W (mOp g fa fb)) :=
  PEi (pe_op ho ha hb) fun _ _ _ h => op_read hs h
theorem me_cmp {op : CmpOp} {r : R2} (ho : OpR X (compareOp op) r) (hs : OpS X.K r g) (ha : PE X a (rdE X.K W fa)) (hb : PE X b (rdE X.K W fb)) (hm : behindInMarks op b = false) : PE X (.Compare a [op] [b] pos) (rdE X.K W (mOp g fa fb)) :=
  PEi (pe_cmpR ho ha hb hm) fun _ _ _ h => op_read hs h
theorem me_ix {r : R2} (ho : IxR X r) (hs : OpS X.K r g) (ha : PE X a (rdE X.K W fa)) (hb : PE X b (rdE X.K W fb)) (hp : PlainIx b) : PE X (.Subscript a b pos) (rdE X.K W (mOp g fa fb)) :=
  PEi (pe_ix ho ha hb hp) fun _ _ _ h => op_read hs h
def UnS (K : PySem.W.Frag) (r : V → Hp → VK → Prop) (g : D → Cs → R D) : Prop := ∀ (I H : Hp) (m : List Addr) (c : Cs) (v1 : V) (d1 : D) (W : XK) (Q : VK),
  Rel K I H m c → Rep K I m v1 d1 → After (rD K) K I m H W Q (g d1 c) → r v1 H Q
def mUn (g : D → Cs → R D) (a : ME) : ME := fun l c => (a l c).bind fun x c1 => g x c1
theorem me_un {op : UnaryOp} {r : V → Hp → VK → Prop} {g : D → Cs → R D} (ho : UnR X (unaryOp op) r) (hs : UnS X.K r g) (ha : PE X a (rdE X.K W fa)) : PE X (.UnaryOp op a pos) (rdE X.K W (mUn g fa)) :=
  PEi (pe_un ho ha) fun σ H Q ⟨I, m, l, c, R, L, A⟩ => ⟨I, m, l, c, R, L, After.mono (After.bind (rep := rD X.K) A) fun v1 H1 ⟨I1, m1, c1, d1, E1, R1, p1, A1⟩ => hs _ _ _ _ _ _ _ _ R1 p1 A1⟩
/-- a op1 b op2 c -/
def mChain (g g' : D → D → Cs → R D) (a b d : ME) : ME := fun l c => (a l c).bind fun x c1 => (b l c1).bind fun y c2 => (g x y c2).bind fun z c3 => match z with
  | .bl true => (d l c3).bind fun w c4 => g' y w c4
  | .bl false => .ok (.bl false) c3
  | _ => .stuck
theorem me_chain {op op' : CmpOp} {r r' : R2} (ho : OpR X (compareOp op) r) (hs : OpS X.K r f) (ho' : OpR X (compareOp op') r') (hs' : OpS X.K r' g) (ha : PE X a (rdE X.K W fa)) (hb : PE X b (rdE X.K W fb)) (hc : PE X c (rdE X.K W fc))
    (hm : lastMarks [op, op'] [b, c] = false := by with_unfolding_all rfl) : PE X (.Compare a [op, op'] [b, c] pos) (rdE X.K W (mChain f g fa fb fc)) := PEi (pe_chain ho ho' ha hb hc hm) fun σ H Q ⟨I, m, l, c, R, L, A⟩ => by
  refine ⟨I, m, l, c, R, L, After.mono (After.bind (rep := rD X.K) A) fun v1 H1 ⟨I1, m1, c1, d1, E1, R1, p1, A1⟩ => ?_⟩
  refine ⟨I1, m1, l, c1, R1, L.ext E1, After.mono (After.bind (rep := rD X.K) A1) fun v2 H2 ⟨I2, m2, c2, d2, E2, R2, p2, A2⟩ => ?_⟩
  refine hs _ _ _ _ _ _ _ _ _ _ R2 (Rep.ext p1 E2) p2 (After.mono (After.bind (rep := rD X.K) A2) fun v3 H3 ⟨I3, m3, c3, d3, E3, R3, p3, A3⟩ => ?_)
  cases p3 with
  | bl k =>
    refine ⟨k, rfl, ?_⟩
    cases k with
    | false =>
      rw [if_neg Bool.false_ne_true]
      exact A3.here R3 (Rep.bl false)
    | true =>
      rw [if_pos rfl]
      refine ⟨I3, m3, l, c3, R3, ((L.ext E1).ext E2).ext E3, After.mono (After.bind (rep := rD X.K) A3) fun v4 H4 ⟨I4, m4, c4, d4, E4, R4, p4, A4⟩ => ?_⟩
      exact hs' _ _ _ _ _ _ _ _ _ _ R4 (Rep.ext (Rep.ext p2 E3) E4) p4 A4
  | _ => exact A3.elim

/-! ### tests -/
def mT (a : ME) : MT := fun l c => (a l c).bind fun x c1 => match x with
  | .bl k => .ok k c1
  | _ => .stuck
theorem mt_val (ha : PE X e (rdE X.K W fa)) (he : ∀ whole, isTrue e X.env whole = (do let v ← whole; standAt e.pos; holding [v] (truthy v)) := by intro _; rfl) : PT X e (rdT X.K W (mT fa)) :=
  PTi (pt_val ha he) fun σ H Q ⟨I, m, l, c, R, L, A⟩ => ⟨I, m, l, c, R, L, After.mono (After.bind (rep := rD X.K) A) fun v1 H1 ⟨I1, m1, c1, d1, E1, R1, p1, A1⟩ => by
    cases p1 with
    | bl k => exact ⟨k, rfl, A1.here R1 rfl⟩
    | _ => exact A1.elim⟩
/-- a comparison as a test -/
theorem mt_cmp {op : CmpOp} {r : R2} (ho : OpR X (compareOp op) r) (hs : OpS X.K r g) (ha : PE X a (rdE X.K W fa)) (hb : PE X b (rdE X.K W fb)) (hm : behindInMarks op b = false) : PT X (.Compare a [op] [b] pos) (rdT X.K W (mT (mOp g fa fb))) :=
  PTi (pt_cmpR ho ha hb hm) fun σ H Q ⟨I, m, l, c, R, L, A⟩ => op_read hs ⟨I, m, l, c, R, L, After.mono (After.bind (rep := rD X.K) A) fun v1 H1 ⟨I1, m1, c1, d1, E1, R1, p1, A1⟩ => by
    cases p1 with
    | bl k => exact ⟨k, rfl, A1.here R1 rfl⟩
    | _ => exact A1.elim⟩
def tAndM (a b : MT) : MT := fun l c => (a l c).bind fun k c1 => match k with
  | true => b l c1
  | false => .ok false c1
def tOrM (a b : MT) : MT := fun l c => (a l c).bind fun k c1 => match k with
  | true => .ok true c1
  | false => b l c1
def tNotM (a : MT) : MT := fun l c => (a l c).bind fun k c1 => .ok (!k) c1
variable {ta tb : MT}
theorem mw_and1 (ha : PT X a (rdT X.K W ta)) : PW X (.BoolOp .And [a] pos) (rdT X.K W ta) := pw_and1 ha
theorem mw_or1 (ha : PT X a (rdT X.K W ta)) : PW X (.BoolOp .Or [a] pos) (rdT X.K W ta) := pw_or1 ha
theorem mw_and (ha : PT X a (rdT X.K W ta)) (hb : PW X (.BoolOp .And (b :: rest) pos) (rdT X.K W tb)) : PW X (.BoolOp .And (a :: b :: rest) pos) (rdT X.K W (tAndM ta tb)) :=
  PWi (pw_and ha hb) fun σ H Q ⟨I, m, l, c, R, L, A⟩ => ⟨I, m, l, c, R, L, After.mono (After.bind (rep := rB) A) fun v1 H1 ⟨I1, m1, c1, d1, E1, R1, p1, A1⟩ => by
    cases (show v1 = d1 from p1)
    cases v1 with
    | true => exact iteT <| ⟨I1, m1, l, c1, R1, L.ext E1, A1⟩
    | false => exact iteF <| A1.here R1 rfl⟩
theorem mw_or (ha : PT X a (rdT X.K W ta)) (hb : PW X (.BoolOp .Or (b :: rest) pos) (rdT X.K W tb)) : PW X (.BoolOp .Or (a :: b :: rest) pos) (rdT X.K W (tOrM ta tb)) :=
  PWi (pw_or ha hb) fun σ H Q ⟨I, m, l, c, R, L, A⟩ => ⟨I, m, l, c, R, L, After.mono (After.bind (rep := rB) A) fun v1 H1 ⟨I1, m1, c1, d1, E1, R1, p1, A1⟩ => by
    cases (show v1 = d1 from p1)
    cases v1 with
    | true => exact iteT <| A1.here R1 rfl
    | false => exact iteF <| ⟨I1, m1, l, c1, R1, L.ext E1, A1⟩⟩
theorem mt_not (ha : PT X a (rdT X.K W ta)) : PT X (.UnaryOp .Not a pos) (rdT X.K W (tNotM ta)) :=
  PTi (pt_not ha) fun σ H Q ⟨I, m, l, c, R, L, A⟩ => ⟨I, m, l, c, R, L, After.mono (After.bind (rep := rB) A) fun v1 H1 ⟨I1, m1, c1, d1, E1, R1, p1, A1⟩ => by
    cases (show v1 = d1 from p1)
    exact A1.here R1 rfl⟩
/-- and, or, not as values -/
def mAnd (a b : ME) : ME := fun l c => (a l c).bind fun x c1 => match x with
  | .bl true => b l c1
  | .bl false => .ok (.bl false) c1
  | _ => .stuck
def mOr (a b : ME) : ME := fun l c => (a l c).bind fun x c1 => match x with
  | .bl true => .ok (.bl true) c1
  | .bl false => b l c1
  | _ => .stuck
def mNot (a : ME) : ME := fun l c => (a l c).bind fun x c1 => match x with
  | .bl k => .ok (.bl (!k)) c1
  | _ => .stuck
theorem me_one {op : BoolOp} (ha : PE X a (rdE X.K W fa)) : PE X (.BoolOp op [a] pos) (rdE X.K W fa) := pe_one ha
theorem me_and (ha : PE X a (rdE X.K W fa)) (hb : PE X (.BoolOp .And (b :: rest) pos) (rdE X.K W fb)) : PE X (.BoolOp .And (a :: b :: rest) pos) (rdE X.K W (mAnd fa fb)) :=
  PEi (pe_and ha hb) fun σ H Q ⟨I, m, l, c, R, L, A⟩ => ⟨I, m, l, c, R, L, After.mono (After.bind (rep := rD X.K) A) fun v1 H1 ⟨I1, m1, c1, d1, E1, R1, p1, A1⟩ => by
    cases p1 with
    | bl k =>
      refine ⟨k, rfl, ?_⟩
      cases k with
      | true => exact iteT <| ⟨I1, m1, l, c1, R1, L.ext E1, A1⟩
      | false => exact iteF <| A1.here R1 (Rep.bl false)
    | _ => exact A1.elim⟩
theorem me_not (ha : PE X a (rdE X.K W fa)) : PE X (.UnaryOp .Not a pos) (rdE X.K W (mNot fa)) :=
  PEi (pe_not ha) fun σ H Q ⟨I, m, l, c, R, L, A⟩ => ⟨I, m, l, c, R, L, After.mono (After.bind (rep := rD X.K) A) fun v1 H1 ⟨I1, m1, c1, d1, E1, R1, p1, A1⟩ => by
    cases p1 with
    | bl k => exact ⟨k, rfl, A1.here R1 (Rep.bl _)⟩
    | _ => exact A1.elim⟩
def mIf (t : MT) (a b : ME) : ME := fun l c => (t l c).bind fun k c1 => match k with
  | true => a l c1
  | false => b l c1
theorem me_if (ht : PT X c (rdT X.K W ta)) (ha : PE X a (rdE X.K W fa)) (hb : PE X b (rdE X.K W fb)) : PE X (.IfExp c a b pos) (rdE X.K W (mIf ta fa fb)) :=
  PEi (pe_ifExp ht ha hb) fun σ H Q ⟨I, m, l, c, R, L, A⟩ => ⟨I, m, l, c, R, L, After.mono (After.bind (rep := rB) A) fun v1 H1 ⟨I1, m1, c1, d1, E1, R1, p1, A1⟩ => by
    cases (show v1 = d1 from p1)
    cases v1 with
    | true => exact iteT <| ⟨I1, m1, l, c1, R1, L.ext E1, A1⟩
    | false => exact iteF <| ⟨I1, m1, l, c1, R1, L.ext E1, A1⟩⟩

/-! ### arguments, displays -/
def aNil : MA := fun _ c => .ok [] c
def aCons (a : ME) (t : MA) : MA := fun l c => (a l c).bind fun x c1 => (t l c1).bind fun xs c2 => .ok (x :: xs) c2
variable {ga : MA}
theorem ma_nil : PA X [] (rdA X.K W aNil) := PAi pa_nil fun σ H Q ⟨I, m, l, c, R, L, A⟩ => A.here R .nil
theorem ma_cons (ha : PE X e (rdE X.K W fa)) (ht : PA X es (rdA X.K W ga)) (hs : starEach (e :: es) X.env = (false, eval e X.env) :: starEach es X.env := by rfl) : PA X (e :: es) (rdA X.K W (aCons fa ga)) :=
  PAi (pa_cons ha ht hs) fun σ H Q ⟨I, m, l, c, R, L, A⟩ => ⟨I, m, l, c, R, L, After.mono (After.bind (rep := rD X.K) A) fun v1 H1 ⟨I1, m1, c1, d1, E1, R1, p1, A1⟩ =>
    ⟨I1, m1, l, c1, R1, L.ext E1, After.mono (After.bind (rep := rA X.K) A1) fun v2 H2 ⟨I2, m2, c2, d2, E2, R2, p2, A2⟩ => A2.here R2 (Reps.cons (Rep.ext p1 E2) p2)⟩⟩
/-- a size that fits -/
def fits {α : Type} (n : Nat) (r : R α) : R α := if n ≤ sizeLine then r else .stuck
theorem After.fits {α β : Type} {rep : Hp → List Addr → β → α → Prop} {K : PySem.W.Frag} {I H : Hp} {m : List Addr} {W : XK} {Q : β → Hp → Prop} {n : Nat} {r : R α} (h : After rep K I m H W Q (fits n r)) : n ≤ sizeLine ∧ After rep K I m H W Q r := by
  unfold Mi.fits at h
  split at h
  · exact ⟨by assumption, h⟩
  · exact h.elim
theorem After.new {K : PySem.W.Frag} {I H : Hp} {m : List Addr} {W : XK} {Q : VK} {c : Cs} {p : Addr} {o : HO} {d : D} (A : After (rD K) K I m H W Q (.ok d c)) (r : Rel K I H m c) (np : H p = none) (q : Rep K (upd I p o) m (.ref p) d) : Q (.ref p) (upd H p o) :=
  let ⟨r1, e1⟩ := alloc (o := o) r np
  A _ _ _ _ e1 r1 q
def mLst (t : MA) : ME := fun l c => (t l c).bind fun xs c1 => fits xs.length (.ok (.lst xs) c1)
def mTup (t : MA) : ME := fun l c => (t l c).bind fun xs c1 => fits xs.length (.ok (.tup xs) c1)
theorem same_upd {I H : Hp} {p : Addr} {o : HO} (s : Same I H) (np : H p = none) : Same I (upd I p o) := fun b u e => by rw [upd_ne (ne_of_none e (s.free np))]; exact e
theorem me_lst (h : PA X es (rdA X.K W ga)) : PE X (.List es pos) (rdE X.K W (mLst ga)) :=
  PEi (pe_lst h) fun σ H Q ⟨I, m, l, c, R, L, A⟩ => ⟨I, m, l, c, R, L, After.mono (After.bind (rep := rA X.K) A) fun v1 H1 ⟨I1, m1, c1, d1, E1, R1, p1, A1⟩ => by
    obtain ⟨z, A2⟩ := A1.fits
    have p1 : Reps X.K I1 m1 v1 d1 := p1
    exact ⟨by rw [p1.length]; exact z, fun p np => A2.new R1 np (.lst upd_same (p1.mono (same_upd R1.same np) (Pre.refl _)))⟩⟩
theorem me_tup {k : Nat} (h : PA X es (rdA X.K W ga)) : PE X (.Tuple es k pos) (rdE X.K W (mTup ga)) :=
  PEi (pe_tup h) fun σ H Q ⟨I, m, l, c, R, L, A⟩ => ⟨I, m, l, c, R, L, After.mono (After.bind (rep := rA X.K) A) fun v1 H1 ⟨I1, m1, c1, d1, E1, R1, p1, A1⟩ => by
    obtain ⟨z, A2⟩ := A1.fits
    have p1 : Reps X.K I1 m1 v1 d1 := p1
    exact ⟨by rw [p1.length]; exact z, fun p np => A2.new R1 np (.tup (SqT.of upd_same) (p1.mono (same_upd R1.same np) (Pre.refl _)) (.inl upd_same))⟩⟩
end

/-! ### a cell is made, read, changed -/
theorem pre_app (m : List Addr) (a : Addr) : Pre m (m ++ [a]) := fun k b h => by
  have hk : k < m.length := (List.getElem?_eq_some_iff.mp h).1
  rw [List.getElem?_append_left hk]
  exact h
section
variable {K : PySem.W.Frag} {I H : Hp} {m : List Addr} {c : Cs}
/-- the addresses of cells are tracked, and not among what never changes unless frozen -/
theorem Rel.tracked (r : Rel K I H m c) {k : Nat} {a : Addr} (h : m[k]? = some a) : ∃ o, H a = some o := by
  have hk : k < c.length := by rw [← r.len]; exact (List.getElem?_eq_some_iff.mp h).1
  have q := r.cell k a c[k] h (List.getElem?_eq_getElem hk)
  cases e : c[k] with
  | lst ds => rw [e] at q; exact ⟨_, q.2.choose_spec.1⟩
  | dct ds => rw [e] at q; exact ⟨_, q.2.choose_spec.1⟩
  | dT ds => rw [e] at q; exact ⟨_, q.2.choose_spec.1⟩
  | dTz es => rw [e] at q; obtain ⟨_, _, q1, _⟩ := q; exact ⟨_, r.same _ _ q1⟩
  | ins C ds => rw [e] at q; obtain ⟨_, dx, vs, _, _, _, q5, _⟩ := q; exact q5.elim fun _ z => ⟨_, z.2⟩
  | frz d =>
    rw [e] at q
    cases z : I a with
    | none => exact absurd z q.1
    | some o => exact ⟨o, r.same _ _ z⟩
theorem Rel.fresh (r : Rel K I H m c) {p : Addr} (np : H p = none) : p ∉ m := fun h => by
  obtain ⟨k, hk⟩ := List.getElem?_of_mem h
  obtain ⟨o, e⟩ := r.tracked hk
  rw [np] at e; cases e
/-- a new mutable list -/
theorem Rel.push (r : Rel K I H m c) {p : Addr} (np : H p = none) {vs : List V} {ds : List D} (q : Reps K I m vs ds) : Rel K I (upd H p (.lst vs)) (m ++ [p]) (c ++ [.lst ds]) ∧ Ext I m H I (m ++ [p]) (upd H p (.lst vs)) := by
  have sH : Same H (upd H p (.lst vs)) := fun b u e => by rw [upd_ne (ne_of_none e np)]; exact e
  have hp := pre_app m p
  have nm := r.fresh np
  refine ⟨⟨r.same.trans sH, by simp [r.len], fun i j a h1 h2 => ?_, fun k a x h1 h2 => ?_, r.tabs.upHm (nt_none np)⟩, Same.refl I, hp, fun b o h1 hT h2 h3 => ⟨sH _ _ h1, h2, ?_⟩⟩
  · rcases Nat.lt_or_ge i m.length with hi | hi
    · rcases Nat.lt_or_ge j m.length with hj | hj
      · rw [List.getElem?_append_left hi] at h1
        rw [List.getElem?_append_left hj] at h2
        exact r.nd i j a h1 h2
      · rw [List.getElem?_append_left hi] at h1
        rw [List.getElem?_append_right hj] at h2
        have e : a = p := by
          cases z : j - m.length with
          | zero => rw [z] at h2; simpa using h2.symm
          | succ n => rw [z] at h2; simp at h2
        exact absurd (List.mem_of_getElem? h1) (e ▸ nm)
    · rcases Nat.lt_or_ge j m.length with hj | hj
      · rw [List.getElem?_append_left hj] at h2
        rw [List.getElem?_append_right hi] at h1
        have e : a = p := by
          cases z : i - m.length with
          | zero => rw [z] at h1; simpa using h1.symm
          | succ n => rw [z] at h1; simp at h1
        exact absurd (List.mem_of_getElem? h2) (e ▸ nm)
      · have hi' := (List.getElem?_eq_some_iff.mp h1).1
        have hj' := (List.getElem?_eq_some_iff.mp h2).1
        simp at hi' hj'
        omega
  · rcases Nat.lt_or_ge k m.length with hk | hk
    · rw [List.getElem?_append_left hk] at h1
      rw [List.getElem?_append_left (by rw [← r.len]; exact hk)] at h2
      have q := r.cell k a x h1 h2
      cases x with
      | lst es =>
        obtain ⟨q1, ws, q2, q3⟩ := q
        exact ⟨q1, ws, sH _ _ q2, q3.mono (Same.refl I) hp⟩
      | dct es =>
        obtain ⟨q1, ws, q2, q3⟩ := q
        exact ⟨q1, ws, sH _ _ q2, q3.mono (Same.refl I) hp⟩
      | dT es =>
        obtain ⟨q1, ws, q2, q3⟩ := q
        exact ⟨q1, ws, sH _ _ q2, q3.mono (Same.refl I) hp⟩
      | dTz es => exact q.imp (fun _ y => y.imp fun _ y => ⟨y.1, y.2.mono (Same.refl I) hp⟩)
      | ins C es =>
        obtain ⟨q1, dx, ws, q2, q3, q4, q5, q6⟩ := q
        exact ⟨q1, dx, ws, q2, fun z => by
          rcases List.mem_append.mp z with z | z
          · exact q3 z
          · simp only [List.mem_singleton] at z
            exact ne_of_none q4 np z, sH _ _ q4, q5.imp fun _ z => ⟨z.1, sH _ _ z.2⟩, q6.mono (Same.refl I) hp⟩
      | frz d => exact ⟨q.1, q.2.mono (Same.refl I) hp⟩
    · have hk' := (List.getElem?_eq_some_iff.mp h1).1
      simp at hk'
      have e : k = m.length := by omega
      subst e
      rw [List.getElem?_append_right (Nat.le_refl _)] at h1
      rw [r.len, List.getElem?_append_right (Nat.le_refl _)] at h2
      simp at h1 h2
      subst h1; subst h2
      exact ⟨r.same.free np, vs, upd_same, q.mono (Same.refl I) hp⟩
  · intro z
    rcases List.mem_append.mp z with z | z
    · exact h3 z
    · simp only [List.mem_singleton] at z
      exact ne_of_none h1 np z
/-- a list's cell is rewritten -/
theorem Rel.put (r : Rel K I H m c) {k : Nat} {a : Addr} {vs : List V} {ds ds0 : List D} (hm : m[k]? = some a) (hc : c[k]? = some (.lst ds0)) (q : Reps K I m vs ds) : Rel K I (upd H a (.lst vs)) m (c.set k (.lst ds)) ∧ Ext I m H I m (upd H a (.lst vs)) := by
  obtain ⟨n1, ws, n2, n3⟩ := r.cell k a _ hm hc
  refine ⟨⟨fun b o e => ?_, by simp [r.len], r.nd, fun j b x h1 h2 => ?_, r.tabs.upH (nt_some n2 ⟨(fun _ z => nomatch z), (fun _ z => nomatch z)⟩)⟩, Same.refl I, Pre.refl m, fun b o h1 hT h2 h3 => ⟨?_, h2, h3⟩⟩
  · rw [upd_ne (ne_of_none e n1)]
    exact r.same _ _ e
  · by_cases hj : k = j
    · subst hj
      rw [List.getElem?_set_self (List.getElem?_eq_some_iff.mp hc).1] at h2
      rw [hm] at h1
      cases h1; cases h2
      exact ⟨n1, vs, upd_same, q⟩
    · rw [List.getElem?_set_ne hj] at h2
      have nb : b ≠ a := fun e => hj (r.nd k j a hm (e ▸ h1))
      have q := r.cell j b x h1 h2
      cases x with
      | lst es =>
        obtain ⟨q1, ws, q2, q3⟩ := q
        exact ⟨q1, ws, by rw [upd_ne nb]; exact q2, q3⟩
      | dct es =>
        obtain ⟨q1, ws, q2, q3⟩ := q
        exact ⟨q1, ws, by rw [upd_ne nb]; exact q2, q3⟩
      | dT es =>
        obtain ⟨q1, ws, q2, q3⟩ := q
        exact ⟨q1, ws, by rw [upd_ne nb]; exact q2, q3⟩
      | dTz es => exact q
      | ins C es =>
        obtain ⟨q1, dx, ws, q2, q3, q4, q5, q6⟩ := q
        exact ⟨q1, dx, ws, q2, q3, by rw [upd_ne (ne_of q4 n2 (by intro z; cases z))]; exact q4, q5.imp fun _ z => ⟨z.1, by rw [upd_ne nb]; exact z.2⟩, q6⟩
      | frz d => exact q
  · rw [upd_ne (fun (e : b = a) => h3 (by rw [e]; exact List.mem_of_getElem? hm))]
    exact h1
/-- a list's cell does not change any more -/
theorem Rel.freeze (r : Rel K I H m c) {k : Nat} {a : Addr} {ds : List D} (hm : m[k]? = some a) (hc : c[k]? = some (.lst ds)) : ∃ I' : Hp, Rel K I' H m (c.set k (.frz (.lst ds))) ∧ Ext I m H I' m H ∧ Rep K I' m (.ref a) (.lst ds) := by
  obtain ⟨n1, ws, n2, n3⟩ := r.cell k a _ hm hc
  have sI : Same I (upd I a (.lst ws)) := fun b o e => by rw [upd_ne (ne_of_none e n1)]; exact e
  refine ⟨upd I a (.lst ws), ⟨fun b o e => ?_, by simp [r.len], r.nd, fun j b x h1 h2 => ?_, r.tabs.upI (nt_some n2 ⟨(fun _ z => nomatch z), (fun _ z => nomatch z)⟩)⟩, ⟨sI, Pre.refl m, fun b o h1 hT h2 h3 => ⟨h1, ?_, h3⟩⟩, .lst upd_same (n3.mono sI (Pre.refl m))⟩
  · by_cases hb : b = a
    · subst hb
      rw [upd_same] at e
      cases e
      exact n2
    · rw [upd_ne hb] at e
      exact r.same _ _ e
  · by_cases hj : k = j
    · subst hj
      rw [List.getElem?_set_self (List.getElem?_eq_some_iff.mp hc).1] at h2
      rw [hm] at h1
      cases h1; cases h2
      exact ⟨by rw [upd_same]; exact nofun, .lst upd_same (n3.mono sI (Pre.refl m))⟩
    · rw [List.getElem?_set_ne hj] at h2
      have nb : b ≠ a := fun e => hj (r.nd k j a hm (e ▸ h1))
      have q := r.cell j b x h1 h2
      cases x with
      | lst es =>
        obtain ⟨q1, ws, q2, q3⟩ := q
        exact ⟨by rw [upd_ne nb]; exact q1, ws, q2, q3.mono sI (Pre.refl m)⟩
      | dct es =>
        obtain ⟨q1, ws, q2, q3⟩ := q
        exact ⟨by rw [upd_ne nb]; exact q1, ws, q2, q3.mono sI (Pre.refl m)⟩
      | dT es =>
        obtain ⟨q1, ws, q2, q3⟩ := q
        exact ⟨by rw [upd_ne nb]; exact q1, ws, q2, q3.mono sI (Pre.refl m)⟩
      | dTz es => exact q.imp (fun _ y => y.imp fun _ y => ⟨sI _ _ y.1, y.2.mono sI (Pre.refl m)⟩)
      | ins C es =>
        obtain ⟨q1, dx, ws, q2, q3, q4, q5, q6⟩ := q
        exact ⟨by rw [upd_ne nb]; exact q1, dx, ws, by rw [upd_ne (ne_of q4 n2 (by intro z; cases z))]; exact q2, q3, q4, q5, q6.mono sI (Pre.refl m)⟩
      | frz d => exact ⟨by rw [upd_ne nb]; exact q.1, q.2.mono sI (Pre.refl m)⟩
  · rw [upd_ne (fun (e : b = a) => h3 (by rw [e]; exact List.mem_of_getElem? hm))]
    exact h2
end
end L2.Mi

namespace L2.Mi
open PySem PySem.Spec PyProof.Rows L2

section
variable {K : PySem.W.Frag}
/-! ### + - * // % ** -/
def addD : D → D → Cs → R D
  | .int i, .int j, c => .ok (.int (i + j)) c
  | .str s, .str t, c => fits (s.length + t.length) (.ok (.str (s ++ t)) c)
  | .lst a, .lst b, c => fits (a.length + b.length) (.ok (.lst (a ++ b)) c)
  | .int i, .bl b, c => .ok (.int (i + b2i b)) c
  | .tup a, .tup b, c => match a, b with
    | [], _ => .stuck
    | _, [] => .stuck
    | _, _ => fits (a.length + b.length) (.ok (.tup (a ++ b)) c)
  | _, _, _ => .stuck
def rAddA (K : PySem.W.Frag) : R2 := fun x y H Q => (∃ i j, x = .int i ∧ y = .int j ∧ Q (.int (i + j)) H) ∨ (∃ i j, x = .str i ∧ y = .str j ∧ i.length + j.length ≤ sizeLine ∧ Q (.str (i ++ j)) H) ∨ rCat x y H Q ∨
  (∃ i k, x = .int i ∧ y = .bl k ∧ Q (.int (i + b2i k)) H) ∨ rCatT K x y H Q
theorem op_addA {X : Cx} : OpR X (binaryOp .Add) (rAddA X.K) := op_add.or (op_add_str.or (op_cat.or (op_add_ib.or op_catT)))
theorem os_add : OpS K (rAddA K) addD := fun I H m c v1 v2 d1 d2 W Q R p1 p2 A => by
  cases p1 with
  | int i =>
    cases p2 with
    | int j => exact .inl ⟨i, j, rfl, rfl, A.here R (.int _)⟩
    | bl b => exact .inr (.inr (.inr (.inl ⟨i, b, rfl, rfl, A.here R (.int _)⟩)))
    | _ => exact A.elim
  | str s =>
    cases p2 with
    | str t =>
      obtain ⟨z, A⟩ := After.fits (show After (rD K) K I m H W Q (fits (s.length + t.length) (.ok (.str (s ++ t)) c)) from A)
      exact .inr (.inl ⟨s, t, rfl, rfl, z, A.here R (.str _)⟩)
    | _ => exact A.elim
  | lst h1 r1 =>
    cases p2 with
    | @lst b ws es h2 r2 =>
      obtain ⟨z, A⟩ := After.fits A
      rw [← r1.length, ← r2.length] at z
      refine .inr (.inr (.inl ⟨_, b, _, _, rfl, rfl, R.same _ _ h1, R.same _ _ h2, z, fun p np => ?_⟩))
      exact A.new R np (.lst upd_same ((r1.append r2).mono (same_upd R.same np) (Pre.refl _)))
    | _ => exact A.elim
  | @tup a1 vs1 ds1 h1 r1 =>
    cases p2 with
    | @tup a2 vs2 ds2 h2 r2 =>
      cases ds1 with
      | nil => exact A.elim
      | cons x xs =>
        cases ds2 with
        | nil => exact A.elim
        | cons y ys =>
          obtain ⟨z, A⟩ := After.fits (show After (rD K) K I m H W Q (fits ((x :: xs).length + (y :: ys).length) (.ok (.tup ((x :: xs) ++ (y :: ys))) c)) from A)
          rw [← r1.length, ← r2.length] at z
          refine .inr (.inr (.inr (.inr ⟨_, a2, _, _, rfl, rfl, sqT_same R.same h1, sqT_same R.same h2, ?_, z, ?_, ?_⟩)))
          · intro e; rw [e] at r1; have := r1.length; simp at this
          · intro e; rw [e] at r2; have := r2.length; simp at this
          · exact fun _ p np => A.new R np (.tup (SqT.of upd_same) ((r1.append r2).mono (same_upd R.same np) (Pre.refl _)) (.inl upd_same))
    | _ => exact A.elim
  | _ => exact A.elim

def subD : D → D → Cs → R D
  | .int i, .int j, c => .ok (.int (i - j)) c
  | _, _, _ => .stuck
theorem os_sub : OpS K (rI0 fun i j => .int (i - j)) subD := fun I H m c v1 v2 d1 d2 W Q R p1 p2 A => by
  cases p1 with
  | int i =>
    cases p2 with
    | int j => exact ⟨i, j, rfl, rfl, A.here R (.int _)⟩
    | _ => exact A.elim
  | _ => exact A.elim
/-- the guard of a rule about two ints -/
def intC (C : Int → Int → Prop) [∀ i j, Decidable (C i j)] (g : Int → Int → Int) : D → D → Cs → R D
  | .int i, .int j, c => if C i j then .ok (.int (g i j)) c else .stuck
  | _, _, _ => .stuck
theorem os_intC {C : Int → Int → Prop} [∀ i j, Decidable (C i j)] {g : Int → Int → Int} : OpS K (rI C fun i j => .int (g i j)) (intC C g) := fun I H m c v1 v2 d1 d2 W Q R p1 p2 A => by
  cases p1 with
  | int i =>
    cases p2 with
    | int j =>
      by_cases hc : C i j
      · have A2 : After (rD K) K I m H W Q (if C i j then .ok (.int (g i j)) c else .stuck) := A
        rw [if_pos hc] at A2
        exact ⟨i, j, rfl, rfl, hc, A2.here R (.int _)⟩
      · have A2 : After (rD K) K I m H W Q (if C i j then .ok (.int (g i j)) c else .stuck) := A
        rw [if_neg hc] at A2
        exact A2.elim
    | _ => exact A.elim
  | _ => exact A.elim
instance : ∀ i j, Decidable (CMul i j) := fun i j => inferInstanceAs (Decidable ((-(2 ^ 64) < i ∧ i < 2 ^ 64) ∨ (-(2 ^ 64) < j ∧ j < 2 ^ 64)))
instance : ∀ i j, Decidable (CDivN i j) := fun i j => inferInstanceAs (Decidable (j ≠ 0 ∧ j.natAbs < 1073741824))
instance : ∀ i j, Decidable (CPow i j) := fun i j => inferInstanceAs (Decidable (0 ≤ j ∧ j ≤ 1000000 ∧ i.natAbs < 2 ^ 64))
def CNz (_ j : Int) : Prop := j ≠ 0
instance : ∀ i j, Decidable (CNz i j) := fun i j => inferInstanceAs (Decidable (j ≠ 0))
/-- list * int, text * int are further on -/
def mulI : D → D → Cs → R D := intC CMul (· * ·)
def divI : D → D → Cs → R D := intC CDivN Int.fdiv
def modI : D → D → Cs → R D := intC CNz Int.fmod
def powI : D → D → Cs → R D := intC CPow fun i j => i ^ j.toNat
theorem os_mulI : OpS K (rI CMul fun i j => .int (i * j)) mulI := os_intC
theorem os_divI : OpS K (rI CDivN fun i j => .int (i.fdiv j)) divI := os_intC
theorem os_modI : OpS K (rI (fun _ j => j ≠ 0) fun i j => .int (i.fmod j)) modI := os_intC (C := CNz)
theorem os_powI : OpS K (rI CPow fun i j => .int (i ^ j.toNat)) powI := os_intC
def negD : D → Cs → R D
  | .int i, c => .ok (.int (-i)) c
  | _, _ => .stuck
theorem us_neg : UnS K (rU fun i => .int (-i)) negD := fun I H m c v1 d1 W Q R p1 A => by
  cases p1 with
  | int i => exact ⟨i, rfl, A.here R (.int _)⟩
  | _ => exact A.elim

/-! ### comparisons -/
def cmpI (p : Int → Int → Bool) : D → D → Cs → R D
  | .int i, .int j, c => .ok (.bl (p i j)) c
  | _, _, _ => .stuck
theorem os_cmpI {p : Int → Int → Bool} : OpS K (rI0 fun i j => .bl (p i j)) (cmpI p) := fun I H m c v1 v2 d1 d2 W Q R p1 p2 A => by
  cases p1 with
  | int i =>
    cases p2 with
    | int j => exact ⟨i, j, rfl, rfl, A.here R (.bl _)⟩
    | _ => exact A.elim
  | _ => exact A.elim
def rLtA : R2 := fun x y H Q => rI0 (fun i j => .bl (decide (i < j))) x y H Q ∨ ∃ i j, x = .str i ∧ y = .str j ∧ Q (.bl (decide (i.cps.toList < j.cps.toList))) H
def rLeA : R2 := fun x y H Q => rI0 (fun i j => .bl (decide (i ≤ j))) x y H Q ∨ ∃ i j, x = .str i ∧ y = .str j ∧ Q (.bl (!decide (j.cps.toList < i.cps.toList))) H
theorem op_ltA {X : Cx} : OpR X (compareOp .Lt) rLtA := op_lt.or op_lt_str
theorem op_leA {X : Cx} : OpR X (compareOp .LtE) rLeA := op_le.or op_le_str
def ltD : D → D → Cs → R D
  | .int i, .int j, c => .ok (.bl (decide (i < j))) c
  | .str i, .str j, c => .ok (.bl (decide (i.cps.toList < j.cps.toList))) c
  | _, _, _ => .stuck
def leD : D → D → Cs → R D
  | .int i, .int j, c => .ok (.bl (decide (i ≤ j))) c
  | .str i, .str j, c => .ok (.bl (!decide (j.cps.toList < i.cps.toList))) c
  | _, _, _ => .stuck
theorem os_lt : OpS K rLtA ltD := fun I H m c v1 v2 d1 d2 W Q R p1 p2 A => by
  cases p1 with
  | int i =>
    cases p2 with
    | int j => exact .inl ⟨i, j, rfl, rfl, A.here R (.bl _)⟩
    | _ => exact A.elim
  | str i =>
    cases p2 with
    | str j => exact .inr ⟨i, j, rfl, rfl, A.here R (.bl _)⟩
    | _ => exact A.elim
  | _ => exact A.elim
theorem os_le : OpS K rLeA leD := fun I H m c v1 v2 d1 d2 W Q R p1 p2 A => by
  cases p1 with
  | int i =>
    cases p2 with
    | int j => exact .inl ⟨i, j, rfl, rfl, A.here R (.bl _)⟩
    | _ => exact A.elim
  | str i =>
    cases p2 with
    | str j => exact .inr ⟨i, j, rfl, rfl, A.here R (.bl _)⟩
    | _ => exact A.elim
  | _ => exact A.elim
def gtD : D → D → Cs → R D := cmpI fun i j => decide (j < i)
/-! ### data as the library has it -/
mutual
def toPy : D → Option PyData
  | .non => some .none
  | .bl b => some (.bool b)
  | .int i => some (.int i)
  | .str s => some (.str s)
  | .lst xs => match toPys xs with
    | some ys => some (.list ys)
    | none => none
  | .tup xs => match toPys xs with
    | some ys => some (.tuple ys)
    | none => none
  | _ => none
def toPys : List D → Option (List PyData)
  | [] => some []
  | x :: xs => match toPy x with
    | some y => match toPys xs with
      | some ys => some (y :: ys)
      | none => none
    | none => none
end
mutual
theorem rep_dp {I H : Hp} {m : List Addr} (s : Same I H) : ∀ {v : V} {d : D} {p : PyData}, Rep K I m v d → toPy d = some p → Dp K H v p
  | _, _, _, .non, e => by simp [toPy] at e; subst e; exact .non
  | _, _, _, .bl b, e => by simp [toPy] at e; subst e; exact .bl b
  | _, _, _, .int i, e => by simp [toPy] at e; subst e; exact .int i
  | _, _, _, .str x, e => by simp [toPy] at e; subst e; exact .str x
  | _, _, _, .lst (ds := ds) h r, e => by
    unfold toPy at e
    cases q : toPys ds with
    | none => rw [q] at e; cases e
    | some ys => rw [q] at e; cases e; exact .lst (SqL.of (s _ _ h)) (reps_dp s r q)
  | _, _, _, .tup (ds := ds) h r _, e => by
    unfold toPy at e
    cases q : toPys ds with
    | none => rw [q] at e; cases e
    | some ys => rw [q] at e; cases e; exact .tup (sqT_same s h) (reps_dp s r q)
  | _, _, _, .ro h r, e => by simp [toPy] at e
  | _, _, _, .dct h r, e => by simp [toPy] at e
  | _, _, _, .ref h, e => by simp [toPy] at e
  | _, _, _, .obj hn h r, e => by simp [toPy] at e
  | _, _, _, .adr a, e => by simp [toPy] at e
  | _, _, _, .ty n, e => by simp [toPy] at e
theorem reps_dp {I H : Hp} {m : List Addr} (s : Same I H) : ∀ {v : List V} {d : List D} {p : List PyData}, Reps K I m v d → toPys d = some p → DpAll K H v p
  | _, _, _, .nil, e => by simp [toPys] at e; subst e; exact .nil
  | _, _, _, .cons (d := d) (ds := ds) h t, e => by
    unfold toPys at e
    cases q : toPy d with
    | none => rw [q] at e; cases e
    | some y =>
      cases q2 : toPys ds with
      | none => rw [q, q2] at e; cases e
      | some ys => rw [q, q2] at e; cases e; exact .cons (rep_dp s h q) (reps_dp s t q2)
end
/-- == of data -/
def eqP (neg : Bool) (d e : D) (c : Cs) : R D := match toPy d with
  | some a => match toPy e with
    | some b => if SeqAt.shaped a = true ∧ SeqAt.shaped b = true then .ok (.bl (if neg then !PyData.eqv a b else PyData.eqv a b)) c else .stuck
    | none => .stuck
  | none => .stuck
def eqD : D → D → Cs → R D
  | .int i, .int j, c => .ok (.bl (decide (i = j))) c
  | .str i, .str j, c => .ok (.bl (decide (i = j))) c
  | .bl i, .bl j, c => .ok (.bl (decide (i = j))) c
  | d, e, c => eqP false d e c
def neD : D → D → Cs → R D
  | .int i, .int j, c => .ok (.bl (!decide (i = j))) c
  | .str i, .str j, c => .ok (.bl (!decide (i = j))) c
  | .bl i, .bl j, c => .ok (.bl (!decide (i = j))) c
  | d, e, c => eqP true d e c
def rEqA (K : PySem.W.Frag) : R2 := fun x y H Q => rEq x y H Q ∨ rEqD K x y H Q
def rNeA (K : PySem.W.Frag) : R2 := fun x y H Q => rNe x y H Q ∨ rNeD K x y H Q
theorem op_eqA {X : Cx} (hu : X.A.units + 64 < cLine) : OpR X (compareOp .Eq) (rEqA X.K) := op_eq.or (op_eqD hu)
theorem op_neA {X : Cx} (hu : X.A.units + 64 < cLine) : OpR X (compareOp .NotEq) (rNeA X.K) := op_ne.or (op_neD hu)
theorem eqP_read {I H : Hp} {m : List Addr} {c : Cs} {W : XK} {Q : VK} {v1 v2 : V} {d1 d2 : D} {neg : Bool} (R : Rel K I H m c) (p1 : Rep K I m v1 d1) (p2 : Rep K I m v2 d2) (A : After (rD K) K I m H W Q (eqP neg d1 d2 c)) :
    ∃ d e, Dp K H v1 d ∧ Dp K H v2 e ∧ SeqAt.shaped d = true ∧ SeqAt.shaped e = true ∧ Q (.bl (if neg then !PyData.eqv d e else PyData.eqv d e)) H := by
  unfold eqP at A
  cases q1 : toPy d1 with
  | none => rw [q1] at A; exact A.elim
  | some a =>
    cases q2 : toPy d2 with
    | none => rw [q1, q2] at A; exact A.elim
    | some b =>
      rw [q1, q2] at A
      by_cases hs : SeqAt.shaped a = true ∧ SeqAt.shaped b = true
      · have A2 : After (rD K) K I m H W Q (if SeqAt.shaped a = true ∧ SeqAt.shaped b = true then .ok (.bl (if neg then !PyData.eqv a b else PyData.eqv a b)) c else .stuck) := A
        rw [if_pos hs] at A2
        exact ⟨a, b, rep_dp R.same p1 q1, rep_dp R.same p2 q2, hs.1, hs.2, A2.here R (.bl _)⟩
      · have A2 : After (rD K) K I m H W Q (if SeqAt.shaped a = true ∧ SeqAt.shaped b = true then .ok (.bl (if neg then !PyData.eqv a b else PyData.eqv a b)) c else .stuck) := A
        rw [if_neg hs] at A2
        exact A2.elim
theorem decV {α : Type} [DecidableEq α] {f : α → V} (hf : ∀ a b, f a = f b → a = b) (a b : α) : decide (f a = f b) = decide (a = b) := by
  by_cases h : a = b
  · subst h; simp
  · rw [decide_eq_false h, decide_eq_false fun e => h (hf _ _ e)]
theorem os_eq : OpS K (rEqA K) eqD := fun I H m c v1 v2 d1 d2 W Q R p1 p2 A => by
  have gen : After (rD K) K I m H W Q (eqP false d1 d2 c) → rEqA K v1 v2 H Q := fun A => .inr (eqP_read R p1 p2 A)
  cases p1 with
  | int i => cases p2 with
    | int j => exact .inl ⟨rfl, by rw [decV (f := V.int) fun _ _ e => V.int.inj e]; exact A.here R (.bl _)⟩
    | _ => exact gen A
  | str i => cases p2 with
    | str j => exact .inl ⟨rfl, by rw [decV (f := V.str) fun _ _ e => V.str.inj e]; exact A.here R (.bl _)⟩
    | _ => exact gen A
  | bl i => cases p2 with
    | bl j => exact .inl ⟨rfl, by rw [decV (f := V.bl) fun _ _ e => V.bl.inj e]; exact A.here R (.bl _)⟩
    | _ => exact gen A
  | _ => exact gen A
theorem os_ne : OpS K (rNeA K) neD := fun I H m c v1 v2 d1 d2 W Q R p1 p2 A => by
  have gen : After (rD K) K I m H W Q (eqP true d1 d2 c) → rNeA K v1 v2 H Q := fun A => .inr (eqP_read (neg := true) R p1 p2 A)
  cases p1 with
  | int i => cases p2 with
    | int j => exact .inl ⟨rfl, by rw [decV (f := V.int) fun _ _ e => V.int.inj e]; exact A.here R (.bl _)⟩
    | _ => exact gen A
  | str i => cases p2 with
    | str j => exact .inl ⟨rfl, by rw [decV (f := V.str) fun _ _ e => V.str.inj e]; exact A.here R (.bl _)⟩
    | _ => exact gen A
  | bl i => cases p2 with
    | bl j => exact .inl ⟨rfl, by rw [decV (f := V.bl) fun _ _ e => V.bl.inj e]; exact A.here R (.bl _)⟩
    | _ => exact gen A
  | _ => exact gen A
/-- is None, is not None -/
def isNoneD : D → Bool
  | .non => true
  | _ => false
def isD : D → D → Cs → R D := fun d e c => match e with
  | .non => .ok (.bl (isNoneD d)) c
  | _ => .stuck
def isntD : D → D → Cs → R D := fun d e c => match e with
  | .non => .ok (.bl (!isNoneD d)) c
  | _ => .stuck
theorem rep_non {I : Hp} {m : List Addr} {v : V} {d : D} (p : Rep K I m v d) : decide (v = .non) = isNoneD d := by
  cases p <;> first | rfl | exact decide_eq_false nofun
theorem os_is : OpS K (fun x y H Q => y = .non ∧ Q (.bl (decide (x = .non))) H) isD := fun I H m c v1 v2 d1 d2 W Q R p1 p2 A => by
  cases p2 with
  | non => exact ⟨rfl, by rw [rep_non p1]; exact A.here R (.bl _)⟩
  | _ => exact A.elim
theorem os_isnt : OpS K (fun x y H Q => y = .non ∧ Q (.bl (!decide (x = .non))) H) isntD := fun I H m c v1 v2 d1 d2 W Q R p1 p2 A => by
  cases p2 with
  | non => exact ⟨rfl, by rw [rep_non p1]; exact A.here R (.bl _)⟩
  | _ => exact A.elim

/-! ### in, not in -/
def cps1 : Str → Option Nat := fun s => match s.cps.toList with
  | [c] => some c
  | _ => none
theorem cps1_eq {s : Str} {k : Nat} (h : cps1 s = some k) : s = ⟨#[k]⟩ := by
  unfold cps1 at h
  split at h
  · rename_i c e
    cases h
    obtain ⟨⟨l⟩⟩ := s
    simp at e
    rw [e]
  · cases h
/-- in, not in: one sign in a text, a flat value in a list or tuple of flat values, data in a list of data -/
def sgn (neg b : Bool) : Bool := if neg then !b else b
mutual
def flatD : D → Bool
  | .non => true
  | .bl _ => true
  | .int _ => true
  | .str _ => true
  | _ => false
end
def eqF : D → D → Bool
  | .non, .non => true
  | .bl a, .bl b => a == b
  | .bl a, .int j => (if a then 1 else 0) == j
  | .int i, .bl b => i == (if b then 1 else 0)
  | .int i, .int j => i == j
  | .str x, .str y => x == y
  | _, _ => false
def inL (neg : Bool) (d : D) (ys : List D) (c : Cs) : R D :=
  if flatD d = true ∧ ys.all flatD = true then .ok (.bl (sgn neg (ys.any fun y => eqF y d))) c else .stuck
def inD (neg : Bool) : D → D → Cs → R D
  | .str a, .str b, c => match cps1 a with
    | some k => .ok (.bl (sgn neg (decide (k ∈ b.cps.toList)))) c
    | none => .stuck
  | d, .lst ys, c => inL neg d ys c
  | d, .tup ys, c => inL neg d ys c
  | _, _, _ => .stuck
theorem flat_rep {I : Hp} {m : List Addr} {v : V} {d : D} (p : Rep K I m v d) (f : flatD d = true) : flatV v = true := by
  cases p <;> first | rfl | exact absurd (show false = true from f) Bool.false_ne_true
theorem eqF_rep {I : Hp} {m : List Addr} {v w : V} {d e : D} (p : Rep K I m v d) (q : Rep K I m w e) (f : flatD d = true) (g : flatD e = true) : eqV v w = eqF d e := by
  cases p <;> first
    | exact absurd (show false = true from f) Bool.false_ne_true
    | (cases q <;> first | rfl | exact absurd (show false = true from g) Bool.false_ne_true)
theorem flat_reps {I : Hp} {m : List Addr} : ∀ {vs : List V} {ds : List D}, Reps K I m vs ds → ds.all flatD = true → vs.all flatV = true
  | _, _, .nil, _ => rfl
  | _, _, .cons h t, f => by
    rw [List.all_cons, Bool.and_eq_true] at f ⊢
    exact ⟨flat_rep h f.1, flat_reps t f.2⟩
theorem any_reps {I : Hp} {m : List Addr} {v : V} {d : D} (p : Rep K I m v d) (f : flatD d = true) : ∀ {vs : List V} {ds : List D}, Reps K I m vs ds → ds.all flatD = true → (vs.any fun y => eqV y v) = ds.any fun y => eqF y d
  | _, _, .nil, _ => rfl
  | _, _, .cons h t, g => by
    rw [List.all_cons, Bool.and_eq_true] at g
    rw [List.any_cons, List.any_cons, eqF_rep h p g.1 f, any_reps p f t g.2]
def rInA (K : PySem.W.Frag) (neg : Bool) : R2 := fun x y H Q => (∃ (k : Nat) (z : Str), x = .str ⟨#[k]⟩ ∧ y = .str z ∧ Q (.bl (sgn neg (decide (k ∈ z.cps.toList)))) H) ∨ rIn K neg x y H Q
theorem op_inA {X : Cx} : OpR X (compareOp .In) (rInA X.K false) := op_in_sign.or op_in_seq
theorem op_notinA {X : Cx} : OpR X (compareOp .NotIn) (rInA X.K true) := op_notIn_sign.or op_notIn_seq
theorem os_in {neg : Bool} : OpS K (rInA K neg) (inD neg) := fun I H m c v1 v2 d1 d2 W Q R p1 p2 A => by
  have seq : ∀ {p : Addr} {vs : List V} {ds : List D}, v2 = .ref p → (SqL K H p vs ∨ SqT K H p vs) → Reps K I m vs ds → After (rD K) K I m H W Q (inL neg d1 ds c) → rInA K neg v1 v2 H Q := fun {p vs ds} e hq rr A => by
    unfold inL at A
    by_cases hf : flatD d1 = true ∧ ds.all flatD = true
    · rw [if_pos hf] at A
      refine .inr ⟨p, vs, e, hq, flat_rep p1 hf.1, flat_reps rr hf.2, ?_⟩
      unfold inV
      rw [any_reps p1 hf.1 rr hf.2]
      exact A.here R (.bl _)
    · rw [if_neg hf] at A
      exact A.elim
  cases p2 with
  | str b =>
    cases p1 with
    | str a =>
      have A2 : After (rD K) K I m H W Q (match cps1 a with
        | some k => .ok (.bl (sgn neg (decide (k ∈ b.cps.toList)))) c
        | none => .stuck) := A
      cases q : cps1 a with
      | none => rw [q] at A2; exact A2.elim
      | some k =>
        rw [q] at A2
        exact .inl ⟨k, b, by rw [cps1_eq q], rfl, A2.here R (.bl _)⟩
    | _ => exact A.elim
  | lst h r => exact seq rfl (.inl (SqL.of (R.same _ _ h))) r (by cases p1 <;> exact A)
  | tup h r => exact seq rfl (.inr (sqT_same R.same h)) r (by cases p1 <;> exact A)
  | _ => cases p1 <;> exact A.elim

/-! ### items -/
theorem atI_reps {I : Hp} {m : List Addr} {vs : List V} {ds : List D} {i : Int} {d : D} (r : Reps K I m vs ds) (h : atI ds i = some d) : ∃ v, atI vs i = some v ∧ Rep K I m v d := by
  unfold atI at h ⊢
  rw [r.length]
  cases q : ixN ds.length i with
  | none => rw [q] at h; cases h
  | some j =>
    rw [q] at h
    exact r.get (i := j) h
def itL (ds : List D) (i : Int) (c : Cs) : R D := match atI ds i with
  | some d => .ok d c
  | none => .stuck
def itemD : D → D → Cs → R D
  | .lst ds, .int i, c => itL ds i c
  | .ro ds, .int i, c => itL ds i c
  | .tup ds, .int i, c => itL ds i c
  | .str s, .int i, c => fits s.length (match atI s.cps.toList i with
    | some k => .ok (.str ⟨#[k]⟩) c
    | none => .stuck)
  | .ref k, .int i, c => match c[k]? with
    | some (.lst ds) => itL ds i c
    | some (.frz (.lst ds)) => itL ds i c
    | _ => .stuck
  | _, _, _ => .stuck
theorem os_item : OpS K (rIx K) itemD := fun I H m c v1 v2 d1 d2 W Q R p1 p2 A => by
  have lst : ∀ {a : Addr} {vs : List V} {ds : List D} {i : Int}, v1 = .ref a → v2 = .int i → SqL K H a vs → Reps K I m vs ds → After (rD K) K I m H W Q (itL ds i c) → rIx K v1 v2 H Q := fun {a vs ds i} e1 e2 h r A => by
    unfold itL at A
    cases q : atI ds i with
    | none => rw [q] at A; exact A.elim
    | some d =>
      rw [q] at A
      obtain ⟨v, hv, pv⟩ := atI_reps r q
      exact .inl ⟨a, vs, i, v, e1, e2, h, hv, A.here R pv⟩
  cases p2 with
  | int i =>
    cases p1 with
    | lst h r => exact lst rfl rfl (SqL.of (R.same _ _ h)) r A
    | ro h r => exact lst rfl rfl (R.same.seq h) r A
    | @tup a vs ds h r =>
      have A2 : After (rD K) K I m H W Q (itL ds i c) := A
      unfold itL at A2
      cases q : atI ds i with
      | none => rw [q] at A2; exact A2.elim
      | some d =>
        rw [q] at A2
        obtain ⟨v, hv, pv⟩ := atI_reps r q
        exact .inr (.inl ⟨a, vs, i, v, rfl, rfl, sqT_same R.same h, hv, A2.here R pv⟩)
    | str s =>
      obtain ⟨z, A2⟩ := After.fits (show After (rD K) K I m H W Q (fits s.length (match atI s.cps.toList i with
        | some k => .ok (.str ⟨#[k]⟩) c
        | none => .stuck)) from A)
      cases q : atI s.cps.toList i with
      | none => rw [q] at A2; exact A2.elim
      | some k =>
        rw [q] at A2
        exact .inr (.inr ⟨s, i, k, rfl, rfl, z, q, A2.here R (.str _)⟩)
    | @ref k a h =>
      have A2 : After (rD K) K I m H W Q (match c[k]? with
        | some (.lst ds) => itL ds i c
        | some (.frz (.lst ds)) => itL ds i c
        | _ => .stuck) := A
      cases q : c[k]? with
      | none => rw [q] at A2; exact A2.elim
      | some x =>
        rw [q] at A2
        have hc := R.cell k a x h q
        cases x with
        | lst ds =>
          obtain ⟨_, vs, h1, h2⟩ := hc
          exact lst rfl rfl (SqL.of h1) h2 A2
        | frz d =>
          cases d with
          | lst ds =>
            obtain ⟨_, hr⟩ := hc
            cases hr with
            | lst h1 h2 => exact lst rfl rfl (SqL.of (R.same _ _ h1)) h2 A2
          | _ => exact A2.elim
        | _ => exact A2.elim
    | _ => exact A.elim
  | _ => cases p1 <;> exact A.elim

/-! ### slices -/
abbrev MO := Ls → Cs → R (Option Int)
def rO : Hp → List Addr → Option Int → Option Int → Prop := fun _ _ v d => v = d
abbrev rdO (K : PySem.W.Frag) (W : WX) (f : MO) : TO := rd rO K W f
def oNone : MO := fun _ c => .ok none c
def oSome (a : ME) : MO := fun l c => (a l c).bind fun x c1 => match x with
  | .int i => .ok (some i) c1
  | _ => .stuck
theorem POi {X : Cx} {e : Option Expr} {t t' : TO} (h : PO X e t) (w : ∀ σ H Q, t' σ H Q → t σ H Q) : PO X e t' := ⟨fun pins s σ H Q I q => h.run pins s σ H Q I (w σ H Q q)⟩
theorem mo_none {X : Cx} {W : WX} : PO X none (rdO X.K W oNone) := POi po_none fun σ H Q ⟨I, m, l, c, R, L, A⟩ => A.here R rfl
theorem mo_some {X : Cx} {W : WX} {e : Expr} {f : ME} (h : PE X e (rdE X.K W f)) : PO X (some e) (rdO X.K W (oSome f)) := POi (po_some h) fun σ H Q ⟨I, m, l, c, R, L, A⟩ =>
  ⟨I, m, l, c, R, L, After.mono (After.bind (rep := rD X.K) A) fun v1 H1 ⟨I1, m1, c1, d1, E1, R1, p1, A1⟩ => by
    cases p1 with
    | int i => exact ⟨i, rfl, A1.here R1 rfl⟩
    | _ => exact A1.elim⟩
def cutD (xs : List D) (lo hi : Option Int) : List D := (xs.drop (HT.sIx xs.length 0 lo)).take (HT.sIx xs.length xs.length hi - HT.sIx xs.length 0 lo)
theorem cut_reps {I : Hp} {m : List Addr} {vs : List V} {ds : List D} (lo hi : Option Int) (r : Reps K I m vs ds) : Reps K I m (cutV vs lo hi) (cutD ds lo hi) := by
  unfold cutV cutD
  rw [r.length]
  exact (r.drop _).take _
def sliceD (d : D) (lo hi : Option Int) (c : Cs) : R D := match d with
  | .lst ds => .ok (.lst (cutD ds lo hi)) c
  | .str s => fits s.length (.ok (.str (cutS s lo hi)) c)
  | .ref k => match c[k]? with
    | some (.lst ds) => .ok (.lst (cutD ds lo hi)) c
    | _ => .stuck
  | _ => .stuck
def mSlice (a : ME) (lo hi : MO) : ME := fun l c => (a l c).bind fun x c1 => (lo l c1).bind fun i c2 => (hi l c2).bind fun j c3 => sliceD x i j c3
def rSlA (K : PySem.W.Frag) : V → Option Int → Option Int → Hp → VK → Prop := fun x lo hi H Q => rSlL K x lo hi H Q ∨ rSlS x lo hi H Q
/-! ### calls of built-ins -/
def CallS (K : PySem.W.Frag) (r : List V → Hp → VK → Prop) (g : List D → Cs → R D) : Prop := ∀ (I H : Hp) (m : List Addr) (c : Cs) (vs : List V) (ds : List D) (W : XK) (Q : VK),
  Rel K I H m c → Reps K I m vs ds → After (rD K) K I m H W Q (g ds c) → r vs H Q
def mCB (g : List D → Cs → R D) (t : MA) : ME := fun l c => (t l c).bind fun xs c1 => g xs c1
theorem cb_read {X : Cx} {W : WX} {r : List V → Hp → VK → Prop} {g : List D → Cs → R D} {ga : MA} {σ : St} {H : Hp} {Q : VK} (hs : CallS X.K r g) (h : rdE X.K W (mCB g ga) σ H Q) : tCB r (rdA X.K W ga) σ H Q := by
  obtain ⟨I, m, l, c, R, L, A⟩ := h
  exact ⟨I, m, l, c, R, L, After.mono (After.bind (rep := rA X.K) A) fun v1 H1 ⟨I1, m1, c1, d1, E1, R1, p1, A1⟩ => hs _ _ _ _ _ _ _ _ R1 p1 A1⟩
def lenC (x : D) (c : Cs) : Option Nat := match x with
  | .lst ds => some ds.length
  | .ro ds => some ds.length
  | .tup ds => some ds.length
  | .str s => if s.length ≤ sizeLine then some s.length else none
  | .ref k => match c[k]? with
    | some (.lst ds) => some ds.length
    | some (.frz (.lst ds)) => some ds.length
    | _ => none
  | _ => none
def lenD : List D → Cs → R D
  | [x], c => match lenC x c with
    | some n => .ok (.int n) c
    | none => .stuck
  | _, _ => .stuck
theorem cs_len : CallS K (fun xs H Q => ∃ x n, xs = [x] ∧ LenV K x H n ∧ Q (.int n) H) lenD := fun I H m c vs ds W Q R p A => by
  cases p with
  | nil => exact A.elim
  | @cons v _ d _ h t =>
    cases t with
    | cons _ _ => exact A.elim
    | nil =>
      have A2 : After (rD K) K I m H W Q (match lenC d c with
        | some n => .ok (.int n) c
        | none => .stuck) := A
      have fin : ∀ {n : Nat}, lenC d c = some n → LenV K v H n → ∃ x n, [v] = [x] ∧ LenV K x H n ∧ Q (.int n) H := fun {n} e hl => by
        rw [e] at A2
        exact ⟨v, n, rfl, hl, A2.here R (.int _)⟩
      cases h with
      | lst h r => exact fin rfl (.inl ⟨_, SqL.of (R.same _ _ h), r.length.symm⟩)
      | ro h r => exact fin rfl (.inl ⟨_, R.same.seq h, r.length.symm⟩)
      | tup h r => exact fin rfl (.inr ⟨_, sqT_same R.same h, r.length.symm⟩)
      | str s =>
        by_cases hz : s.length ≤ sizeLine
        · exact fin (if_pos hz) ⟨hz, rfl⟩
        · rw [show lenC (.str s) c = none from if_neg hz] at A2
          exact A2.elim
      | @ref k a h =>
        have lk : lenC (.ref k) c = (match c[k]? with
          | some (.lst ds) => some ds.length
          | some (.frz (.lst ds)) => some ds.length
          | _ => none) := rfl
        cases q : c[k]? with
        | none => rw [lk, q] at A2; exact A2.elim
        | some x =>
          have hc := R.cell k a x h q
          cases x with
          | lst ds =>
            obtain ⟨_, vs, h1, h2⟩ := hc
            exact fin (by rw [lk, q]) (.inl ⟨_, SqL.of h1, h2.length.symm⟩)
          | frz d =>
            cases d with
            | lst ds =>
              obtain ⟨_, hr⟩ := hc
              cases hr with
              | lst h1 h2 => exact fin (by rw [lk, q]) (.inl ⟨_, SqL.of (R.same _ _ h1), h2.length.symm⟩)
            | _ => rw [lk, q] at A2; exact A2.elim
          | _ => rw [lk, q] at A2; exact A2.elim
      | _ => exact A2.elim
def ints2 (g : Int → Int → Int) : List D → Cs → R D
  | [.int i, .int j], c => .ok (.int (g i j)) c
  | _, _ => .stuck
theorem two_ints {I H : Hp} {m : List Addr} {c : Cs} {W : XK} {Q : VK} {vs : List V} {ds : List D} {g : Int → Int → Int} (R : Rel K I H m c) (p : Reps K I m vs ds) (A : After (rD K) K I m H W Q (ints2 g ds c)) : ∃ i j, vs = [.int i, .int j] ∧ Q (.int (g i j)) H := by
  cases p with
  | nil => exact A.elim
  | cons h t =>
    cases t with
    | nil => cases h <;> exact A.elim
    | cons h2 t2 =>
      cases t2 with
      | cons _ _ => cases h <;> first | exact A.elim | (cases h2 <;> exact A.elim)
      | nil =>
        cases h with
        | int i =>
          cases h2 with
          | int j => exact ⟨i, j, rfl, A.here R (.int _)⟩
          | _ => exact A.elim
        | _ => exact A.elim
def max2 : List D → Cs → R D := ints2 fun i j => if j > i then j else i
def min2 : List D → Cs → R D := ints2 fun i j => if j < i then j else i
theorem cs_max2 : CallS K (fun xs H Q => ∃ i j, xs = [.int i, .int j] ∧ Q (.int (if j > i then j else i)) H) max2 := fun I H m c vs ds W Q R p A => two_ints R p A
theorem cs_min2 : CallS K (fun xs H Q => ∃ i j, xs = [.int i, .int j] ∧ Q (.int (if j < i then j else i)) H) min2 := fun I H m c vs ds W Q R p A => two_ints R p A
end
end L2.Mi

namespace L2.Mi
open PySem PySem.Spec PyProof.Rows L2

/-! ### statements -/
inductive Fl where
  | nx (l : Ls)
  | rt (d : D)
  | bk (l : Ls)
  | ct (l : Ls)
inductive RS where
  | stuck
  | go (f : Fl) (c : Cs)
  | exc (x : Ex) (l : Ls) (c : Cs)
abbrev MS := Ls → Cs → RS
/-- what is wanted behind a statement -/
def AfterS (K : PySem.W.Frag) (I : Hp) (m : List Addr) (H : Hp) (W : WX) (D : Ends) : RS → Prop
  | .stuck => False
  | .go (.nx l) c => ∀ I' m' H' σ', Ext I m H I' m' H' → Rel K I' H' m' c → Locs K I' m' σ' l → D.nx σ' H'
  | .go (.rt d) c => ∀ I' m' H' v, Ext I m H I' m' H' → Rel K I' H' m' c → Rep K I' m' v d → D.rt v H'
  | .go (.bk l) c => ∀ I' m' H' σ', Ext I m H I' m' H' → Rel K I' H' m' c → Locs K I' m' σ' l → D.bk σ' H'
  | .go (.ct l) c => ∀ I' m' H' σ', Ext I m H I' m' H' → Rel K I' H' m' c → Locs K I' m' σ' l → D.ct σ' H'
  | .exc x l c => ∀ I' m' H' σ' cls dd, Ext I m H I' m' H' → Rel K I' H' m' c → Locs K I' m' σ' l → RepX K I' m' H' cls dd x → W cls dd σ' H'
def rdS (K : PySem.W.Frag) (W : WX) (f : MS) : TS := fun D σ H => ∃ I m l c, Rel K I H m c ∧ Locs K I m σ l ∧ AfterS K I m H W D (f l c)
theorem AfterS.ext {K : PySem.W.Frag} {I I1 H H1 : Hp} {m m1 : List Addr} {W : WX} {D : Ends} {r : RS} (e : Ext I m H I1 m1 H1) (a : AfterS K I m H W D r) : AfterS K I1 m1 H1 W D r := by
  cases r with
  | stuck => exact a
  | exc x l c => exact fun I' m' H' σ' cls dd e' => a I' m' H' σ' cls dd (e.trans e')
  | go f c => cases f <;> exact fun I' m' H' v e' => a I' m' H' v (e.trans e')
/-- an expression, then a statement -/
def R.seq {α : Type} (r : R α) (l : Ls) (f : α → Cs → RS) : RS := match r with
  | .stuck => .stuck
  | .ok a c => f a c
  | .exc x c => .exc x l c
@[simp] theorem R.seq_ok {α : Type} (a : α) (c : Cs) (l : Ls) (f : α → Cs → RS) : (R.ok a c).seq l f = f a c := rfl
@[simp] theorem R.seq_exc {α : Type} (x : Ex) (c : Cs) (l : Ls) (f : α → Cs → RS) : (R.exc x c : R α).seq l f = .exc x l c := rfl
@[simp] theorem R.seq_stuck {α : Type} (l : Ls) (f : α → Cs → RS) : (R.stuck : R α).seq l f = .stuck := rfl
def MidS {α β : Type} (rep : Hp → List Addr → β → α → Prop) (K : PySem.W.Frag) (I : Hp) (m : List Addr) (H : Hp) (W : WX) (D : Ends) (f : α → Cs → RS) (v : β) (H1 : Hp) : Prop :=
  ∃ I1 m1 c1 a, Ext I m H I1 m1 H1 ∧ Rel K I1 H1 m1 c1 ∧ rep I1 m1 v a ∧ AfterS K I1 m1 H1 W D (f a c1)
theorem AfterS.seq {α β : Type} {rep : Hp → List Addr → β → α → Prop} {K : PySem.W.Frag} {I H : Hp} {m : List Addr} {W : WX} {D : Ends} {r : R α} {l : Ls} {σ : St} {f : α → Cs → RS} (L : Locs K I m σ l) (a : AfterS K I m H W D (r.seq l f)) :
    After rep K I m H (fun cls dd H' => W cls dd σ H') (MidS rep K I m H W D f) r := by
  cases r with
  | stuck => exact a
  | ok d c => exact fun I' m' H' v e' r' p => ⟨I', m', c, d, e', r', p, AfterS.ext e' a⟩
  | exc x c => exact fun I' m' H' cls dd e r p => a I' m' H' σ cls dd e r (L.ext e) p
/-- a statement, then another one -/
def RS.next (r : RS) (f : Ls → Cs → RS) : RS := match r with
  | .go (.nx l) c => f l c
  | r => r
@[simp] theorem RS.next_nx (l : Ls) (c : Cs) (f : Ls → Cs → RS) : (RS.go (.nx l) c).next f = f l c := rfl
@[simp] theorem RS.next_rt (d : D) (c : Cs) (f : Ls → Cs → RS) : (RS.go (.rt d) c).next f = .go (.rt d) c := rfl
@[simp] theorem RS.next_bk (l : Ls) (c : Cs) (f : Ls → Cs → RS) : (RS.go (.bk l) c).next f = .go (.bk l) c := rfl
@[simp] theorem RS.next_ct (l : Ls) (c : Cs) (f : Ls → Cs → RS) : (RS.go (.ct l) c).next f = .go (.ct l) c := rfl
@[simp] theorem RS.next_exc (x : Ex) (l : Ls) (c : Cs) (f : Ls → Cs → RS) : (RS.exc x l c).next f = .exc x l c := rfl
@[simp] theorem RS.next_stuck (f : Ls → Cs → RS) : RS.stuck.next f = .stuck := rfl

theorem PSi {X : Cx} {s : Stmt} {t t' : TS} (h : PS X s t) (w : ∀ D σ H, t' D σ H → t D σ H) : PS X s t' := ⟨fun pins s σ H D I q => h.run pins s σ H D I (w D σ H q)⟩
theorem PSsi {X : Cx} {s : List Stmt} {t t' : TS} (h : PSs X s t) (w : ∀ D σ H, t' D σ H → t D σ H) : PSs X s t' := ⟨fun pins s σ H D I q => h.run pins s σ H D I (w D σ H q)⟩

section
variable {X : Cx} {W : WX} {e a b : Expr} {es : List Expr} {s : Stmt} {ss body orelse : List Stmt} {pos : Pos} {fa : ME} {ta : MT} {f g : MS}
def sNil : MS := fun l c => .go (.nx l) c
def sSeq (f g : MS) : MS := fun l c => (f l c).next g
theorem ms_nil : PSs X [] (rdS X.K W sNil) := PSsi pss_nil fun D σ H ⟨I, m, l, c, R, L, A⟩ => A I m H σ (Ext.refl _ _ _) R L
theorem seq_read {K : PySem.W.Frag} {D : Ends} {σ : St} {H : Hp} (h : rdS K W (sSeq f g) D σ H) : tSeq (rdS K W f) (rdS K W g) D σ H := by
  obtain ⟨I, m, l, c, R, L, A⟩ := h
  refine ⟨I, m, l, c, R, L, ?_⟩
  have A : AfterS K I m H W D ((f l c).next g) := A
  cases q : f l c with
  | stuck => rw [q] at A; exact A
  | exc x l' c' => rw [q] at A; exact A
  | go fl c' =>
    rw [q] at A
    cases fl with
    | nx l' => exact fun I' m' H' σ' e' r' L' => ⟨I', m', l', c', r', L', AfterS.ext e' A⟩
    | rt d => exact A
    | bk l' => exact A
    | ct l' => exact A
theorem ms_cons (h1 : PS X s (rdS X.K W f)) (h2 : PSs X ss (rdS X.K W g)) : PSs X (s :: ss) (rdS X.K W (sSeq f g)) := PSsi (pss_cons h1 h2) fun _ _ _ h => seq_read h
theorem ms_one (h1 : PS X s (rdS X.K W f)) : PSs X [s] (rdS X.K W f) := pss_one h1
def sBreak : MS := fun l c => .go (.bk l) c
def sCont : MS := fun l c => .go (.ct l) c
def sExpr (a : ME) : MS := fun l c => (a l c).seq l fun _ c1 => .go (.nx l) c1
theorem ms_expr (h : PE X e (rdE X.K W fa)) (hs : swapsWith e none pos.line X.env = pure false := by rfl) : PS X (.Expr e pos) (rdS X.K W (sExpr fa)) := PSi (ps_expr h hs) fun D σ H ⟨I, m, l, c, R, L, A⟩ =>
  ⟨I, m, l, c, R, L, After.mono (AfterS.seq (rep := rD X.K) L A) fun v1 H1 ⟨I1, m1, c1, d1, E1, R1, p1, A1⟩ => A1 I1 m1 H1 σ (Ext.refl _ _ _) R1 (L.ext E1)⟩
def sRet (a : ME) : MS := fun l c => (a l c).seq l fun d c1 => .go (.rt d) c1
theorem ms_ret (h : PE X e (rdE X.K W fa)) : PS X (.Return (some e) pos) (rdS X.K W (sRet fa)) := PSi (ps_ret h) fun D σ H ⟨I, m, l, c, R, L, A⟩ =>
  ⟨I, m, l, c, R, L, After.mono (AfterS.seq (rep := rD X.K) L A) fun v1 H1 ⟨I1, m1, c1, d1, E1, R1, p1, A1⟩ => A1 I1 m1 H1 v1 (Ext.refl _ _ _) R1 p1⟩
def sRetN : MS := fun _ c => .go (.rt .non) c
def sIf (t : MT) (f g : MS) : MS := fun l c => (t l c).seq l fun k c1 => match k with
  | true => f l c1
  | false => g l c1
theorem ms_if {c : Expr} {sa sb : List Stmt} (ht : PT X c (rdT X.K W ta)) (ha : PSs X sa (rdS X.K W f)) (hb : PSs X sb (rdS X.K W g)) : PS X (.If c sa sb pos) (rdS X.K W (sIf ta f g)) := PSi (ps_if ht ha hb) fun D σ H ⟨I, m, l, c, R, L, A⟩ =>
  ⟨I, m, l, c, R, L, After.mono (AfterS.seq (rep := rB) L A) fun v1 H1 ⟨I1, m1, c1, d1, E1, R1, p1, A1⟩ => by
    cases (show v1 = d1 from p1)
    cases v1 with
    | true => exact iteT ⟨I1, m1, l, c1, R1, L.ext E1, A1⟩
    | false => exact iteF ⟨I1, m1, l, c1, R1, L.ext E1, A1⟩⟩

/-! ### targets -/
abbrev MG := D → Ls → Cs → R Ls
def rL (K : PySem.W.Frag) : Hp → List Addr → St → Ls → Prop := fun I m σ l => Locs K I m σ l
/-- what a target does with a value; an exception would leave with the locals as they were -/
def rdG (K : PySem.W.Frag) (W : WX) (g : MG) : TG := fun v σ H Q => ∃ I m l c d, Rel K I H m c ∧ Locs K I m σ l ∧ Rep K I m v d ∧ After (rL K) K I m H (fun cls dd H' => W cls dd σ H') Q (g d l c)
theorem PGi {tg : Expr} {t t' : TG} (h : PG X tg t) (w : ∀ v σ H Q, t' v σ H Q → t v σ H Q) : PG X tg t' := ⟨fun pins s σ H v u Q I r q => h.run pins s σ H v u Q I r (w v σ H Q q)⟩
def gN (i : Nat) : MG := fun d l c => .ok (l.set i (some d)) c
theorem mg_name {i : Nat} {x : Str} (hN : X.N.Nodup) (hi : X.N[i]? = some x) (hx : Loc X.env.scope x) (hf : X.fn x = true ∨ X.env.scope.names.lookup x = some .local := by first | exact .inl rfl | exact .inr rfl | assumption) : PG X (.Name x pos) (rdG X.K W (gN i)) :=
  PGi (pg_name hN hi hx hf) fun v σ H Q ⟨I, m, l, c, d, R, L, p, A⟩ => A.here R (L.set i p)
abbrev MGs := List D → Ls → Cs → R Ls
def rdGs (K : PySem.W.Frag) (W : WX) (g : MGs) : TGs := fun vs σ H Q => ∃ I m l c ds, Rel K I H m c ∧ Locs K I m σ l ∧ Reps K I m vs ds ∧ After (rL K) K I m H (fun cls dd H' => W cls dd σ H') Q (g ds l c)
theorem PGsi {tgs : List Expr} {t t' : TGs} (h : PGs X tgs t) (w : ∀ v σ H Q, t' v σ H Q → t v σ H Q) : PGs X tgs t' := ⟨fun pins s σ H v u Q I r q => h.run pins s σ H v u Q I r (w v σ H Q q)⟩
/-- a, b, .. = a tuple, all names -/
def gNs (js : List Nat) : MGs := fun ds l c => match js, ds with
  | [], [] => .ok l c
  | i :: js, d :: ds => gNs js ds (l.set i (some d)) c
  | _, _ => .stuck
theorem mgs_nil : PGs X [] (rdGs X.K W (gNs [])) := PGsi pgs_nil fun vs σ H Q ⟨I, m, l, c, ds, R, L, p, A⟩ => by
  cases p with
  | nil => exact ⟨rfl, A.here R L⟩
  | cons h t => exact A.elim
theorem mgs_cons {i : Nat} {x : Str} {js : List Nat} {p : Pos} (hN : X.N.Nodup) (hi : X.N[i]? = some x) (hx : Loc X.env.scope x) (h2 : PGs X es (rdGs X.K W (gNs js)))
    (hs : (assignEach (.Name x p :: es) X.env).map (·.2) = assign (.Name x p) X.env :: (assignEach es X.env).map (·.2) := by rfl)
    (hf : X.fn x = true ∨ X.env.scope.names.lookup x = some .local := by first | exact .inl rfl | exact .inr rfl | assumption) : PGs X (.Name x p :: es) (rdGs X.K W (gNs (i :: js))) :=
  PGsi (pgs_cons (pg_name hN hi hx hf) h2 hs) fun vs σ H Q ⟨I, m, l, c, ds, R, L, p, A⟩ => by
    cases p with
    | nil => exact A.elim
    | cons h t =>
      refine ⟨_, _, rfl, I, m, l.set i _, c, _, R, L.set i h, t, ?_⟩
      revert A
      show After (rL X.K) X.K I m H (fun cls dd H' => W cls dd σ H') Q (gNs js _ (l.set i _) c) → _
      have never : ∀ (js : List Nat) (ds : List D) (l : Ls) (c : Cs) (x : Ex) (c' : Cs), gNs js ds l c ≠ .exc x c' := by
        intro js
        induction js with
        | nil => intro ds l c x c' e; cases ds <;> cases e
        | cons i js ih =>
          intro ds l c x c' e
          cases ds with
          | nil => cases e
          | cons d ds => exact ih _ _ _ _ _ e
      intro A
      generalize hq : gNs js _ (l.set i _) c = r at A ⊢
      cases r with
      | stuck => exact A
      | ok _ _ => exact A
      | exc x c' => exact absurd hq (never _ _ _ _ _ _)
def gT (js : List Nat) : MG := fun d l c => match d with
  | .tup ds => if ds.length = js.length then gNs js ds l c else .stuck
  | _ => .stuck
theorem mg_tup {k : Nat} {js : List Nat} (hc : X.calm = true) (h : PGs X es (rdGs X.K W (gNs js)))
    (hn : (assignEach es X.env).length = js.length := by rfl) (hst : (assignEach es X.env).findIdx? (·.1) = none := by rfl) : PG X (.Tuple es k pos) (rdG X.K W (gT js)) :=
  PGi (pg_tup hc h hn hst) fun v σ H Q ⟨I, m, l, c, d, R, L, p, A⟩ => by
    cases p with
    | @tup a vs ds h r =>
      by_cases hl : ds.length = js.length
      · have A2 : After (rL X.K) X.K I m H (fun cls dd H' => W cls dd σ H') Q (if ds.length = js.length then gNs js ds l c else .stuck) := A
        rw [if_pos hl] at A2
        exact ⟨a, vs, rfl, sqT_same R.same h, r.length.trans hl, I, m, l, c, ds, R, L, r, A2⟩
      · have A2 : After (rL X.K) X.K I m H (fun cls dd H' => W cls dd σ H') Q (if ds.length = js.length then gNs js ds l c else .stuck) := A
        rw [if_neg hl] at A2
        exact A2.elim
    | _ => exact A.elim
/-- o[i] = v, at a list's cell -/
def putD (o i v : D) (c : Cs) : R Unit := match o, i with
  | .ref k, .int j => match c[k]? with
    | some (.lst ds) => match ixN ds.length j with
      | some n => .ok () (c.set k (.lst (ds.set n v)))
      | none => .stuck
    | _ => .stuck
  | _, _ => .stuck
def gS (o i : ME) : MG := fun d l c => (o l c).bind fun x c1 => (i l c1).bind fun y c2 => (putD x y d c2).bind fun _ c3 => .ok l c3
theorem mg_sub {tg : Expr} {fo fi : ME} (h : PG X tg (gSub (rdE X.K W fo) (rdE X.K W fi) rSetL)) : PG X tg (rdG X.K W (gS fo fi)) :=
  PGi h fun v σ H Q ⟨I, m, l, c, d, R, L, p, A⟩ => by
    refine ⟨I, m, l, c, R, L, After.mono (After.bind (rep := rD X.K) A) fun v1 H1 ⟨I1, m1, c1, d1, E1, R1, p1, A1⟩ => ?_⟩
    refine ⟨I1, m1, l, c1, R1, L.ext E1, After.mono (After.bind (rep := rD X.K) A1) fun v2 H2 ⟨I2, m2, c2, d2, E2, R2, p2, A2⟩ => ?_⟩
    have pd := Rep.ext (Rep.ext p E1) E2
    have L2 := (L.ext E1).ext E2
    have q1 := Rep.ext p1 E2
    cases q1 with
    | @ref k a hk =>
      cases p2 with
      | int j =>
        have A3 : After (rL X.K) X.K I2 m2 H2 (fun cls dd H' => W cls dd σ H') Q ((match c2[k]? with
          | some (.lst ds) => match ixN ds.length j with
            | some n => .ok () (c2.set k (.lst (ds.set n d)))
            | none => .stuck
          | _ => .stuck : Mi.R Unit).bind fun _ c3 => .ok l c3) := A2
        cases q : c2[k]? with
        | none => rw [q] at A3; exact A3.elim
        | some x =>
          rw [q] at A3
          cases x with
          | lst ds =>
            obtain ⟨n1, vs, h1, h2⟩ := R2.cell k a _ hk q
            cases q2 : ixN ds.length j with
            | none =>
              have A4 : After (rL X.K) X.K I2 m2 H2 (fun cls dd H' => W cls dd σ H') Q ((match ixN ds.length j with
                | some n => .ok () (c2.set k (.lst (ds.set n d)))
                | none => .stuck : Mi.R Unit).bind fun _ c3 => .ok l c3) := A3
              rw [q2] at A4
              exact A4.elim
            | some n =>
              have A4 : After (rL X.K) X.K I2 m2 H2 (fun cls dd H' => W cls dd σ H') Q ((match ixN ds.length j with
                | some n => .ok () (c2.set k (.lst (ds.set n d)))
                | none => .stuck : Mi.R Unit).bind fun _ c3 => .ok l c3) := A3
              rw [q2] at A4
              refine ⟨a, vs, j, n, rfl, rfl, h1, by rw [h2.length]; exact q2, ?_⟩
              obtain ⟨R3, E3⟩ := R2.put hk q (h2.set pd n)
              exact A4 I2 m2 _ σ E3 R3 (L2.ext E3)
          | _ => exact A3.elim
      | _ => exact A2.elim
    | _ => exact A2.elim
def sAsg (a : ME) (g : MG) : MS := fun l c => (a l c).seq l fun d c1 => (g d l c1).seq l fun l' c2 => .go (.nx l') c2
theorem asg_read {K : PySem.W.Frag} {g : MG} {D : Ends} {σ : St} {H : Hp} (h : rdS K W (sAsg fa g) D σ H) : tAsg (rdE K W fa) (rdG K W g) D σ H := by
  obtain ⟨I, m, l, c, R, L, A⟩ := h
  refine ⟨I, m, l, c, R, L, After.mono (AfterS.seq (rep := rD K) L A) fun v1 H1 ⟨I1, m1, c1, d1, E1, R1, p1, A1⟩ => ?_⟩
  refine ⟨I1, m1, l, c1, d1, R1, L.ext E1, p1, After.mono (AfterS.seq (rep := rL K) (L.ext E1) A1) fun v2 H2 ⟨I2, m2, c2, d2, E2, R2, p2, A2⟩ => ?_⟩
  exact A2 I2 m2 H2 v2 (Ext.refl _ _ _) R2 p2
theorem ms_asg {tg : Expr} {g : MG} (he : PE X e (rdE X.K W fa)) (hg : PG X tg (rdG X.K W g)) (hs : swapsWithSole [tg] e pos.line X.env = pure false := by rfl) (hw : swappedStores [tg] e X.env = pure none := by rfl)
    (h1 : (assignEach [tg] X.env).map (·.2) = [assign tg X.env] := by rfl) : PS X (.Assign [tg] e pos) (rdS X.K W (sAsg fa g)) := PSi (ps_asg he hg hs hw h1) fun _ _ _ h => asg_read h
/-- x = e -/
def sSet (i : Nat) (a : ME) : MS := fun l c => (a l c).seq l fun d c1 => .go (.nx (l.set i (some d))) c1
theorem ms_set {i : Nat} {x : Str} {p : Pos} (hN : X.N.Nodup) (hi : X.N[i]? = some x) (hx : Loc X.env.scope x) (he : PE X e (rdE X.K W fa)) (hs : swapsWith e (some (.Name x p)) pos.line X.env = pure false := by rfl)
    (hf : X.fn x = true ∨ X.env.scope.names.lookup x = some .local := by first | exact .inl rfl | exact .inr rfl | assumption) : PS X (.Assign [.Name x p] e pos) (rdS X.K W (sSet i fa)) :=
  PSi (ps_set hN hi hx he hs hf) fun D σ H ⟨I, m, l, c, R, L, A⟩ =>
    ⟨I, m, l, c, R, L, After.mono (AfterS.seq (rep := rD X.K) L A) fun v1 H1 ⟨I1, m1, c1, d1, E1, R1, p1, A1⟩ => A1 I1 m1 H1 _ (Ext.refl _ _ _) R1 ((L.ext E1).set i p1)⟩
/-- a, b = x, y; three of them: stored from the right, no tuple is made -/
def sPar (js : List Nat) (t : MA) : MS := fun l c => (t l c).seq l fun ds c1 => (gNs js ds l c1).seq l fun l' c2 => .go (.nx l') c2
theorem ms_par3 {i j k : Nat} {x y z : Str} {d : Expr} {ga : MA} {px py pz pt : Pos} {kt k2 : Nat} {pt2 : Pos} (hc : X.calm = true) (hN : X.N.Nodup) (hi : X.N[i]? = some x) (hj : X.N[j]? = some y) (hk : X.N[k]? = some z) (hij : i ≠ j) (hil : i ≠ k) (hjl : j ≠ k)
    (hx : X.env.scope.names.lookup x = some .local) (hy : X.env.scope.names.lookup y = some .local) (hz : X.env.scope.names.lookup z = some .local) (ha : PA X [a, b, d] (rdA X.K W ga))
    (hw : swappedStores [.Tuple [.Name x px, .Name y py, .Name z pz] kt pt] (.Tuple [a, b, d] k2 pt2) X.env = pure (some [x, y, z]))
    (hs : swapsWithSole [.Tuple [.Name x px, .Name y py, .Name z pz] kt pt] (.Tuple [a, b, d] k2 pt2) pos.line X.env = pure false := by rfl) :
    PS X (.Assign [.Tuple [.Name x px, .Name y py, .Name z pz] kt pt] (.Tuple [a, b, d] k2 pt2) pos) (rdS X.K W (sPar [i, j, k] ga)) := PSi (ps_par3 hc hN hi hj hk hij hil hjl hx hy hz ha hw hs) fun D σ H ⟨I, m, l, c, R, L, A⟩ => by
  refine ⟨I, m, l, c, R, L, After.mono (AfterS.seq (rep := rA X.K) L A) fun v1 H1 ⟨I1, m1, c1, d1, E1, R1, p1, A1⟩ => ?_⟩
  cases p1 with
  | nil => exact A1.elim
  | cons h t =>
    cases t with
    | nil => exact A1.elim
    | cons h2 t2 =>
      cases t2 with
      | nil => exact A1.elim
      | cons h3 t3 =>
        cases t3 with
        | cons h4 t4 => exact A1.elim
        | nil => exact ⟨_, _, _, rfl, A1 I1 m1 H1 _ (Ext.refl _ _ _) R1 ((((L.ext E1).set i h).set j h2).set k h3)⟩

/-! ### what is walked -/
abbrev MI := Ls → Cs → R (List D)
/-- the items that an iterator gives, as trees -/
def Walks (K : PySem.W.Frag) (I : Hp) (m : List Addr) (J : It) (ds : List D) : Prop := ∀ (i : Nat) (I' H : Hp) (m' : List Addr) (c : Cs), Same I I' → Pre m m' → Rel K I' H m' c →
  (∀ d, ds[i]? = some d → J.go i H ∧ ∀ x H', J.yld i H x H' → ∃ I'', Ext I' m' H I'' m' H' ∧ Rel K I'' H' m' c ∧ Rep K I'' m' x d) ∧ (ds.length ≤ i → J.stop i H)
theorem Walks.ext {K : PySem.W.Frag} {I I1 H H1 : Hp} {m m1 : List Addr} {J : It} {ds : List D} (w : Walks K I m J ds) (e : Ext I m H I1 m1 H1) : Walks K I1 m1 J ds := fun i I' H m' c s p => w i I' H m' c (e.same.trans s) (e.pre.trans p)
def rI' (K : PySem.W.Frag) : Hp → List Addr → It → List D → Prop := fun I m J ds => Walks K I m J ds
def rdI (K : PySem.W.Frag) (W : WX) (f : MI) : TI := rd (rI' K) K W f
theorem PIi {tg it : Expr} {t t' : TI} (h : PI X tg it t) (w : ∀ σ H R, t' σ H R → t σ H R) : PI X tg it t' := ⟨fun pins s σ H R I q => h.run pins s σ H R I (w σ H R q)⟩
def iLst (a : ME) : MI := fun l c => (a l c).bind fun x c1 => match x with
  | .lst ds => .ok ds c1
  | .ro ds => .ok ds c1
  | _ => .stuck
theorem walks_list {K : PySem.W.Frag} {I : Hp} {m : List Addr} {a : Addr} {vs : List V} {ds : List D} (h : SqL K I a vs) (r : Reps K I m vs ds) : Walks K I m (Itl K a) ds := fun i I' H m' c s p R => by
  have hs : SqL K H a vs := R.same.seq (s.seq h)
  refine ⟨fun d hd => ?_, fun hl => ⟨vs, hs, by rw [r.length]; exact hl⟩⟩
  obtain ⟨v, hv, pv⟩ := r.get hd
  refine ⟨⟨vs, v, hs, hv⟩, fun x H' y => ?_⟩
  obtain ⟨e, y⟩ := y
  subst e
  have ev : x = v := by
    have z := y vs hs
    rw [hv] at z
    exact (Option.some.inj z).symm
  subst ev
  exact ⟨I', Ext.refl _ _ _, R, pv.mono s p⟩
end
end L2.Mi

namespace L2.Mi
open PySem PySem.Spec PyProof.Rows L2

/-! ### what is walked -/
section
variable {X : Cx} {W : WX} {tg e : Expr} {pos : Pos} {fa : ME} {ga : MA}
theorem mi_lst (h : PE X e (rdE X.K W fa)) : PI X tg e (rdI X.K W (iLst fa)) := PIi (pi_list h) fun σ H Q ⟨I, m, l, c, R, L, A⟩ =>
  ⟨I, m, l, c, R, L, After.mono (After.bind (rep := rD X.K) A) fun v1 H1 ⟨I1, m1, c1, d1, E1, R1, p1, A1⟩ => by
    cases p1 with
    | @lst a vs ds h r => exact ⟨a, rfl, ⟨vs, SqL.of (R1.same _ _ h)⟩, A1.here R1 (walks_list (SqL.of h) r)⟩
    | @ro a vs ds h r => exact ⟨a, rfl, ⟨vs, R1.same.seq h⟩, A1.here R1 (walks_list h r)⟩
    | _ => exact A1.elim⟩
def iTup' (a : ME) : MI := fun l c => (a l c).bind fun x c1 => match x with
  | .tup ds => .ok ds c1
  | _ => .stuck
theorem walks_tup {K : PySem.W.Frag} {I : Hp} {m : List Addr} {a : Addr} {vs : List V} {ds : List D} (h : SqT K I a vs) (r : Reps K I m vs ds) : Walks K I m (Itt K a) ds := fun i I' H m' c s p R => by
  have hs : SqT K H a vs := sqT_same R.same (sqT_same s h)
  refine ⟨fun d hd => ?_, fun hl => ⟨vs, hs, by rw [r.length]; exact hl⟩⟩
  obtain ⟨v, hv, pv⟩ := r.get hd
  refine ⟨⟨vs, v, hs, hv⟩, fun x H' y => ?_⟩
  obtain ⟨e, y⟩ := y
  subst e
  have ev : x = v := by
    have z := y vs hs
    rw [hv] at z
    exact (Option.some.inj z).symm
  subst ev
  exact ⟨I', Ext.refl _ _ _, R, pv.mono s p⟩
/-- the chrs of a text -/
def chrs (s : Str) : List D := s.cps.toList.map fun k => .str ⟨#[k]⟩
def iStr' (a : ME) : MI := fun l c => (a l c).bind fun x c1 => match x with
  | .str s => .ok (chrs s) c1
  | _ => .stuck
theorem walks_str {K : PySem.W.Frag} {I : Hp} {m : List Addr} {s : Str} : Walks K I m (Its s) (chrs s) := fun i I' H m' c _ _ R => by
  have hl : (chrs s).length = s.cps.size := by simp [chrs]
  refine ⟨fun d hd => ?_, fun h => by rw [hl] at h; exact h⟩
  have hi : i < s.cps.size := by rw [← hl]; exact (List.getElem?_eq_some_iff.mp hd).1
  refine ⟨hi, fun x H' y => ?_⟩
  obtain ⟨e, k, hk, ex⟩ := y
  subst e; subst ex
  refine ⟨I', Ext.refl _ _ _, R, ?_⟩
  have e2 : d = .str ⟨#[k]⟩ := by
    unfold chrs at hd
    rw [List.getElem?_map, Array.getElem?_toList, hk] at hd
    exact (Option.some.inj hd).symm
  rw [e2]
  exact .str _
/-- range(n), range(a, b) -/
def rangeL (lo : Int) (n : Nat) : List D := (List.range n).map fun i => .int (lo + (i : Nat))
theorem walks_rng {K : PySem.W.Frag} {I : Hp} {m : List Addr} {lo : Int} {n : Nat} : Walks K I m (Itr lo n) (rangeL lo n) := fun i I' H m' c _ _ R => by
  refine ⟨fun d hd => ?_, fun h => by simp [rangeL] at h; exact h⟩
  have hi : i < n := by have := (List.getElem?_eq_some_iff.mp hd).1; simpa [rangeL] using this
  refine ⟨hi, fun x H' y => ?_⟩
  obtain ⟨e, ex⟩ := y
  subst e; subst ex
  refine ⟨I', Ext.refl _ _ _, R, ?_⟩
  have e2 : d = .int (lo + (i : Nat)) := by
    unfold rangeL at hd
    rw [List.getElem?_map, List.getElem?_range hi] at hd
    exact (Option.some.inj hd).symm
  rw [e2]
  exact .int _
def small62 (i : Int) : Prop := -(2 ^ 62) ≤ i ∧ i < 2 ^ 62
instance : ∀ i, Decidable (small62 i) := fun i => inferInstanceAs (Decidable (-(2 ^ 62) ≤ i ∧ i < 2 ^ 62))
def iR1 (t : MA) : MI := fun l c => (t l c).bind fun xs c1 => match xs with
  | [.int j] => if small62 j then .ok (rangeL 0 j.toNat) c1 else .stuck
  | _ => .stuck
def iR2 (t : MA) : MI := fun l c => (t l c).bind fun xs c1 => match xs with
  | [.int i, .int j] => if small62 i ∧ small62 j then .ok (rangeL i (j - i).toNat) c1 else .stuck
  | _ => .stuck
theorem mi_r1 {it : Expr} (h : PI X tg it (iRng1 (rdA X.K W ga))) : PI X tg it (rdI X.K W (iR1 ga)) := PIi h fun σ H Q ⟨I, m, l, c, R, L, A⟩ =>
  ⟨I, m, l, c, R, L, After.mono (After.bind (rep := rA X.K) A) fun v1 H1 ⟨I1, m1, c1, d1, E1, R1, p1, A1⟩ => by
    cases p1 with
    | nil => exact A1.elim
    | cons h t =>
      cases t with
      | cons h2 t2 => cases h <;> exact A1.elim
      | nil =>
        cases h with
        | int j =>
          have A2 : After (rI' X.K) X.K I1 m1 H1 (fun cls dd H' => W cls dd σ H') Q (if small62 j then .ok (rangeL 0 j.toNat) c1 else .stuck) := A1
          by_cases hj : small62 j
          · rw [if_pos hj] at A2
            exact ⟨j, rfl, hj.1, hj.2, A2.here R1 walks_rng⟩
          · rw [if_neg hj] at A2
            exact A2.elim
        | _ => exact A1.elim⟩
end

/-! ### for -/
/-- the turns of a loop -/
def forD (g : MG) (f : MS) : List D → Ls → Cs → RS
  | [], l, c => .go (.nx l) c
  | d :: ds, l, c => (g d l c).seq l fun l1 c1 => match f l1 c1 with
    | .go (.nx l2) c2 => forD g f ds l2 c2
    | .go (.ct l2) c2 => forD g f ds l2 c2
    | .go (.bk l2) c2 => .go (.nx l2) c2
    | r => r
def sFor (it : MI) (g : MG) (f : MS) : MS := fun l c => (it l c).seq l fun ds c1 => forD g f ds l c1
theorem ms_for {X : Cx} {W : WX} {tg iter : Expr} {body : List Stmt} {pos : Pos} {fi : MI} {g : MG} {f : MS} (hp : PassesOwn (model X.prog X.w) X.A X.env X.xe) (hc : X.calm = true) (hi : PI X tg iter (rdI X.K W fi)) (hg : PG X tg (rdG X.K W g)) (hb : PSs X body (rdS X.K W f))
    (hs : ∀ x, foldedSetIterable iter X.env x = pure x := by intro _; rfl) : PS X (.For tg iter body [] pos) (rdS X.K W (sFor fi g f)) := PSi (ps_for hp hc hi hg hb hs) fun D σ H ⟨I, m, l, c, R, L, A⟩ => by
  refine ⟨I, m, l, c, R, L, After.mono (AfterS.seq (rep := rI' X.K) L A) fun J H1 ⟨I1, m1, c1, ds, E1, R1, w1, A1⟩ => ?_⟩
  refine ⟨fun i n σ H => ∃ I' m' l' c', n = ds.length - i ∧ Ext I1 m1 H1 I' m' H ∧ Rel X.K I' H m' c' ∧ Locs X.K I' m' σ l' ∧ AfterS X.K I' m' H W D (forD g f (ds.drop i) l' c'), ⟨_, I1, m1, l, c1, rfl, Ext.refl _ _ _, R1, L.ext E1, A1⟩, ?_⟩
  rintro i n σ' H' ⟨I', m', l', c', rfl, E', R', L', A'⟩
  obtain ⟨wg, ws⟩ := w1 i I' H' m' c' E'.same E'.pre R'
  cases q : ds[i]? with
  | none =>
    have hi : ds.length ≤ i := List.getElem?_eq_none_iff.mp q
    rw [List.drop_eq_nil_of_le hi] at A'
    exact .inl ⟨ws hi, A' I' m' H' σ' (Ext.refl _ _ _) R' L'⟩
  | some d =>
    have hi : i < ds.length := (List.getElem?_eq_some_iff.mp q).1
    have hd : ds.drop i = d :: ds.drop (i + 1) := by
      rw [List.drop_eq_getElem_cons hi, (List.getElem?_eq_some_iff.mp q).2]
    rw [hd] at A'
    obtain ⟨go, yl⟩ := wg d q
    refine .inr ⟨go, fun σ2 H2 => ∃ I2 m2 l2 c2, Ext I1 m1 H1 I2 m2 H2 ∧ Rel X.K I2 H2 m2 c2 ∧ Locs X.K I2 m2 σ2 l2 ∧ AfterS X.K I2 m2 H2 W D (forD g f (ds.drop (i + 1)) l2 c2),
      fun σ2 H2 ⟨I2, m2, l2, c2, e2, r2, L2, a2⟩ => ⟨ds.length - (i + 1), by omega, I2, m2, l2, c2, rfl, e2, r2, L2, a2⟩, fun x H3 y => ?_⟩
    obtain ⟨I3, E3, R3, p3⟩ := yl x H3 y
    have A3 := AfterS.ext E3 A'
    refine ⟨I3, m', l', c', d, R3, L'.ext E3, p3, After.mono (AfterS.seq (rep := rL X.K) (L'.ext E3) A3) fun σ4 H4 ⟨I4, m4, c4, l4, E4, R4, L4, A4⟩ => ?_⟩
    refine ⟨I4, m4, l4, c4, R4, L4, ?_⟩
    have EE := (E'.trans E3).trans E4
    have A5 : AfterS X.K I4 m4 H4 W D (match f l4 c4 with
      | .go (.nx l2) c2 => forD g f (ds.drop (i + 1)) l2 c2
      | .go (.ct l2) c2 => forD g f (ds.drop (i + 1)) l2 c2
      | .go (.bk l2) c2 => .go (.nx l2) c2
      | r => r) := A4
    cases qf : f l4 c4 with
    | stuck => rw [qf] at A5; exact A5
    | exc x l' c' => rw [qf] at A5; exact A5
    | go fl c5 =>
      rw [qf] at A5
      cases fl with
      | nx l5 => exact fun I6 m6 H6 σ6 e6 r6 L6 => ⟨I6, m6, l5, c5, EE.trans e6, r6, L6, AfterS.ext e6 A5⟩
      | ct l5 => exact fun I6 m6 H6 σ6 e6 r6 L6 => ⟨I6, m6, l5, c5, EE.trans e6, r6, L6, AfterS.ext e6 A5⟩
      | bk l5 => exact A5
      | rt d => exact A5
/-! ### while: at most n turns are followed -/
def whileD (t : MT) (f : MS) : Nat → MS
  | 0, _, _ => .stuck
  | n + 1, l, c => (t l c).seq l fun k c1 => match k with
    | true => match f l c1 with
      | .go (.nx l2) c2 => whileD t f n l2 c2
      | .go (.ct l2) c2 => whileD t f n l2 c2
      | .go (.bk l2) c2 => .go (.nx l2) c2
      | r => r
    | false => .go (.nx l) c1
theorem ms_while {X : Cx} {W : WX} {e : Expr} {body : List Stmt} {pos : Pos} {t : MT} {f : MS} (n : Nat) (hp : PassesOwn (model X.prog X.w) X.A X.env X.xe) (ht : PT X e (rdT X.K W t)) (hb : PSs X body (rdS X.K W f)) :
    PS X (.While e body [] pos) (rdS X.K W (whileD t f n)) := PSi (ps_while hp ht hb) fun D σ H ⟨I, m, l, c, R, L, A⟩ => by
  refine ⟨fun k σ' H' => ∃ I' m' l' c', Rel X.K I' H' m' c' ∧ Locs X.K I' m' σ' l' ∧ AfterS X.K I' m' H' W D (whileD t f k l' c'), ⟨n, I, m, l, c, R, L, A⟩, ?_⟩
  rintro k σ' H' ⟨I', m', l', c', R', L', A'⟩
  cases k with
  | zero => exact A'.elim
  | succ k =>
    refine ⟨I', m', l', c', R', L', After.mono (AfterS.seq (rep := rB) L' A') fun b H1 ⟨I1, m1, c1, b1, E1, R1, p1, A1⟩ => ?_⟩
    cases (show b = b1 from p1)
    cases b with
    | false => exact iteF (A1 I1 m1 H1 σ' (Ext.refl _ _ _) R1 (L'.ext E1))
    | true =>
      refine iteT ⟨fun σ2 H2 => ∃ I2 m2 l2 c2, Rel X.K I2 H2 m2 c2 ∧ Locs X.K I2 m2 σ2 l2 ∧ AfterS X.K I2 m2 H2 W D (whileD t f k l2 c2), fun σ2 H2 q => ⟨k, Nat.lt_succ_self k, q⟩, ?_⟩
      refine ⟨I1, m1, l', c1, R1, L'.ext E1, ?_⟩
      have A5 : AfterS X.K I1 m1 H1 W D (match f l' c1 with
        | .go (.nx l2) c2 => whileD t f k l2 c2
        | .go (.ct l2) c2 => whileD t f k l2 c2
        | .go (.bk l2) c2 => .go (.nx l2) c2
        | r => r) := A1
      cases qf : f l' c1 with
      | stuck => rw [qf] at A5; exact A5
      | exc x l' c' => rw [qf] at A5; exact A5
      | go fl c5 =>
        rw [qf] at A5
        cases fl with
        | nx l5 => exact fun I6 m6 H6 σ6 e6 r6 L6 => ⟨I6, m6, l5, c5, r6, L6, AfterS.ext e6 A5⟩
        | ct l5 => exact fun I6 m6 H6 σ6 e6 r6 L6 => ⟨I6, m6, l5, c5, r6, L6, AfterS.ext e6 A5⟩
        | bk l5 => exact A5
        | rt d => exact A5

/-! ### list comprehensions -/
def R.nox {α : Type} (r : R α) : R α := match r with
  | .exc _ _ => .stuck
  | r => r
@[simp] theorem R.nox_ok {α : Type} (a : α) (c : Cs) : (R.ok a c).nox = .ok a c := rfl
theorem After.nox {α β : Type} {rep : Hp → List Addr → β → α → Prop} {K : PySem.W.Frag} {I H : Hp} {m : List Addr} {W W' : XK} {Q : β → Hp → Prop} {r : R α} (a : After rep K I m H W Q r.nox) : After rep K I m H W' Q r := by
  cases r with
  | stuck => exact a
  | ok d c => exact a
  | exc x c => exact a.elim
/-- .. where what follows is wanted from an earlier place -/
theorem After.bindAt {α β γ δ : Type} {rep : Hp → List Addr → β → α → Prop} {rep' : Hp → List Addr → δ → γ → Prop} {K : PySem.W.Frag} {I I1 H H1 : Hp} {m m1 : List Addr} {W : XK} {Q : δ → Hp → Prop} {r : R α} {f : α → Cs → R γ}
    (a : After rep' K I m H W Q (r.bind f)) (e : Ext I m H I1 m1 H1) : After rep K I1 m1 H1 W (fun v H2 => ∃ I2 m2 c2 x, Ext I1 m1 H1 I2 m2 H2 ∧ Rel K I2 H2 m2 c2 ∧ rep I2 m2 v x ∧ After rep' K I m H W Q (f x c2)) r := by
  cases r with
  | stuck => exact a
  | ok d c => exact fun I' m' H' v e' r' p => ⟨I', m', c, d, e', r', p, a⟩
  | exc x c => exact After.ext (rep := rep') (r := (.exc x c)) e a
def compD (g : MG) (t : MT) (e : ME) (lw : Ls) : List D → List D → Cs → R (List D)
  | [], acc, c => .ok acc c
  | d :: ds, acc, c => (g d lw c).nox.bind fun l1 c1 => (t l1 c1).nox.bind fun k c2 => match k with
    | true => (e l1 c2).nox.bind fun x c3 => if acc.length < sizeLine then compD g t e lw ds (acc ++ [x]) c3 else .stuck
    | false => compD g t e lw ds acc c2
def wipeL (l : Ls) : List Nat → Ls
  | [] => l
  | v :: vs => (wipeL l vs).set v none
def mLc (it : MI) (js : List Nat) (g : MG) (t : MT) (e : ME) : ME := fun l c => (it l c).bind fun ds c1 => (compD g t e (wipeL l js) ds [] c1).bind fun xs c2 => .ok (.lst xs) c2
def tYesM : MT := fun _ c => .ok true c
theorem locs_wipe {K : PySem.W.Frag} {I : Hp} {m : List Addr} {σ : St} {l : Ls} (L : Locs K I m σ l) : ∀ js : List Nat, Locs K I m (wipe σ js) (wipeL l js)
  | [] => L
  | j :: js => by
    have q := locs_wipe L js
    refine ⟨by unfold wipe wipeL; rw [List.length_set, List.length_set, q.len], fun i d h => ?_⟩
    unfold wipeL at h
    unfold wipe
    by_cases hi : j = i
    · subst hi
      by_cases hl : j < (wipeL l js).length
      · rw [List.getElem?_set_self hl] at h; cases h
      · rw [List.getElem?_eq_none (by simpa using hl)] at h; cases h
    · rw [List.getElem?_set_ne hi] at h ⊢
      exact q.at_ i d h
/-- another object is laid, or changed, that is none of ours -/
theorem Rel.side {K : PySem.W.Frag} {I H : Hp} {m : List Addr} {c : Cs} {p : Addr} {vs ws : List V} (r : Rel K I H m c) (hH : H p = none ∨ H p = some (.lst vs)) (hI : I p = none) (hm : p ∉ m) : Rel K I (upd H p (.lst ws)) m c := by
  refine ⟨fun b o e => ?_, r.len, r.nd, fun k a x h1 h2 => ?_, r.tabs.upH (hH.elim nt_none fun z => nt_some z ⟨(fun _ z => nomatch z), (fun _ z => nomatch z)⟩)⟩
  · rw [upd_ne (ne_of_none e hI)]
    exact r.same _ _ e
  · have na : a ≠ p := fun e => hm (e ▸ List.mem_of_getElem? h1)
    have q := r.cell k a x h1 h2
    cases x with
    | lst es =>
      obtain ⟨q1, us, q2, q3⟩ := q
      exact ⟨q1, us, by rw [upd_ne na]; exact q2, q3⟩
    | dct es =>
      obtain ⟨q1, us, q2, q3⟩ := q
      exact ⟨q1, us, by rw [upd_ne na]; exact q2, q3⟩
    | dT es =>
      obtain ⟨q1, us, q2, q3⟩ := q
      exact ⟨q1, us, by rw [upd_ne na]; exact q2, q3⟩
    | dTz es => exact q
    | ins C es =>
      obtain ⟨q1, dx, us, q2, q3, q4, q5, q6⟩ := q
      have nd : dx ≠ p := by
        rcases hH with z | z
        · exact ne_of_none q4 z
        · exact ne_of q4 z (by intro y; cases y)
      exact ⟨q1, dx, us, q2, q3, by rw [upd_ne nd]; exact q4, q5.imp fun _ z => ⟨z.1, by rw [upd_ne na]; exact z.2⟩, q6⟩
    | frz d => exact q
/-- it becomes one that never changes -/
theorem Rel.adopt {K : PySem.W.Frag} {I H : Hp} {m : List Addr} {c : Cs} {p : Addr} {vs : List V} (r : Rel K I H m c) (hH : H p = some (.lst vs)) (hI : I p = none) (hm : p ∉ m) : Rel K (upd I p (.lst vs)) H m c := by
  have sI : Same I (upd I p (.lst vs)) := fun b o e => by rw [upd_ne (ne_of_none e hI)]; exact e
  refine ⟨fun b o e => ?_, r.len, r.nd, fun k a x h1 h2 => ?_, r.tabs.upI (nt_some hH ⟨(fun _ z => nomatch z), (fun _ z => nomatch z)⟩)⟩
  · by_cases hb : b = p
    · subst hb
      rw [upd_same] at e
      cases e
      exact hH
    · rw [upd_ne hb] at e
      exact r.same _ _ e
  · have na : a ≠ p := fun e => hm (e ▸ List.mem_of_getElem? h1)
    have q := r.cell k a x h1 h2
    cases x with
    | lst es =>
      obtain ⟨q1, us, q2, q3⟩ := q
      exact ⟨by rw [upd_ne na]; exact q1, us, q2, q3.mono sI (Pre.refl m)⟩
    | dct es =>
      obtain ⟨q1, us, q2, q3⟩ := q
      exact ⟨by rw [upd_ne na]; exact q1, us, q2, q3.mono sI (Pre.refl m)⟩
    | dT es =>
      obtain ⟨q1, us, q2, q3⟩ := q
      exact ⟨by rw [upd_ne na]; exact q1, us, q2, q3.mono sI (Pre.refl m)⟩
    | dTz es => exact q.imp (fun _ y => y.imp fun _ y => ⟨sI _ _ y.1, y.2.mono sI (Pre.refl m)⟩)
    | ins C es =>
      obtain ⟨q1, dx, us, q2, q3, q4, q5, q6⟩ := q
      exact ⟨by rw [upd_ne na]; exact q1, dx, us, by rw [upd_ne (ne_of q4 hH (by intro y; cases y))]; exact q2, q3, q4, q5, q6.mono sI (Pre.refl m)⟩
    | frz d => exact ⟨by rw [upd_ne na]; exact q.1, q.2.mono sI (Pre.refl m)⟩
/-- a block's target: it stores at the block's own places alone -/
def Good (g0 : TG) (js : List Nat) : Prop := ∀ (v : V) (σ : St) (H : Hp) (Q : St → Hp → Prop), g0 v (wipe σ js) H Q → g0 v (wipe σ js) H fun σ2 H2 => wipe σ2 js = wipe σ js ∧ Q σ2 H2
theorem wipe_get (σ : St) (i : Nat) : ∀ js : List Nat, (wipe σ js)[i]? = if i ∈ js then (if i < σ.length then some none else none) else σ[i]?
  | [] => by simp [wipe]
  | j :: js => by
    unfold wipe
    by_cases hj : j = i
    · subst hj
      by_cases hl : j < σ.length
      · rw [List.getElem?_set_self (by rw [wipe_length]; exact hl)]
        simp [hl]
      · rw [List.getElem?_eq_none (by rw [List.length_set, wipe_length]; omega)]
        simp [hl]
    · rw [List.getElem?_set_ne hj, wipe_get σ i js]
      have : i ∈ j :: js ↔ i ∈ js := by simp [Ne.symm hj]
      simp [this]
theorem wipe_again (σ : St) (js : List Nat) : wipe (wipe σ js) js = wipe σ js := by
  apply List.ext_getElem?
  intro i
  rw [wipe_get, wipe_length, wipe_get]
  by_cases h : i ∈ js <;> simp [h]
theorem wipe_set (σ : St) (js : List Nat) {i : Nat} (h : i ∈ js) (x : Option V) : wipe (σ.set i x) js = wipe σ js := by
  apply List.ext_getElem?
  intro k
  rw [wipe_get, wipe_get, List.length_set]
  by_cases hk : k ∈ js
  · simp [hk]
  · have : i ≠ k := fun e => hk (e ▸ h)
    simp [hk, List.getElem?_set_ne this]
theorem good_name {i : Nat} {js : List Nat} (h : i ∈ js) : Good (gName i) js := fun v σ H Q q => ⟨by rw [wipe_set _ _ h, wipe_again], q⟩
def W0 : WX := fun _ _ _ _ => False
theorem takesW0 {X : Cx} : Takes X W0 := fun u s' ⟨_, _, _, _, _, _, _, _, _, _, _, _, _, _, _, _, z⟩ => z.elim
theorem lc_read {K : PySem.W.Frag} {W : WX} {fi : MI} {g : MG} {ft : MT} {fe : ME} {js : List Nat} {g0 : TG} (good : Good g0 js) (rg : ∀ v σ H Q, rdG K W0 g v σ H Q → g0 v σ H Q) {σ : St} {H : Hp} {Q : VK} (h : rdE K W (mLc fi js g ft fe) σ H Q) :
    tLc (rdI K W fi) g0 (rdT K W0 ft) (rdE K W0 fe) js σ H Q := by
  obtain ⟨I, m, l, c, R, L, A⟩ := h
  refine ⟨I, m, l, c, R, L, After.mono (After.bind (rep := rI' K) A) fun J H1 ⟨I1, m1, c1, ds, E1, R1, w1, A1⟩ => ?_⟩
  intro Dn hD
  have nI := R1.same.free hD
  have nm := R1.fresh hD
  refine ⟨fun i n H => ∃ I' m' c' acc vs, n = ds.length - i ∧ Ext I1 m1 H1 I' m' H ∧ Rel K I' H m' c' ∧ Reps K I' m' vs acc ∧ H Dn = some (.lst vs) ∧ I' Dn = none ∧ Dn ∉ m' ∧
    After (rD K) K I1 m1 H1 (fun cls dd H' => W cls dd σ H') Q ((compD g ft fe (wipeL l js) (ds.drop i) acc c').bind fun xs c2 => .ok (.lst xs) c2),
    ⟨_, I1, m1, c1, [], [], rfl, ⟨Same.refl _, Pre.refl _, fun b o h1 hT h2 h3 => ⟨by rw [upd_ne (ne_of_none h1 hD)]; exact h1, h2, h3⟩⟩, R1.side (vs := []) (.inl hD) nI nm, .nil, upd_same, nI, nm, A1⟩, ?_⟩
  rintro i n H' ⟨I', m', c', acc, vs, rfl, E', R', p', hH', hI', hm', A'⟩
  obtain ⟨wg, ws⟩ := w1 i I' H' m' c' E'.same E'.pre R'
  cases q : ds[i]? with
  | none =>
    have hi : ds.length ≤ i := List.getElem?_eq_none_iff.mp q
    rw [List.drop_eq_nil_of_le hi] at A'
    refine .inl ⟨ws hi, ?_⟩
    have sI : Same I' (upd I' Dn (.lst vs)) := fun b o e => by rw [upd_ne (ne_of_none e hI')]; exact e
    refine A' (upd I' Dn (.lst vs)) m' H' (.ref Dn) ⟨E'.same.trans sI, E'.pre, fun b o h1 hT h2 h3 => ?_⟩ (R'.adopt hH' hI' hm') (.lst upd_same (p'.mono sI (Pre.refl _)))
    obtain ⟨q1, q2, q3⟩ := E'.fr b o h1 hT h2 h3
    exact ⟨q1, by rw [upd_ne (ne_of_none h1 hD)]; exact q2, q3⟩
  | some d =>
    have hi : i < ds.length := (List.getElem?_eq_some_iff.mp q).1
    have hd : ds.drop i = d :: ds.drop (i + 1) := by
      rw [List.drop_eq_getElem_cons hi, (List.getElem?_eq_some_iff.mp q).2]
    rw [hd] at A'
    obtain ⟨go, yl⟩ := wg d q
    refine .inr ⟨go, fun H2 => ∃ I2 m2 c2 acc2 vs2, Ext I1 m1 H1 I2 m2 H2 ∧ Rel K I2 H2 m2 c2 ∧ Reps K I2 m2 vs2 acc2 ∧ H2 Dn = some (.lst vs2) ∧ I2 Dn = none ∧ Dn ∉ m2 ∧
      After (rD K) K I1 m1 H1 (fun cls dd H' => W cls dd σ H') Q ((compD g ft fe (wipeL l js) (ds.drop (i + 1)) acc2 c2).bind fun xs c2 => .ok (.lst xs) c2),
      fun H2 ⟨I2, m2, c2, acc2, vs2, e2, r2, pp2, h2, i2, n2, a2⟩ => ⟨ds.length - (i + 1), by omega, I2, m2, c2, acc2, vs2, rfl, e2, r2, pp2, h2, i2, n2, a2⟩, fun x H3 y => ?_⟩
    obtain ⟨I3, E3, R3, p3⟩ := yl x H3 y
    have Lw := ((locs_wipe L js).ext E1).ext (E'.trans E3)
    have A3 : After (rD K) K I1 m1 H1 (fun cls dd H' => W cls dd σ H') Q (((g d (wipeL l js) c').nox.bind fun l1 c1 => (ft l1 c1).nox.bind fun k c2 => match k with
      | true => (fe l1 c2).nox.bind fun x c3 => if acc.length < sizeLine then compD g ft fe (wipeL l js) (ds.drop (i + 1)) (acc ++ [x]) c3 else .stuck
      | false => compD g ft fe (wipeL l js) (ds.drop (i + 1)) acc c2).bind fun xs c2 => .ok (.lst xs) c2) := A'
    have asc : ∀ {α β γ : Type} (r : Mi.R α) (f : α → Cs → Mi.R β) (h : β → Cs → Mi.R γ), (r.bind f).bind h = r.bind fun a c => (f a c).bind h := fun r f h => by cases r <;> rfl
    rw [asc] at A3
    refine good x σ H3 _ (rg _ _ _ _ ⟨I3, m', wipeL l js, c', d, R3, Lw, p3, After.mono (After.nox (After.bindAt (rep := rL K) A3 (E'.trans E3))) fun σ4 H4 ⟨I4, m4, c4, l4, E4, R4, L4, A4⟩ => ?_⟩)
    rw [asc] at A4
    have EE := (E'.trans E3).trans E4
    refine ⟨I4, m4, l4, c4, R4, L4, After.mono (After.nox (After.bindAt (rep := rB) A4 EE)) fun b H5 ⟨I5, m5, c5, b5, E5, R5, p5, A5⟩ => ?_⟩
    cases (show b = b5 from p5)
    have F5 := (E3.trans E4).trans E5
    cases b with
    | false =>
      obtain ⟨f1, f2, f3⟩ := F5.fr _ _ hH' ⟨⟨(fun _ z => nomatch z), (fun _ z => nomatch z)⟩, (fun _ z => nomatch z)⟩ hI' hm'
      exact iteF ⟨I5, m5, c5, acc, vs, EE.trans E5, R5, p'.ext F5, f1, f2, f3, A5⟩
    | true =>
      have A6 : After (rD K) K I1 m1 H1 (fun cls dd H' => W cls dd σ H') Q (((fe l4 c5).nox.bind fun x c3 => if acc.length < sizeLine then compD g ft fe (wipeL l js) (ds.drop (i + 1)) (acc ++ [x]) c3 else .stuck).bind fun xs c2 => .ok (.lst xs) c2) := A5
      rw [asc] at A6
      have L4' : Locs K I4 m4 σ4 l4 := L4
      refine iteT ⟨I5, m5, l4, c5, R5, L4'.ext E5, After.mono (After.nox (After.bindAt (rep := rD K) A6 (EE.trans E5))) fun z H7 ⟨I7, m7, c7, d7, E7, R7, p7, A7⟩ => ?_⟩
      have F7 := F5.trans E7
      obtain ⟨f1, f2, f3⟩ := F7.fr _ _ hH' ⟨⟨(fun _ z => nomatch z), (fun _ z => nomatch z)⟩, (fun _ z => nomatch z)⟩ hI' hm'
      by_cases hz : acc.length < sizeLine
      · have A8 : After (rD K) K I1 m1 H1 (fun cls dd H' => W cls dd σ H') Q ((if acc.length < sizeLine then compD g ft fe (wipeL l js) (ds.drop (i + 1)) (acc ++ [d7]) c7 else .stuck).bind fun xs c2 => .ok (.lst xs) c2) := A7
        rw [if_pos hz] at A8
        refine ⟨vs, f1, by rw [p'.length]; exact hz, I7, m7, c7, acc ++ [d7], vs ++ [z], ?_, R7.side (.inr f1) f2 f3, (p'.ext F7).append (.cons p7 .nil), upd_same, f2, f3, A8⟩
        have G := (EE.trans E5).trans E7
        refine ⟨G.same, G.pre, fun b o h1 hT h2 h3 => ?_⟩
        obtain ⟨q1, q2, q3⟩ := G.fr b o h1 hT h2 h3
        exact ⟨by rw [upd_ne (ne_of_none h1 hD)]; exact q1, q2, q3⟩
      · have A8 : After (rD K) K I1 m1 H1 (fun cls dd H' => W cls dd σ H') Q ((if acc.length < sizeLine then compD g ft fe (wipeL l js) (ds.drop (i + 1)) (acc ++ [d7]) c7 else .stuck).bind fun xs c2 => .ok (.lst xs) c2) := A7
        rw [if_neg hz] at A8
        exact A8.elim
end L2.Mi

namespace L2.Mi
open PySem PySem.Spec PyProof.Rows L2

section
variable {K : PySem.W.Frag}
/-! ### isinstance, of built-in types -/
def tyD (d : D) (c : Cs) : Option String := match d with
  | .non => some "NoneType"
  | .bl _ => some "bool"
  | .int _ => some "int"
  | .str _ => some "str"
  | .lst _ => some "list"
  | .ro _ => some "list"
  | .tup _ => some "tuple"
  | .dct _ => some "dict"
  | .ref k => match c[k]? with
    | some (.lst _) => some "list"
    | some (.dct _) => some "dict"
    | some (.frz (.lst _)) => some "list"
    | _ => none
  | _ => none
def tyNames : List String := ["NoneType", "bool", "int", "str", "list", "tuple", "dict"]
def isT (t n : String) : Bool := t == n || (t == "bool" && n == "int")
theorem kit_tab : ∀ t ∈ tyNames, ∀ n ∈ tyNames, kitB t n = some (isT t n) := by decide +kernel
theorem tyD_mem {d : D} {c : Cs} {t : String} (h : tyD d c = some t) : t ∈ tyNames := by
  unfold tyD at h
  split at h <;> first
    | (cases h; decide)
    | (split at h <;> first | (cases h; decide) | cases h)
    | cases h
theorem tyL {I H : Hp} {m : List Addr} {a : Addr} {vs : List V} (s : Same I H) (h : SqL K I a vs) : TyX K H (.ref a) (.type "list") := by
  rcases s.seq h with (h | ⟨o, h⟩) | ⟨o, its, n, h1, h2, _⟩
  · exact .base (.lst h)
  · exact .base (.frz h)
  · exact .kList h1 h2
theorem tyT {I H : Hp} {m : List Addr} {a : Addr} {vs : List V} (s : Same I H) (h : SqT K I a vs) : TyX K H (.ref a) (.type "tuple") := by
  rcases sqT_same s h with (h | ⟨o, h⟩) | ⟨o, its, n, h1, h2, _⟩
  · exact .base (.tup h)
  · exact .fTuple h
  · exact .kTuple h1 h2
theorem tyD_is {I H : Hp} {m : List Addr} {c : Cs} {v : V} {d : D} {t : String} (R : Rel K I H m c) (p : Rep K I m v d) (h : tyD d c = some t) : TyX K H v (.type t) := by
  cases p with
  | non => cases h; exact .base .non
  | bl b => cases h; exact .base (.bl b)
  | int i => cases h; exact .base (.int i)
  | str s => cases h; exact .base (.str s)
  | lst q r => cases h; exact .base (.lst (R.same _ _ q))
  | ro q r => cases h; exact tyL (m := m) R.same q
  | tup q r => cases h; exact tyT (m := m) R.same q
  | dct q r => cases h; exact .base (.dK (R.same _ _ q))
  | @ref k a q =>
    have h : (match c[k]? with
      | some (.lst _) => some "list"
      | some (.dct _) => some "dict"
      | some (.frz (.lst _)) => some "list"
      | _ => none) = some t := h
    cases e : c[k]? with
    | none => rw [e] at h; cases h
    | some x =>
      rw [e] at h
      have hc := R.cell k a x q e
      cases x with
      | lst ds => cases h; obtain ⟨_, vs, h1, _⟩ := hc; exact .base (.lst h1)
      | dct ds => cases h; obtain ⟨_, vs, h1, _⟩ := hc; exact .base (.dK h1)
      | frz d =>
        cases d with
        | lst ds =>
          cases h
          obtain ⟨_, hr⟩ := hc
          cases hr with
          | lst h1 h2 => exact .base (.lst (R.same _ _ h1))
        | _ => cases h
      | _ => cases h
  | _ => cases h
/-- the classes that are asked: one, or a tuple of them -/
def clsL : List D → Option (List String)
  | [] => some []
  | .ty n :: r => match clsL r with
    | some ns => some (n :: ns)
    | none => none
  | _ :: _ => none
def isiAny (t : String) (ns : List String) : Bool := ns.any fun n => isT t n
def isiD : List D → Cs → R D
  | [x, .ty n], c => match tyD x c with
    | some t => if n ∈ tyNames then .ok (.bl (isT t n)) c else .stuck
    | none => .stuck
  | [x, .tup cs], c => match tyD x c with
    | some t => match clsL cs with
      | some ns => if (∀ n ∈ ns, n ∈ tyNames) then .ok (.bl (isiAny t ns)) c else .stuck
      | none => .stuck
    | none => .stuck
  | _, _ => .stuck
/-- .. of a tuple of classes that stands anywhere -/
def rIsiQ (K : PySem.W.Frag) : List V → Hp → VK → Prop := fun xs H Q => ∃ (x : V) (tp : Addr) (cs : List V) (t : Value) (us : List Value) (b : Bool), xs = [x, .ref tp] ∧ SqT K H tp cs ∧ Paired ClsV cs us ∧ TyX K H x t ∧ PySem.W.kitAny K t us = some b ∧ Q (.bl b) H
theorem call_isiQ {X : Cx} : CallR X (.builtin "isinstance") (rIsiQ X.K) := fun pins s σ H xs us Q I r h => by
  obtain ⟨x, tp, cs, t, ws, b, rfl, hT, k, ty, e, q⟩ := h
  obtain ⟨u1, u2, rfl, r1, r2⟩ := vals2 r
  cases (show u2 = Value.ref tp from r2)
  obtain ⟨P, Z, p, hx⟩ := kit_of I r1 ty
  obtain ⟨its, rv, ⟨o, h1, h2, n, h3⟩, _⟩ := I.tuple hT
  cases ClsV.all k rv
  obtain ⟨oc, od, dt, sl⟩ := o
  cases h2
  cases h3
  exact PySem.W.kia_tup Z I.kIn p h1 e hx fun tk => ⟨.bl b, H, I.tok tk, rfl, q⟩
def rIsiA (K : PySem.W.Frag) : List V → Hp → VK → Prop := fun xs H Q => rIsi K xs H Q ∨ rIsiQ K xs H Q
theorem call_isiA {X : Cx} : CallR X (.builtin "isinstance") (rIsiA X.K) := call_isi.or call_isiQ
theorem kitAny_tab (K : PySem.W.Frag) {t : String} (ht : t ∈ tyNames) : ∀ {ns : List String}, (∀ n ∈ ns, n ∈ tyNames) → PySem.W.kitAny K (.type t) (ns.map Value.type) = some (isiAny t ns)
  | [], _ => rfl
  | n :: ns, h => by
    have h1 := kit_tab t ht n (h n List.mem_cons_self)
    have h2 := kitAny_tab K ht (ns := ns) fun k hk => h k (List.mem_cons_of_mem _ hk)
    have e : isiAny t (n :: ns) = (isT t n || isiAny t ns) := rfl
    refine kitAny_cons (kit_ty h1) (fun hb => ?_) (fun hb => by rw [e, hb]; rfl)
    rw [h2, e, hb]
    rfl
theorem cls_paired {I : Hp} {m : List Addr} : ∀ {vs : List V} {ds : List D} {ns : List String}, Reps K I m vs ds → clsL ds = some ns → Paired ClsV vs (ns.map Value.type)
  | _, _, _, .nil, e => by cases e; exact .nil
  | _, _, _, .cons (d := d) (ds := ds) h t, e => by
    cases h with
    | ty n =>
      unfold clsL at e
      cases q : clsL ds with
      | none => rw [q] at e; cases e
      | some ks => rw [q] at e; cases e; exact .cons (.ty n) (cls_paired t q)
    | _ => simp [clsL] at e
theorem cs_isi : CallS K (rIsiA K) isiD := fun I H m c vs ds W Q R p A => by
  cases p with
  | nil => exact A.elim
  | @cons v _ d _ h t =>
    cases t with
    | nil => exact A.elim
    | @cons v2 _ d2 _ h2 t2 =>
      cases t2 with
      | cons _ _ => cases h2 <;> exact A.elim
      | nil =>
        cases h2 with
        | ty n =>
          have A2 : After (rD K) K I m H W Q (match tyD d c with
            | some t => if n ∈ tyNames then .ok (.bl (isT t n)) c else .stuck
            | none => .stuck) := A
          cases e : tyD d c with
          | none => rw [e] at A2; exact A2.elim
          | some t =>
            rw [e] at A2
            by_cases hn : n ∈ tyNames
            · have A3 : After (rD K) K I m H W Q (if n ∈ tyNames then .ok (.bl (isT t n)) c else .stuck) := A2
              rw [if_pos hn] at A3
              exact .inl ⟨v, .ty n, .type t, .type n, _, rfl, .ty n, tyD_is R h e, kit_ty (kit_tab t (tyD_mem e) n hn), A3.here R (.bl _)⟩
            · have A3 : After (rD K) K I m H W Q (if n ∈ tyNames then .ok (.bl (isT t n)) c else .stuck) := A2
              rw [if_neg hn] at A3
              exact A3.elim
        | @tup tp ws cs hs hr =>
          have A2 : After (rD K) K I m H W Q (match tyD d c with
            | some t => match clsL cs with
              | some ns => if (∀ n ∈ ns, n ∈ tyNames) then .ok (.bl (isiAny t ns)) c else .stuck
              | none => .stuck
            | none => .stuck) := A
          cases e : tyD d c with
          | none => rw [e] at A2; exact A2.elim
          | some t =>
            rw [e] at A2
            cases e2 : clsL cs with
            | none =>
              have A3 : After (rD K) K I m H W Q (match clsL cs with
                | some ns => if (∀ n ∈ ns, n ∈ tyNames) then .ok (.bl (isiAny t ns)) c else .stuck
                | none => .stuck) := A2
              rw [e2] at A3
              exact A3.elim
            | some ns =>
              have A3 : After (rD K) K I m H W Q (match clsL cs with
                | some ns => if (∀ n ∈ ns, n ∈ tyNames) then .ok (.bl (isiAny t ns)) c else .stuck
                | none => .stuck) := A2
              rw [e2] at A3
              by_cases hn : ∀ n ∈ ns, n ∈ tyNames
              · have A4 : After (rD K) K I m H W Q (if (∀ n ∈ ns, n ∈ tyNames) then .ok (.bl (isiAny t ns)) c else .stuck) := A3
                rw [if_pos hn] at A4
                have hq := A4.here R (Rep.bl _)
                exact .inr ⟨v, tp, ws, .type t, ns.map Value.type, _, rfl, sqT_same R.same hs, cls_paired hr e2, tyD_is R h e, kitAny_tab K (tyD_mem e) hn, hq⟩
              · have A4 : After (rD K) K I m H W Q (if (∀ n ∈ ns, n ∈ tyNames) then .ok (.bl (isiAny t ns)) c else .stuck) := A3
                rw [if_neg hn] at A4
                exact A4.elim
        | _ => exact A.elim
end
end L2.Mi

namespace L2.Mi
open PySem PySem.Spec PyProof.Rows L2

section
variable {K : PySem.W.Frag}
theorem one_arg {I H : Hp} {m : List Addr} {c : Cs} {W : XK} {Q : VK} {vs : List V} {ds : List D} {G : List D → Cs → R D} (g : D → Cs → R D) (h0 : ∀ c, G [] c = .stuck) (h1 : ∀ x c, G [x] c = g x c) (h2 : ∀ x y r c, G (x :: y :: r) c = .stuck)
    (p : Reps K I m vs ds) (A : After (rD K) K I m H W Q (G ds c)) : ∃ v d, vs = [v] ∧ ds = [d] ∧ Rep K I m v d ∧ After (rD K) K I m H W Q (g d c) := by
  cases p with
  | nil => rw [h0] at A; exact A.elim
  | cons h t =>
    cases t with
    | nil => rw [h1] at A; exact ⟨_, _, rfl, rfl, h, A⟩
    | cons h' t' => rw [h2] at A; exact A.elim
def on1 (g : D → Cs → R D) : List D → Cs → R D
  | [x], c => g x c
  | _, _ => .stuck
theorem on1_arg {I H : Hp} {m : List Addr} {c : Cs} {W : XK} {Q : VK} {vs : List V} {ds : List D} {g : D → Cs → R D} (p : Reps K I m vs ds) (A : After (rD K) K I m H W Q (on1 g ds c)) : ∃ v d, vs = [v] ∧ ds = [d] ∧ Rep K I m v d ∧ After (rD K) K I m H W Q (g d c) :=
  one_arg g (fun _ => rfl) (fun _ _ => rfl) (fun _ _ _ _ => rfl) p A

/-! ### repr -/
/-! ### all, any of a list of bools -/
def blsOf : List D → Option (List Bool)
  | [] => some []
  | .bl b :: r => match blsOf r with
    | some bs => some (b :: bs)
    | none => none
  | _ :: _ => none
theorem bls_reps {I : Hp} {m : List Addr} : ∀ {vs : List V} {ds : List D} {bs : List Bool}, Reps K I m vs ds → blsOf ds = some bs → vs = bs.map V.bl
  | _, _, _, .nil, e => by cases e; rfl
  | _, _, _, .cons (d := d) (ds := ds) h t, e => by
    cases h with
    | bl b =>
      unfold blsOf at e
      cases q : blsOf ds with
      | none => rw [q] at e; cases e
      | some ks => rw [q] at e; cases e; rw [bls_reps t q]; rfl
    | _ => simp [blsOf] at e
def allP (f : List Bool → Bool) (d : D) (c : Cs) : R D := match d with
  | .lst ds => match blsOf ds with
    | some bs => .ok (.bl (f bs)) c
    | none => .stuck
  | _ => .stuck
def allD : List D → Cs → R D := on1 (allP fun bs => bs.all id)
theorem all_read {I H : Hp} {m : List Addr} {c : Cs} {W : XK} {Q : VK} {vs : List V} {ds : List D} {f : List Bool → Bool} (R : Rel K I H m c) (p : Reps K I m vs ds) (A : After (rD K) K I m H W Q (on1 (allP f) ds c)) : ∃ (a : Addr) (bs : List Bool), vs = [V.ref a] ∧ SqL K H a (bs.map V.bl) ∧ Q (.bl (f bs)) H := by
  obtain ⟨v, d, rfl, rfl, p, A⟩ := on1_arg p A
  cases p with
  | @lst a ws es h r =>
    have A2 : After (rD K) K I m H W Q (match blsOf es with
      | some bs => .ok (.bl (f bs)) c
      | none => .stuck) := A
    cases q : blsOf es with
    | none => rw [q] at A2; exact A2.elim
    | some bs =>
      rw [q] at A2
      exact ⟨a, bs, rfl, by rw [← bls_reps r q]; exact SqL.of (R.same _ _ h), A2.here R (.bl _)⟩
  | _ => exact A.elim
theorem cs_all : CallS K (rAll K) allD := fun I H m c vs ds W Q R p A => all_read R p A
/-! ### methods of texts: of none, of one argument -/
def strsOf : List D → Option (List Str)
  | [] => some []
  | .str b :: r => match strsOf r with
    | some bs => some (b :: bs)
    | none => none
  | _ :: _ => none
theorem strs_reps {I : Hp} {m : List Addr} : ∀ {vs : List V} {ds : List D} {bs : List Str}, Reps K I m vs ds → strsOf ds = some bs → vs = bs.map V.str
  | _, _, _, .nil, e => by cases e; rfl
  | _, _, _, .cons (d := d) (ds := ds) h t, e => by
    cases h with
    | str b =>
      unfold strsOf at e
      cases q : strsOf ds with
      | none => rw [q] at e; cases e
      | some ks => rw [q] at e; cases e; rw [strs_reps t q]; rfl
    | _ => simp [strsOf] at e
def joinL (a : Str) (ds : List D) (c : Cs) : R D := match strsOf ds with
  | some ys => if (ys.map (·.length)).sum + ys.length * a.length ≤ 16777216 then .ok (.str (Txt.join a ys)) c else .stuck
  | none => .stuck
def joinD : D → D → Cs → R D
  | .str a, .lst ds, c => joinL a ds c
  | .str a, .tup ds, c => joinL a ds c
  | _, _, _ => .stuck
/-- a text's method of one argument: what is asked of the values -/
def M1S (K : PySem.W.Frag) (r : V → List V → Hp → VK → Prop) (g : D → D → Cs → R D) : Prop := ∀ (I H : Hp) (m : List Addr) (c : Cs) (v1 v2 : V) (d1 d2 : D) (W : XK) (Q : VK),
  Rel K I H m c → Rep K I m v1 d1 → Rep K I m v2 d2 → After (rD K) K I m H W Q (g d1 d2 c) → r v1 [v2] H Q
/-- the receiver is looked at first: it must be a text -/
def mM1 (g : D → D → Cs → R D) (a b : ME) : ME := fun l c => (a l c).bind fun x c1 => match x with
  | .str s => (b l c1).bind fun y c2 => g (.str s) y c2
  | _ => .stuck
theorem m1_read {W : WX} {fa fb : ME} {r : V → List V → Hp → VK → Prop} {g : D → D → Cs → R D} {σ : St} {H : Hp} {Q : VK} (hs : M1S K r g) (h : rdE K W (mM1 g fa fb) σ H Q) : tM1 r (rdE K W fa) (rdE K W fb) σ H Q := by
  obtain ⟨I, m, l, c, R, L, A⟩ := h
  refine ⟨I, m, l, c, R, L, After.mono (After.bind (rep := rD K) A) fun v1 H1 ⟨I1, m1, c1, d1, E1, R1, p1, A1⟩ => ?_⟩
  cases p1 with
  | str s =>
    refine ⟨⟨s, rfl⟩, I1, m1, l, c1, R1, L.ext E1, After.mono (After.bind (rep := rD K) (show After (rD K) K I1 m1 H1 (fun cls dd H' => W cls dd σ H') Q ((fb l c1).bind fun y c2 => g (.str s) y c2) from A1)) fun v2 H2 ⟨I2, m2, c2, d2, E2, R2, p2, A2⟩ => ?_⟩
    exact hs _ _ _ _ _ _ _ _ _ _ R2 (Rep.str s) p2 A2
  | _ => exact A1.elim
theorem me_m1 {X : Cx} {W : WX} {e : Expr} {fa fb : ME} {r : V → List V → Hp → VK → Prop} {g : D → D → Cs → R D} (h : PE X e (tM1 r (rdE X.K W fa) (rdE X.K W fb))) (hs : M1S X.K r g) : PE X e (rdE X.K W (mM1 g fa fb)) := PEi h fun _ _ _ q => m1_read hs q
theorem m1_join : M1S K (fun x xs H Q => ∃ a p, ∃ ys : List Str, x = .str a ∧ xs = [.ref p] ∧ (SqL K H p (ys.map V.str) ∨ SqT K H p (ys.map V.str)) ∧ (ys.map (·.length)).sum + ys.length * a.length ≤ 16777216 ∧ Q (.str (Txt.join a ys)) H) joinD :=
  fun I H m c v1 v2 d1 d2 W Q R p1 p2 A => by
    cases p1 with
    | str a =>
      have go : ∀ {p : Addr} {vs : List V} {ds : List D}, v2 = .ref p → (SqL K H p vs ∨ SqT K H p vs) → Reps K I m vs ds → After (rD K) K I m H W Q (joinL a ds c) → _ := fun {p vs ds} e hq r A => by
        unfold joinL at A
        cases q : strsOf ds with
        | none => rw [q] at A; exact A.elim
        | some ys =>
          rw [q] at A
          by_cases hz : (ys.map (·.length)).sum + ys.length * a.length ≤ 16777216
          · have A2 : After (rD K) K I m H W Q (if (ys.map (·.length)).sum + ys.length * a.length ≤ 16777216 then .ok (.str (Txt.join a ys)) c else .stuck) := A
            rw [if_pos hz] at A2
            exact (show ∃ a' p, ∃ ys : List Str, V.str a = .str a' ∧ [v2] = [.ref p] ∧ (SqL K H p (ys.map V.str) ∨ SqT K H p (ys.map V.str)) ∧ (ys.map (·.length)).sum + ys.length * a'.length ≤ 16777216 ∧ Q (.str (Txt.join a' ys)) H from
              ⟨a, p, ys, rfl, by rw [e], by rw [← strs_reps r q]; exact hq, hz, A2.here R (.str _)⟩)
          · have A2 : After (rD K) K I m H W Q (if (ys.map (·.length)).sum + ys.length * a.length ≤ 16777216 then .ok (.str (Txt.join a ys)) c else .stuck) := A
            rw [if_neg hz] at A2
            exact A2.elim
      cases p2 with
      | lst h r => exact go rfl (.inl (SqL.of (R.same _ _ h))) r A
      | tup h r => exact go rfl (.inr (sqT_same R.same h)) r A
      | _ => exact A.elim
    | _ => cases p2 <;> exact A.elim
end

/-! ### own defs -/
/-- the def at f does what g says -/
structure GFn (P : Program) (w : World) (K : PySem.W.Frag) (mg : Str → Option Value) (base : Heap) (k : Nat) (f : Addr) (fd : FuncData) (ps : List Str) (g : List D → Cs → R D) : Prop where
  len : ∀ ds c, g ds c ≠ .stuck → ds.length = ps.length
  run : ∀ (A : Around) (outer : List Env) (s : Shared) (H : Hp) (args : Args) (us : List Value) (vs : List V) (Q : VK) (E : XK) (I : Hp) (m : List Addr) (c : Cs) (ds : List D), Room k A → A.guards = some [] → Env0 P w K mg base A outer s H →
    BindsTo s fd args (ps.zip us) → Vals vs us → Rel K I H m c → Reps K I m vs ds → After (rD K) K I m H E Q (g ds c) → codeAny (model P w) A (.call (.ref f) args) (CR (CX P w) outer P w H s Q E) s
theorem GFn.mono {P : Program} {w : World} {K : PySem.W.Frag} {mg : Str → Option Value} {base : Heap} {j k : Nat} {f : Addr} {fd : FuncData} {ps : List Str} {g : List D → Cs → R D} (F : GFn P w K mg base j f fd ps g) (h : j ≤ k) : GFn P w K mg base k f fd ps g :=
  ⟨F.len, fun A outer s H args us vs Q E I m c ds hr => F.run A outer s H args us vs Q E I m c ds (hr.mono h)⟩
/-- a body, run from the arguments: n names, a of them parameters -/
def mFun (n a : Nat) (b : MS) : List D → Cs → R D := fun ds c => if ds.length = a then (match b (ds.map some ++ List.replicate (n - a) none) c with
  | .go (.rt d) c' => .ok d c'
  | .go (.nx _) c' => .ok .non c'
  | .exc x _ c' => .exc x c'
  | _ => .stuck) else .stuck
theorem after_nonstuck {α β : Type} {rep : Hp → List Addr → β → α → Prop} {K : PySem.W.Frag} {I H : Hp} {m : List Addr} {W : XK} {Q : β → Hp → Prop} {r : R α} (a : After rep K I m H W Q r) : r ≠ .stuck := fun e => by
  rw [e] at a
  exact a
theorem locs_start {K : PySem.W.Frag} {I : Hp} {m : List Addr} {N : List Str} : ∀ {vs : List V} {ds : List D}, Reps K I m vs ds → Locs K I m (start N vs) (ds.map some ++ List.replicate (N.length - ds.length) none) := fun {vs ds} r => by
  refine ⟨by unfold start; simp [r.length], fun i d h => ?_⟩
  by_cases hi : i < ds.length
  · rw [List.getElem?_append_left (by simpa using hi), List.getElem?_map] at h
    cases q : ds[i]? with
    | none => rw [q] at h; cases h
    | some e =>
      rw [q] at h
      cases h
      obtain ⟨v, h1, h2⟩ := r.get q
      refine ⟨v, ?_, h2⟩
      unfold start
      rw [List.getElem?_append_left (by rw [List.length_map, r.length]; exact hi), List.getElem?_map, h1]
      rfl
  · rw [List.getElem?_append_right (by simpa using hi), List.getElem?_replicate] at h
    split at h <;> cases h
/-- THE RULE: a def by its body -/
theorem gfn_ofE {P : Program} {w : World} {K : PySem.W.Frag} {mg : Str → Option Value} {base : Heap} {k : Nat} {x qual : Str} {st : Stmt} {f : Addr} {fd : FuncData} {N ps : List Str} {b : MS} (F : Fun K x qual st f fd) (S : FnScope N ps (defScope st))
    (hb : ∀ (cdv : Value), fd.code = cdv → ∀ (A : Around) (outer : List Env) (s : Shared) (H : Hp) (E : XK), Room k (A.deeper (envOfC qual (defScope st) s.heap.objs.size f cdv)) → A.guards = some [] →
      PSs (cxOf (CX P w) P w K mg base N qual (defScope st) f cdv A outer s H E) (defBody st) (rdS K (fun cls d _ H' => E cls d H') b)) : GFn P w K mg base (k + 1) f fd ps (mFun N.length ps.length b) := by
  obtain ⟨oc, od, kV, doc, pm, an, cdv, ct, osl, rfl, lk, hcd⟩ := F.ex
  have len : ∀ ds c, mFun N.length ps.length b ds c ≠ .stuck → ds.length = ps.length := fun ds c h => by
    by_cases hl : ds.length = ps.length
    · exact hl
    · exact absurd (show mFun N.length ps.length b ds c = .stuck from if_neg hl) h
  refine ⟨len, fun A outer s H args us vs Q E I m c ds hr hg e0 hbd rv R p a => ?_⟩
  have hl := len ds c (after_nonstuck a)
  have hlv : vs.length = ps.length := p.length.trans hl
  have KX : K.In s.heap := e0.mod.kin.keeps fun b o e => (e0.bs b o e).1
  have lim : s.heap.NoLimit := e0.mod.nolimit.keeps fun b o e => (e0.bs b o e).1
  have hkind : ∀ y ∈ ps.zip us, (defScope st).names.lookup y.1 = some .local ∨ ((defScope st).names.lookup y.1 = some .cell ∧ ((cellsFrom (s.heap.objs.size + 1) (defScope st).names []).lookup y.1).isSome = true) := fun ⟨n, v⟩ hy => by
    rcases S.par n (List.of_mem_zip hy).1 with q | q
    · exact Or.inl q
    · exact Or.inr ⟨q, PySem.W.cellsFrom_some _ _ _ (Or.inl q)⟩
  refine codeAny_call_function hr.depth (KX _ _ lk) rfl S.co S.gen rfl (PySem.W.codeRec_of KX hcd) (hbd _ _ _ _ ?_)
  refine wpAny_newFunctionEnv_cells S.kind hkind fun env he s1 y => ?_
  subst he
  refine ⟨lim.keeps y.toInCall.keep, codeAny_func ?_⟩
  have J := inv_start (CX := CX P w) (E := E) (cd := cdv) (qual := qual) (f := f) S hr.hd e0 hlv rv y
  have a2 : After (rD K) K I m H E Q (match b (ds.map some ++ List.replicate (N.length - ps.length) none) c with
    | .go (.rt d) c' => .ok d c'
    | .go (.nx _) c' => .ok .non c'
    | .exc x _ c' => .exc x c'
    | _ => .stuck) := by
    have e : mFun N.length ps.length b ds c = _ := if_pos hl
    rw [e] at a
    exact a
  have hst : rdS K (fun cls d _ H' => E cls d H') b { nx := fun _ H' => Q .non H', rt := Q } (start N vs) H := by
    refine ⟨I, m, ds.map some ++ List.replicate (N.length - ps.length) none, c, R, by rw [← hl]; exact locs_start p, ?_⟩
    cases q : b (ds.map some ++ List.replicate (N.length - ps.length) none) c with
    | stuck => rw [q] at a2; exact a2.elim
    | exc x l' c' => rw [q] at a2; exact fun I' m' H' σ' cls dd e' r' _ px => a2 I' m' H' cls dd e' r' px
    | go fl c' =>
      rw [q] at a2
      cases fl with
      | nx l' => exact fun I' m' H' σ' e' r' _ => a2 I' m' H' .non e' r' Rep.non
      | rt d => exact fun I' m' H' v e' r' pv => a2 I' m' H' v e' r' pv
      | bk l' => exact a2.elim
      | ct l' => exact a2.elim
  refine wpAny_mono ((hb cdv rfl A outer s H E (hr.deeper _) hg).run [] s1 (start N vs) H _ J hst) (fun fl s' hs => ?_) fun e s' hs => hs
  have fin : ∀ {σ' : St} {H' : Hp} {v : V} {u : Value}, Inv (cxOf (CX P w) P w K mg base N qual (defScope st) f cdv A outer s H E) [] σ' H' s' → RelV v u → Q v H' → CE outer P w H s Q u s' :=
    fun {σ' H' v u} Z rv q => ⟨v, H', Z.os, Z.bare, Z.base, Z.hok, rv, q⟩
  cases fl with
  | ret u =>
    obtain ⟨v, σ', H', Z, rv, q⟩ := hs
    exact fin Z rv q
  | next =>
    obtain ⟨σ', H', Z, q⟩ := hs
    exact fin (v := V.non) (u := Value.none) Z rfl q
  | brk =>
    obtain ⟨_, _, _, q⟩ := hs
    exact False.elim q
  | cont =>
    obtain ⟨_, _, _, q⟩ := hs
    exact False.elim q
/-- THE RULE: a def by its body -/
theorem gfn_of {P : Program} {w : World} {K : PySem.W.Frag} {mg : Str → Option Value} {base : Heap} {k : Nat} {x qual : Str} {st : Stmt} {f : Addr} {fd : FuncData} {N ps : List Str} {b : MS} (F : Fun K x qual st f fd) (S : FnScope N ps (defScope st))
    (hb : ∀ (cdv : Value) (A : Around) (outer : List Env) (s : Shared) (H : Hp) (E : XK), Room k (A.deeper (envOfC qual (defScope st) s.heap.objs.size f cdv)) → A.guards = some [] →
      PSs (cxOf (CX P w) P w K mg base N qual (defScope st) f cdv A outer s H E) (defBody st) (rdS K (fun cls d _ H' => E cls d H') b)) : GFn P w K mg base (k + 1) f fd ps (mFun N.length ps.length b) := gfn_ofE F S fun cdv _ => hb cdv
section
variable {X : Cx} {W : WX} {k : Nat} {f : Addr} {fd : FuncData} {ps : List Str} {g : List D → Cs → R D} {x : Str} {p pos : Pos} {e : Expr} {es : List Expr} {ga : MA}
/-- the callee runs, from a body -/
theorem run_g {pins : List (Addr × Obj)} {σ : St} {H : Hp} {s : Shared} {Q : VK} {us : List Value} {vs : List V} {I : Hp} {m : List Addr} {c : Cs} {ds : List D} (F : GFn X.prog X.w X.K X.mg X.base k f fd ps g) (hr : Room k X.A) (hgd : X.A.guards = some []) (hb : Binds X.K fd ps []) (tk : Takes X W)
    (J : Inv X pins σ H s) (r : Vals vs us) (R : Rel X.K I H m c) (p : Reps X.K I m vs ds) (a : After (rD X.K) X.K I m H (fun cls d H' => W cls d σ H') Q (g ds c)) : wpAny (model X.prog X.w) X.A (call (.ref f) us) (EP X pins σ Q) X.xe s := by
  have hl : us.length = ps.length := by rw [← r.length, p.length]; exact F.len ds c (after_nonstuck a)
  have hb2 : BindsTo s fd ⟨us, []⟩ (ps.zip us) := by
    have z := hb s us J.kIn (by rw [List.append_nil]; exact hl)
    rw [List.append_nil] at z
    exact z
  refine wpAny_call (codeAny_mono (F.run X.A X.stack s H ⟨us, []⟩ us vs Q (fun cls d H' => W cls d σ H') I m c ds hr hgd J.env0 hb2 r R p a) fun res s' hq => ?_)
  cases res with
  | error e => exact tk e s' (XE.of_call J (fun _ _ _ h => h) hq)
  | ok fl =>
    cases fl with
    | ret u => exact J.after hq
    | next => exact False.elim hq
    | brk => exact False.elim hq
    | cont => exact False.elim hq
theorem me_call (F : GFn X.prog X.w X.K X.mg X.base k f fd ps g) (hr : Room k X.A) (hgd : X.A.guards = some []) (hg : Gl X x) (hm : X.mg x = some (.ref f)) (hk : PySem.W.keepIn X.K (.ref f) = true) (hb : Binds X.K fd ps []) (tk : Takes X W)
    (ha : PA X (e :: es) (rdA X.K W ga)) (hdb : (x == ("__debug__" : Str)) = false := by decide) (he : starEach (e :: es) X.env = (false, eval e X.env) :: starEach es X.env := by rfl) (hpl : (backTo pos (starEach es X.env)).any (·.1) = false := by rfl) :
    PE X (.Call (.Name x p) (e :: es) [] pos) (rdE X.K W (mCB g ga)) := by
  refine ⟨fun pins s σ H Q J ⟨I, m, l, c, R, L, A⟩ => ?_⟩
  refine wpAny_Call_Name_kw (ld_glob J hg hm ?_ hdb)
  refine PySem.W.callWith_K (h₀ := X.base) J.ok.mod.kin hk (thn (ha.run pos pins s σ H _ J ⟨I, m, l, c, R, L, After.bind (rep := rA X.K) A⟩) fun us s1 ⟨vs, H1, J1, r, I1, m1, c1, ds, E1, R1, p1, A1⟩ => ⟨J1.kIn, ?_⟩) he hpl
  exact run_g F hr hgd hb tk J1 r R1 p1 A1
end

/-! ### the law's end -/
theorem tabs_all {q : Nat} (h : q ∈ tabsL) : q ∈ tabsA := by
  obtain ⟨p, hp, e⟩ := List.mem_map.mp h
  exact List.mem_map.mpr ⟨p, List.mem_append_left _ hp, e⟩
theorem lams_all {p : Nat × Nat × PySem.Str} (h : p ∈ lamL) : p.2.1 ∈ tabsA := List.mem_map.mpr ⟨(p.1, p.2.1), List.mem_append_right _ (List.mem_map.mpr ⟨p, h, rfl⟩), rfl⟩
theorem law_callG {P : Program} {w : World} {K : PySem.W.Frag} {mg mb : Str → Option Value} {k : Nat} {fa a : Addr} {fd : FuncData} {x : Str} {g : List D → Cs → R D} {s₁ : Shared} {vs : List Value} {ns : List Int}
    (KX : K.In s₁.heap) (hns : s₁.heap.Ns mainGlobals mg) (hb : s₁.heap.Ns builtinsNs mb) (hbb : ∀ x : Str, x ≠ "__name__" → mb x = bootBuiltins x) (hlim : s₁.heap.NoLimit) (hgen : s₁.gens = #[])
    (tE : ∀ p ∈ allL, s₁.heap.get? p.2 = some (PySem.W.tabObj #[])) (tK : ∀ p ∈ allL, K.lookup p.2 = none) (tC : ∀ p ∈ allL, PySem.W.CodeHd s₁.heap p.1 p.2)
    (hbm : ∃ (bm : Addr) (ob : Obj), mg "__builtins__" = some (.ref bm) ∧ bm ≠ builtinsNs ∧ s₁.heap.get? bm = some ob ∧ ob.cls = .type "module" ∧ ob.dict = some builtinsNs ∧ ob.data = .plain)
    (ha : s₁.heap.get? a = some { cls := .type "list", data := .seq vs.toArray }) (hi : IntsAre vs ns) (hl : ns.length ≤ sizeLine) (hr : Room k callerA)
    (F : ∀ base : Heap, K.In base → base.Ns mainGlobals mg → (∀ p ∈ allL, GxR.TabB base mg p.1 p.2) → GFn P w K mg base k fa fd [x] g) (hbind : ∀ (s : Shared) (u : Value), BindsTo s fd ⟨[u], []⟩ [(x, u)])
    (hsp : ∀ H : Hp, (∀ q ∈ tabsA, H q = some (.tbl #[])) → SqL K H a (ns.map V.int) → ∃ (I : Hp) (m : List Addr) (c : Cs) (ds : List D), Rel K I H m c ∧ Reps K I m [.ref a] ds ∧ After (rD K) K I m H (fun _ _ _ => False) (fun v _ => v = .bl true) (g ds c)) :
    codeAny (model P w) callerA (.call (.ref fa) ⟨[.ref a], []⟩) (fun r s' => r = .ok (.ret (.bool true)) ∧ OldK s₁.heap s'.heap ∧ s'.os = s₁.os ∧ AllBare s'.gens) s₁ := by
  have rv := vals_ints hi
  have mT : ∀ q ∈ tabsA, ∃ p ∈ allL, p.2 = q := fun q hq => by
    obtain ⟨p, hp, e⟩ := List.mem_map.mp hq
    exact ⟨p, hp, e⟩
  have tT : ∀ q ∈ tabsA, s₁.heap.get? q = some (PySem.W.tabObj #[]) := fun q hq => by
    obtain ⟨p, hp, rfl⟩ := mT q hq
    exact tE p hp
  have naT : a ∉ tabsA := fun z => by
    have q := tT a z
    rw [ha] at q
    exact absurd (congrArg Obj.data (Option.some.inj q)) (by intro z; cases z)
  have core : ∀ H : Hp, (∀ b o, H b = some o → (b = a ∧ ∃ ob xs, o = .frz ob (.lst xs)) ∨ (b ∈ tabsA ∧ o = .tbl #[])) → (∀ q ∈ tabsA, H q = some (.tbl #[])) → SqL K H a (ns.map V.int) → HOk P w H s₁.heap → (H a ≠ none → K.lookup a = none) →
      codeAny (model P w) callerA (.call (.ref fa) ⟨[.ref a], []⟩) (fun r s' => r = .ok (.ret (.bool true)) ∧ OldK s₁.heap s'.heap ∧ s'.os = s₁.os ∧ AllBare s'.gens) s₁ := fun H hO hQ hS hok hK => by
    have free_ : ∀ {b : Addr} {o : Obj}, s₁.heap.get? b = some o → (∀ vs n, o.data ≠ .seq vs n) → o.data ≠ .fields #[] → H b = none := fun {b o} e h1 h2 => by
      cases q : H b with
      | none => rfl
      | some u =>
        rcases hO b u q with ⟨rfl, _⟩ | ⟨z, _⟩
        · rw [ha] at e
          cases e
          exact absurd rfl (h1 _ _)
        · rw [tT b z] at e
          cases e
          exact absurd rfl h2
    have dictFree : ∀ {b : Addr} {o : Obj} {es : Array DictEntry} {ep : Nat}, s₁.heap.get? b = some o → o.data = .dict es ep → H b = none := fun {b o es ep} e d => free_ e (fun vs n z => by rw [d] at z; cases z) (fun z => by rw [d] at z; cases z)
    have toBase : ∀ {b : Addr} {m : Str → Option Value}, s₁.heap.Ns b m → (hidT s₁.heap H).Ns b m := fun {b m} ⟨o, es, ep, e, d, r⟩ => ⟨o, es, ep, hidT_get e (dictFree e d), d, r⟩
    have inB : K.In (hidT s₁.heap H) := fun b o e => hidT_get (KX b o e) (by
      cases q : H b with
      | none => rfl
      | some u =>
        rcases hO b u q with ⟨rfl, _⟩ | ⟨z, _⟩
        · rw [hK (by rw [q]; exact nofun)] at e
          cases e
        · obtain ⟨p, hp, rfl⟩ := mT b z
          rw [tK p hp] at e
          cases e)
    have md : Mod K mg (hidT s₁.heap H) := ⟨inB, toBase hns, ⟨mb, toBase hb, hbb⟩, hlim.imp fun _ h => ⟨toBase h.1, h.2⟩⟩
    have noFr : ∀ b ∈ frs [], H b = none := fun b z => absurd (show b ∈ ([] : List Addr) from z) List.not_mem_nil
    have e0 : Env0 P w K mg (hidT s₁.heap H) callerA [] s₁ H := ⟨rfl, md, fun b o e => of_hidT e, Nat.le_of_eq (hidT_size _ _), trivial, noFr, hok, .of_eq hgen⟩
    have tb : ∀ p ∈ allL, GxR.TabB (hidT s₁.heap H) mg p.1 p.2 := fun p hp => by
      have e2 := tE p hp
      refine ⟨?_, ?_, ?_⟩
      · obtain ⟨o, us, file, tf, fl, tg, inF, text, tt, f1, f2, f3, f4, more⟩ := tC p hp
        refine ⟨o, us, file, tf, fl, tg, inF, text, tt, hidT_get f1 (free_ f1 (fun vs n z => by rw [f3] at z; cases z) fun z => ?_), f2, f3, f4, more⟩
        rw [f3] at z
        cases z
        exact absurd f4 (by simp)
      · obtain ⟨bm, ob, b1, b2, b3, b4, b5, b6⟩ := hbm
        have n1 : bm ≠ mainGlobals := fun q => by
          obtain ⟨o, es, ep, e, hd, _⟩ := hns
          rw [q, e] at b3
          rw [Option.some.inj b3, b6] at hd
          cases hd
        have n2 : bm ≠ p.2 := fun q => by
          rw [q, e2] at b3
          rw [← Option.some.inj b3] at b6
          cases b6
        exact ⟨bm, ob, b1, b2, n1, n2, hidT_get b3 (free_ b3 (fun vs n z => by rw [b6] at z; cases z) fun z => by rw [b6] at z; cases z), b4, b5, b6⟩
      · intro z
        obtain ⟨o, es, ep, e, hd, _⟩ := hns
        rw [z, e2] at e
        rw [← Option.some.inj e] at hd
        cases hd
    obtain ⟨I, m, c, ds, R, p, A⟩ := hsp H hQ hS
    refine codeAny_mono ((F _ inB (toBase hns) tb).run callerA [] s₁ H ⟨[.ref a], []⟩ [.ref a] [.ref a] (fun v _ => v = .bl true) (fun _ _ _ => False) I m c ds hr rfl e0 (hbind s₁ (.ref a)) (.cons rfl .nil) R p A) fun r s' h => ?_
    cases r with
    | error e =>
      obtain ⟨_, _, _, _, _, _, _, _, _, _, _, _, z⟩ := h
      exact z.elim
    | ok fl =>
      cases fl with
      | next => exact False.elim h
      | brk => exact False.elim h
      | cont => exact False.elim h
      | ret u =>
        obtain ⟨v, H', os, bare, un, hok', r', rfl⟩ := h
        obtain rfl : u = Value.bool true := r'
        have old : ∀ b o, b ∉ tabsA → s₁.heap.get? b = some o → s'.heap.get? b = some o := fun b o nb e => by
          cases q : H b with
          | none => exact un.keep b o e q (fun z => absurd (show b ∈ ([] : List Addr) from z) List.not_mem_nil) List.not_mem_nil
          | some u =>
            rcases hO b u q with ⟨_, ob, xs, rfl⟩ | ⟨z, _⟩
            · have z1 := (hok b _ q).1
              have z2 := (hok' b _ (un.frzs b ob _ q)).1
              rw [z1] at e
              cases e
              exact z2
            · exact absurd z nb
        have grew : ∀ q ∈ tabsA, ∃ more : Array Value, s'.heap.get? q = some (PySem.W.tabObj more) := fun q hq => by
          obtain ⟨more, z⟩ := un.tbls q #[] (hQ q hq)
          exact ⟨_, hok' q _ z⟩
        refine ⟨rfl, ⟨fun b o e => ?_, fun b o e => ?_⟩, os, bare⟩
        · by_cases hbT : b ∈ tabsA
          · obtain ⟨p, hp, rfl⟩ := mT b hbT
            obtain ⟨more, hm⟩ := grew _ hbT
            have e2 := tE p hp
            rw [e2] at e
            have e3 := (Option.some.inj e).symm
            subst e3
            exact .inr (.inl ⟨((tC p hp).tab e2).isCodeTable, rfl, #[], more, rfl, by rw [Array.empty_append]; exact hm⟩)
          · exact .inl (old b o hbT e)
        · by_cases hbT : b ∈ tabsA
          · obtain ⟨more, hm⟩ := grew b hbT
            exact ⟨_, hm⟩
          · exact ⟨o, old b o hbT e⟩
  cases hk : K.lookup a with
  | some o =>
    have e := KX a o hk
    rw [ha] at e
    cases e
    have only : ∀ (b : Addr) (o : HO), (if b ∈ tabsA then some (HO.tbl #[]) else none) = some o → b ∈ tabsA ∧ o = .tbl #[] := fun b o e => by
      by_cases hbT : b ∈ tabsA
      · rw [if_pos hbT] at e
        exact ⟨hbT, (Option.some.inj e).symm⟩
      · rw [if_neg hbT] at e
        cases e
    refine core (fun b => if b ∈ tabsA then some (.tbl #[]) else none) (fun b o e => .inr (only b o e)) (fun q hq => if_pos hq) (Or.inr ⟨_, vs.toArray, _, hk, rfl, rfl, rfl, by rw [List.size_toArray, hi.length]; exact hl, rv⟩) (fun b u z => ?_) fun z => absurd (if_neg naT) z
    obtain ⟨hbT, rfl⟩ := only b u z
    exact tT b hbT
  | none =>
    have only : ∀ (b : Addr) (o : HO), (if b ∈ tabsA then some (HO.tbl #[]) else if b = a then some (HO.frz { cls := .type "list", data := .seq vs.toArray } (.lst (ns.map V.int))) else none) = some o → (b = a ∧ o = .frz { cls := .type "list", data := .seq vs.toArray } (.lst (ns.map V.int))) ∨ (b ∈ tabsA ∧ o = .tbl #[]) := fun b o e => by
      by_cases hbT : b ∈ tabsA
      · rw [if_pos hbT] at e
        exact .inr ⟨hbT, (Option.some.inj e).symm⟩
      · rw [if_neg hbT] at e
        by_cases hb : b = a
        · rw [if_pos hb] at e
          exact .inl ⟨hb, (Option.some.inj e).symm⟩
        · rw [if_neg hb] at e
          cases e
    refine core (fun b => if b ∈ tabsA then some (.tbl #[]) else if b = a then some (.frz { cls := .type "list", data := .seq vs.toArray } (.lst (ns.map V.int))) else none) (fun b o e => (only b o e).imp_left fun z => ⟨z.1, _, _, z.2⟩) (fun q hq => if_pos hq) (Or.inl (Or.inr ⟨_, (if_neg naT).trans (if_pos rfl)⟩)) (fun b o e => ?_) fun _ => hk
    rcases only b o e with ⟨rfl, rfl⟩ | ⟨hbT, rfl⟩
    · exact ⟨ha, by rw [List.length_map]; exact hl, vs, _, rv, ha⟩
    · exact tT b hbT
theorem law_g {l : PySem.W.OpenLaw} {n k : Nat} {q : Program} {loose : List Str} {XP : (Str → Option Value) → Heap → Prop} {YP : World → Heap → Prop} {d : DefRec} {K : Params → PySem.W.Frag} {x : Str} {g : Params → List D → Cs → R D}
    (hn : l.most = some n) (hn2 : n ≤ sizeLine) (hdf : d.params.defaults = []) (hr : Room k callerA) (hY : ∀ (w : World) (h : Heap), YP w h → (K w.params).In h)
    (hT : ∀ (w : World) (h : Heap), YP w h → (∀ p ∈ allL, h.get? p.2 = some (PySem.W.tabObj #[])) ∧ (∀ p ∈ allL, (K w.params).lookup p.2 = none) ∧ ∀ p ∈ allL, PySem.W.CodeHd h p.1 p.2)
    (F : ∀ (w : World) (mg : Str → Option Value) (fa : Addr) (h : Heap), (K w.params).In h → h.Ns mainGlobals mg → mg d.name = some (.ref fa) →
      ∃ fd : FuncData, (∀ (s : Shared) (u : Value), BindsTo s fd ⟨[u], []⟩ [(x, u)]) ∧ ∀ base : Heap, (K w.params).In base → base.Ns mainGlobals mg → (∀ p ∈ allL, GxR.TabB base mg p.1 p.2) → GFn l.prog w (K w.params) mg base k fa fd [x] (g w.params))
    (hg : ∀ (pm : Params) (ns : List Int), ns.length ≤ n → ∃ c, g pm [.ro (ns.map D.int)] [] = .ok (.bl true) c) :
    PySem.W.WalkO q loose XP YP l.row.toRowW d [] (fun f vs => PySem.call f vs) := by
  refine Att.attach_call hn hdf fun w s₀ s₁ mg mb fa o pm cd doc a vs ns G Y ho hd hcd hmg hobj hints hlen hgen => ?_
  have KX := hY w _ Y
  obtain ⟨t1, t2, t3⟩ := hT w _ Y
  obtain ⟨fd, hb, hF⟩ := F w mg fa _ KX G.T.g hmg
  have reps : ∀ (H : Hp) (ns : List Int), Reps (K w.params) H [] (ns.map V.int) (ns.map D.int) := fun H ns => by
    induction ns with
    | nil => exact .nil
    | cons z zs ih => exact .cons (.int z) ih
  obtain ⟨c, ec⟩ := hg w.params ns hlen
  refine law_callG KX G.T.g G.T.b G.T.builtins G.T.nolimit hgen t1 t2 t3 G.T.bmain hobj hints (Nat.le_trans hlen hn2) hr hF hb fun H hQ hS => ?_
  have hI : ∀ (b : Addr) (o : HO), (if b ∈ tabsA then none else H b) = some o → b ∉ tabsA ∧ H b = some o := fun b o e => by
    by_cases hbT : b ∈ tabsA
    · rw [if_pos hbT] at e; cases e
    · rw [if_neg hbT] at e; exact ⟨hbT, e⟩
  have hS2 : SqL (K w.params) (fun b => if b ∈ tabsA then none else H b) a (ns.map V.int) := by
    have go : ∀ o, H a = some o → (∀ ps, o ≠ .tbl ps) → (if a ∈ tabsA then none else H a) = some o := fun o e n => by
      rw [if_neg (fun z => n #[] (by have := hQ a z; rw [e] at this; exact Option.some.inj this))]
      exact e
    rcases hS with (h | ⟨o, h⟩) | h
    · exact .inl (.inl (go _ h (fun _ z => nomatch z)))
    · exact .inl (.inr ⟨o, go _ h (fun _ z => nomatch z)⟩)
    · exact .inr h
  exact ⟨fun b => if b ∈ tabsA then none else H b, [], [], [.ro (ns.map D.int)], ⟨fun b o e => (hI b o e).2, rfl, fun _ _ _ h => (nomatch h), fun _ _ _ h => (nomatch h), ⟨fun q hq => ⟨⟨#[], hQ q (tabs_all hq), trivial⟩, if_pos (tabs_all hq), List.not_mem_nil⟩, fun p hp => ⟨.nil (hQ _ (lams_all hp)), if_pos (lams_all hp), List.not_mem_nil⟩⟩⟩, .cons (.ro hS2 (reps _ ns)) .nil, by rw [ec]; exact fun I' m' H' v _ _ p => by cases p; rfl⟩
end L2.Mi

namespace L2.Mi
open PySem PySem.Spec PyProof.Rows L2

section
variable {X : Cx} {W : WX} {a b c e : Expr} {es : List Expr} {pos : Pos} {fa fb fc : ME} {f g : D → D → Cs → R D} {ga : MA}
/-- a call of a built-in -/
theorem me_cb {r : List V → Hp → VK → Prop} {G : List D → Cs → R D} (h : PE X e (tCB r (rdA X.K W ga))) (hs : CallS X.K r G) : PE X e (rdE X.K W (mCB G ga)) := PEi h fun _ _ _ q => cb_read hs q
theorem mt_chain {op op' : CmpOp} {r r' : R2} (ho : OpR X (compareOp op) r) (hs : OpS X.K r f) (ho' : OpR X (compareOp op') r') (hs' : OpS X.K r' g) (ha : PE X a (rdE X.K W fa)) (hb : PE X b (rdE X.K W fb)) (hc : PE X c (rdE X.K W fc))
    (hm : lastMarks [op, op'] [b, c] = false := by with_unfolding_all rfl) : PT X (.Compare a [op, op'] [b, c] pos) (rdT X.K W (mT (mChain f g fa fb fc))) := PTi (pt_chain ho ho' ha hb hc hm) fun σ H Q ⟨I, m, l, c, R, L, A0⟩ => by
  have A : After (rD X.K) X.K I m H (fun cls dd H' => W cls dd σ H') (fun x H' => ∃ k, x = .bl k ∧ Q k H') (mChain f g fa fb fc l c) := After.mono (After.bind (rep := rD X.K) A0) fun v1 H1 ⟨I1, m1, c1, d1, E1, R1, p1, A1⟩ => by
    cases p1 with
    | bl k => exact ⟨k, rfl, A1.here R1 rfl⟩
    | _ => exact A1.elim
  refine ⟨I, m, l, c, R, L, After.mono (After.bind (rep := rD X.K) A) fun v1 H1 ⟨I1, m1, c1, d1, E1, R1, p1, A1⟩ => ?_⟩
  refine ⟨I1, m1, l, c1, R1, L.ext E1, After.mono (After.bind (rep := rD X.K) A1) fun v2 H2 ⟨I2, m2, c2, d2, E2, R2, p2, A2⟩ => ?_⟩
  refine hs _ _ _ _ _ _ _ _ _ _ R2 (Rep.ext p1 E2) p2 (After.mono (After.bind (rep := rD X.K) A2) fun v3 H3 ⟨I3, m3, c3, d3, E3, R3, p3, A3⟩ => ?_)
  cases p3 with
  | bl k =>
    refine ⟨k, rfl, ?_⟩
    cases k with
    | false =>
      rw [if_neg Bool.false_ne_true]
      exact A3.here R3 (Rep.bl false)
    | true =>
      rw [if_pos rfl]
      refine ⟨I3, m3, l, c3, R3, ((L.ext E1).ext E2).ext E3, After.mono (After.bind (rep := rD X.K) A3) fun v4 H4 ⟨I4, m4, c4, d4, E4, R4, p4, A4⟩ => ?_⟩
      exact hs' _ _ _ _ _ _ _ _ _ _ R4 (Rep.ext (Rep.ext p2 E3) E4) p4 A4
  | _ => exact A3.elim
/-- a display that will be changed: a cell -/
def mLstM (t : MA) : ME := fun l c => (t l c).bind fun xs c1 => fits xs.length (.ok (.ref c1.length) (c1 ++ [.lst xs]))
theorem me_lstM (h : PA X es (rdA X.K W ga)) : PE X (.List es pos) (rdE X.K W (mLstM ga)) :=
  PEi (pe_lst h) fun σ H Q ⟨I, m, l, c, R, L, A⟩ => ⟨I, m, l, c, R, L, After.mono (After.bind (rep := rA X.K) A) fun v1 H1 ⟨I1, m1, c1, d1, E1, R1, p1, A1⟩ => by
    obtain ⟨z, A2⟩ := A1.fits
    have p1 : Reps X.K I1 m1 v1 d1 := p1
    refine ⟨by rw [p1.length]; exact z, fun p np => ?_⟩
    obtain ⟨R2, E2⟩ := R1.push np p1
    refine A2 _ _ _ _ E2 R2 (Rep.ref ?_)
    rw [← R1.len, List.getElem?_append_right (Nat.le_refl _), Nat.sub_self]
    rfl⟩
/-- a local list's cell, whose list does not change from here on -/
def frzD (d : D) (c : Cs) : R D := match d with
  | .ref k => match c[k]? with
    | some (.lst ds) => .ok (.lst ds) (c.set k (.frz (.lst ds)))
    | _ => .stuck
  | _ => .stuck
def mFrz (a : ME) : ME := fun l c => (a l c).bind fun d c1 => frzD d c1
theorem me_frz (h : PE X e (rdE X.K W fa)) : PE X e (rdE X.K W (mFrz fa)) := PEi h fun σ H Q ⟨I, m, l, c, R, L, A⟩ =>
  ⟨I, m, l, c, R, L, After.mono (After.bind (rep := rD X.K) A) fun v1 H1 ⟨I1, m1, c1, d1, E1, R1, p1, A1⟩ => by
    cases p1 with
    | @ref k a hk =>
      have A2 : After (rD X.K) X.K I1 m1 H1 (fun cls dd H' => W cls dd σ H') Q (match c1[k]? with
        | some (.lst ds) => .ok (.lst ds) (c1.set k (.frz (.lst ds)))
        | _ => .stuck) := A1
      cases q : c1[k]? with
      | none => rw [q] at A2; exact A2.elim
      | some x =>
        rw [q] at A2
        cases x with
        | lst ds =>
          obtain ⟨I2, R2, E2, p2⟩ := R1.freeze hk q
          exact A2 I2 m1 H1 _ E2 R2 p2
        | _ => exact A2.elim
    | _ => exact A1.elim⟩
/-- y = [.. for ..] -/
theorem ms_setT {i : Nat} {s : Stmt} {t : TE} (h : PS X s (tAsg t (gName i))) (w : ∀ σ H Q, rdE X.K W fa σ H Q → t σ H Q) : PS X s (rdS X.K W (sSet i fa)) := PSi h fun D σ H ⟨I, m, l, c, R, L, A⟩ =>
  w σ H _ ⟨I, m, l, c, R, L, After.mono (AfterS.seq (rep := rD X.K) L A) fun v1 H1 ⟨I1, m1, c1, d1, E1, R1, p1, A1⟩ => A1 I1 m1 H1 _ (Ext.refl _ _ _) R1 ((L.ext E1).set i p1)⟩
theorem mts_nil : PTs X [] (rdT X.K W tYesM) := ⟨fun pins s σ H Q J ⟨I, m, l, c, R, L, A⟩ => pts_nil.run pins s σ H Q J (show tYes σ H Q from A.here R rfl)⟩
theorem mts_one {t : MT} (h : PT X c (rdT X.K W t)) : PTs X [c] (rdT X.K W t) := pts_one h
theorem rg_name {K : PySem.W.Frag} {i : Nat} : ∀ v σ H Q, rdG K W (gN i) v σ H Q → gName i v σ H Q := fun v σ H Q ⟨I, m, l, c, d, R, L, p, A⟩ => A.here R (L.set i p)
/-! ### dicts that are written -/
theorem Rel.sideO {K : PySem.W.Frag} {I H : Hp} {m : List Addr} {c : Cs} {p : Addr} {o : HO} (r : Rel K I H m c) (hH : ∀ x, H p ≠ some (.own x)) (hT : Nt H p) (hI : I p = none) (hm : p ∉ m) : Rel K I (upd H p o) m c := by
  refine ⟨fun b u e => ?_, r.len, r.nd, fun k a x h1 h2 => ?_, r.tabs.upH hT⟩
  · rw [upd_ne (ne_of_none e hI)]
    exact r.same _ _ e
  · have na : a ≠ p := fun e => hm (e ▸ List.mem_of_getElem? h1)
    have q := r.cell k a x h1 h2
    cases x with
    | lst es => exact ⟨q.1, q.2.imp fun us z => ⟨by rw [upd_ne na]; exact z.1, z.2⟩⟩
    | dct es => exact ⟨q.1, q.2.imp fun us z => ⟨by rw [upd_ne na]; exact z.1, z.2⟩⟩
    | dT es => exact ⟨q.1, q.2.imp fun us z => ⟨by rw [upd_ne na]; exact z.1, z.2⟩⟩
    | dTz es => exact q
    | ins C es =>
      obtain ⟨q1, dx, us, q2, q3, q4, q5, q6⟩ := q
      exact ⟨q1, dx, us, q2, q3, by rw [upd_ne fun e => hH _ (e ▸ q4)]; exact q4, q5.imp fun _ z => ⟨z.1, by rw [upd_ne na]; exact z.2⟩, q6⟩
    | frz d => exact q
def mDict1 (k : Key) (a : ME) : ME := fun l c => (a l c).bind fun d c1 => .ok (.dct [(k, d)]) c1
end
/-! ### words for the printed text -/
structure Own (K : PySem.W.Frag) (mg : Str → Option Value) (x : Str) (st : Stmt) (ps : List Str) where
  a : Addr
  fd : FuncData
  mgf : mg x = some (.ref a)
  F : Fun K x x st a fd
  b : Binds K fd ps []
theorem u100 {A : Around} {k : Nat} (hr : Room k A) : A.units + 100 < cLine := by have := hr.un; omega
theorem bt_len : bootBuiltins "len" = some (.builtin "len") := by decide +kernel
theorem bt_isinstance : bootBuiltins "isinstance" = some (.builtin "isinstance") := by decide +kernel
theorem bt_repr : bootBuiltins "repr" = some (.builtin "repr") := by decide +kernel
theorem bt_all : bootBuiltins "all" = some (.builtin "all") := by decide +kernel
theorem bt_max : bootBuiltins "max" = some (.builtin "max") := by decide +kernel
theorem bt_min : bootBuiltins "min" = some (.builtin "min") := by decide +kernel
theorem bt_int : bootBuiltins "int" = some (.type "int") := by decide +kernel
theorem bt_bool : bootBuiltins "bool" = some (.type "bool") := by decide +kernel
theorem bt_str : bootBuiltins "str" = some (.type "str") := by decide +kernel
theorem bt_list : bootBuiltins "list" = some (.type "list") := by decide +kernel
theorem bt_tuple : bootBuiltins "tuple" = some (.type "tuple") := by decide +kernel
theorem bt_dict : bootBuiltins "dict" = some (.type "dict") := by decide +kernel
end L2.Mi

namespace L2.Mi
open PySem PySem.Spec PyProof.Rows L2

/-! ### match x: case [a, b] if ..: -/
def seqOf (d : D) (c : Cs) : Option (List D) := match d with
  | .lst xs => some xs
  | .tup xs => some xs
  | .ro xs => some xs
  | .ref k => match c[k]? with
    | some (.lst xs) => some xs
    | _ => none
  | _ => none
def notSeq : List String := ["NoneType", "bool", "int", "str", "dict"]
def pairOf (d : D) (c : Cs) : Option (Option (D × D)) := match seqOf d c with
  | some [x, y] => some (some (x, y))
  | some _ => some none
  | none => match tyD d c with
    | some t => if t ∈ notSeq then some none else none
    | none => none
theorem flag_not : ∀ {t : String}, t ∈ notSeq → flagOfType true (.type t) = pure false := by
  intro t h
  simp only [notSeq, List.mem_cons, List.not_mem_nil, or_false] at h
  rcases h with rfl | rfl | rfl | rfl | rfl
  · exact flag_seq_None
  · exact flag_seq_bool
  · exact flag_seq_int
  · exact flag_seq_str
  · exact flag_seq_dict
theorem ty_is {X : Cx} {pins : List (Addr × Obj)} {σ : St} {H : Hp} {s : Shared} {x : V} {u : Value} {t : String} (I : Inv X pins σ H s) (rx : RelV x u) (ty : TyX X.K H x (.type t)) (ht : t ∈ notSeq) : s.TypeIs u t := by
  generalize e : Value.type t = tt at ty
  cases ty with
  | base b =>
    cases b with
    | non => cases e; cases (show u = Value.none from rx); rfl
    | bl y => cases e; cases (show u = Value.bool y from rx); rfl
    | int i => cases e; obtain ⟨t, q⟩ := (show ∃ t, u = Value.int i t from rx); cases q; rfl
    | str y => cases e; obtain ⟨t, q⟩ := (show ∃ t, u = Value.str y t from rx); cases q; rfl
    | dK ea => 
      cases e
      cases (show u = Value.ref _ from rx)
      obtain ⟨_, _, vs, _, o, es, ep, h1, h2, _⟩ := (show ObjOk X.prog X.w H s.heap _ (.dK _) from I.hok _ _ ea)
      exact ⟨o, h1, h2.1⟩
    | dT ea =>
      cases e
      cases (show u = Value.ref _ from rx)
      obtain ⟨_, _, xs, _, o, es, ep, h1, h2, _⟩ := (show ObjOk X.prog X.w H s.heap _ (.dT _) from I.hok _ _ ea)
      exact ⟨o, h1, h2.1⟩
    | flt y => cases e; simp [notSeq] at ht
    | lst ea => cases e; simp [notSeq] at ht
    | frz ea => cases e; simp [notSeq] at ht
    | tup ea => cases e; simp [notSeq] at ht
    | ins => cases e
  | kDict e1 c => cases e; cases (show u = Value.ref _ from rx); exact ⟨_, I.kIn _ _ e1, c⟩
  | fDict ea =>
    cases e
    cases (show u = Value.ref _ from rx)
    obtain ⟨_, _, _, vs, _, o, es, ep, h1, h2, _⟩ := (show ObjOk X.prog X.w H s.heap _ (.frz _ (.dK _)) from I.hok _ _ ea)
    exact ⟨o, h1, h2.1⟩
  | _ => cases e; simp [notSeq] at ht
section
variable {prog : Program} {w : World} {A : Around} {E : Value → Shared → Prop} {s : Shared}
theorem unpackItems_list {t : Addr} {items : Array Value} {Q : List Value → Shared → Prop} (hh : A.handled = none) (ht : s.heap.IsList t items)
    (hQ : ∀ h', Heap.ExtBut s.heap.objs.size s.heap h' → Q items.toList { s with heap := h' }) : wpAny (model prog w) A (unpackItems (.ref t) items.size none) Q E s := by
  have hlt : t ≠ s.heap.objs.size := by obtain ⟨o, ho, _⟩ := ht; exact Nat.ne_of_lt (Heap.lt_size ho)
  unfold unpackItems
  refine wpAny_bind ?_
  · unfold notIterableAtAll
    refine wpAny_bind (wpAny_specialOf ht.typeIs slot_list_iter.lookup ?_)
    refine wpAny_pure ?_
    simp only [Bool.false_eq_true, if_false]
    refine wpAny_bind (wpAny_holding (wpAny_pyIter_list ht ?_))
    refine wpAny_bind (wpAny_holding (PySem.W.kun_draw hlt items.size 0 _ _ ⟨_, Heap.get?_push_size _ rfl, rfl, rfl⟩ (ht.push _) (by omega) fun h₁ hit₁ hs₁ => ?_))
    have hall : List.take items.size (List.drop 0 items.toList) = items.toList := by
      rw [List.drop_zero]; exact List.take_of_length_le (by simp)
    rw [hall]
    rw [if_neg (by simp)]
    have ht₁ : h₁.IsList t items := (ht.push _).extBut hs₁.extBut hlt
    refine wpAny_bind (wpAny_holding (wpAny_pyNext_list_end hh hit₁ ht₁ (by simp) fun h₂ he₂ => ?_))
    simp only [Option.isSome_none, Bool.false_eq_true, if_false]
    refine wpAny_pure (hQ h₂ fun b o hb e => he₂ b o hb (hs₁.extBut b o hb (Heap.get?_push_of_some _ e)))
end
/-- what a match with one case [a, b] asks -/
def tMatch2 (K : PySem.W.Frag) (te : TE) (i j : Nat) (tg : TT) (tb : TS) : TS := fun D σ H => te σ H fun x H1 =>
  (∃ a xs, x = .ref a ∧ (SqL K H1 a xs ∨ SqT K H1 a xs) ∧ (xs.length ≠ 2 → D.nx σ H1) ∧ ∀ y z, xs = [y, z] → tg ((σ.set i (some y)).set j (some z)) H1 fun b H2 => match b with
    | true => tb D ((σ.set i (some y)).set j (some z)) H2
    | false => D.nx ((σ.set i (some y)).set j (some z)) H2) ∨
  ∃ t, TyX K H1 x (.type t) ∧ t ∈ notSeq ∧ D.nx σ H1
theorem ps_match2 {X : Cx} {e g : Expr} {body : List Stmt} {n1 n2 : Str} {p0 p1 p2 p3 : Pos} {i j : Nat} {te : TE} {tg : TT} {tb : TS} (hN : X.N.Nodup) (hi : X.N[i]? = some n1) (hj : X.N[j]? = some n2)
    (hx : Loc X.env.scope n1) (hy : Loc X.env.scope n2) (hc : X.calm = true) (he : PE X e te) (hg : PT X g tg) (hb : PSs X body tb)
    (hf1 : X.fn n1 = true ∨ X.env.scope.names.lookup n1 = some .local := by first | exact .inl rfl | exact .inr rfl | assumption)
    (hf2 : X.fn n2 = true ∨ X.env.scope.names.lookup n2 = some .local := by first | exact .inl rfl | exact .inr rfl | assumption) :
    PS X (.Match e [⟨.MatchSequence [.MatchAs none (some n1) p1, .MatchAs none (some n2) p2] p3, some g, body⟩] p0) (tMatch2 X.K te i j tg tb) := by
  refine ⟨fun pins s σ H D I h => ?_⟩
  refine wpAny_Match (thn (he.run pins s σ H _ I h) fun v s1 ⟨x, H1, I1, r1, q1⟩ => ?_)
  refine wpAny_matchCases_cons ?_
  rcases q1 with ⟨a, xs, rfl, hs, hn, hq⟩ | ⟨t, ty, ht, q⟩
  · cases (show v = Value.ref a from r1)
    have go : ∀ (s2 : Shared) (its : List Value), Vals xs its → xs.length = 2 → Inv X pins σ H1 s2 →
        wpAny (model X.prog X.w) X.A (matchEach [.MatchAs none (some n1) p1, .MatchAs none (some n2) p2] X.env its) (fun r s₁ => match r with
          | none => wpAny (model X.prog X.w) X.A (matchCases [] X.env (.ref a) false) (SP X pins D) X.xe s₁
          | some bs => wpAny (model X.prog X.w) X.A (assignInOrder (bs.map fun (n, _) => bindName X.env n) (bs.map (·.2))) (fun _ s₂ =>
              match some g with
              | none => wpAny (model X.prog X.w) X.A (execs body X.env) (SP X pins D) X.xe s₂
              | some g => wpAny (model X.prog X.w) X.A (isTrue g X.env (eval g X.env))
                  (fun ok s₃ => if ok then wpAny (model X.prog X.w) X.A (execs body X.env) (SP X pins D) X.xe s₃ else wpAny (model X.prog X.w) X.A (matchCases [] X.env (.ref a) false) (SP X pins D) X.xe s₃) X.xe s₂) X.xe s₁) X.xe s2 := by
      intro s2 its rv hl I2
      obtain ⟨y, z, rfl⟩ : ∃ y z, xs = [y, z] := by
        match xs, hl with
        | [y, z], _ => exact ⟨y, z, rfl⟩
      obtain ⟨u1, u2, rfl, r1, r2⟩ := vals2 rv
      refine wpAny_matchEach_cons (wpAny_matchPattern_Capture ?_)
      refine wpAny_matchEach_cons (wpAny_matchPattern_Capture ?_)
      refine wpAny_matchEach_nil ?_
      show wpAny _ _ (assignInOrder [bindName X.env n1, bindName X.env n2] [u1, u2]) _ _ _
      refine wpAny_assignInOrder_more (wpAny_bindName (store_ok I2 hN hi hx r1 (fun s3 I3 => ?_) hf1))
      refine wpAny_assignInOrder_more (wpAny_bindName (store_ok I3 hN hj hy r2 (fun s4 I4 => ?_) hf2))
      refine wpAny_assignInOrder_none ?_
      refine thn (hg.run pins s4 _ H1 _ I4 (hq y z rfl)) fun b s5 ⟨H5, I5, q5⟩ => ?_
      cases b with
      | true => exact hb.run pins s5 _ H5 D I5 q5
      | false => exact wpAny_matchCases_nil ⟨_, H5, I5, q5⟩
    rcases hs with hs | hs
    · obtain ⟨its, rv, pl, hz⟩ := I1.list hs
      have hf : ((its.toArray.size : Nat) : Int) < 2 ^ 63 := by
        have := rv.length
        rw [sizeLine_eq] at hz
        simp only [List.size_toArray]
        omega
      by_cases hl : xs.length = 2
      · refine matchSeq_list_hit pl.isList hf (by simp [← rv.length, hl]) ?_
        have e2 : ([Pattern.MatchAs none (some n1) p1, .MatchAs none (some n2) p2] : List Pattern).length = its.toArray.size := by simp [← rv.length, hl]
        rw [e2]
        refine unpackItems_list (I1.ok.hd hc) pl.isList fun h' hx' => ?_
        refine go _ _ (by simpa using rv) hl ?_
        exact I1.kept (t' := s1.toks + 1 + 1) fun b o e => hx' b o (Nat.ne_of_lt (Heap.lt_size e)) e
      · refine matchSeq_list_miss pl.isList hf (by simp [← rv.length, hl]) ?_
        exact wpAny_matchCases_nil ⟨_, _, I1.tok _, hn hl⟩
    · obtain ⟨its, rv, pl, hz⟩ := I1.tuple hs
      have hf : ((its.toArray.size : Nat) : Int) < 2 ^ 63 := by
        have := rv.length
        rw [sizeLine_eq] at hz
        simp only [List.size_toArray]
        omega
      by_cases hl : xs.length = 2
      · refine matchSeq_tuple_hit pl hf (by simp [← rv.length, hl]) ?_
        have e2 : ([Pattern.MatchAs none (some n1) p1, .MatchAs none (some n2) p2] : List Pattern).length = its.toArray.size := by simp [← rv.length, hl]
        rw [e2]
        refine unpackItems_tuple (I1.ok.hd hc) pl fun h' hx' => ?_
        refine go _ _ (by simpa using rv) hl ?_
        exact I1.kept (t' := s1.toks + 1 + 1) fun b o e => hx' b o (Nat.ne_of_lt (Heap.lt_size e)) e
      · refine matchSeq_tuple_miss pl hf (by simp [← rv.length, hl]) ?_
        exact wpAny_matchCases_nil ⟨_, _, I1.tok _, hn hl⟩
  · refine wpAny_matchPattern_Sequence (wpAny_collectionFlag (ty_is I1 r1 ty ht) (flag_not ht) ?_)
    exact wpAny_matchCases_nil ⟨_, _, I1, q⟩
def sMatch2 (fe : ME) (i j : Nat) (tg : MT) (f : MS) : MS := fun l c => (fe l c).seq l fun d c1 => match pairOf d c1 with
  | none => .stuck
  | some none => .go (.nx l) c1
  | some (some (x, y)) => (tg ((l.set i (some x)).set j (some y)) c1).seq ((l.set i (some x)).set j (some y)) fun b c2 => match b with
    | true => f ((l.set i (some x)).set j (some y)) c2
    | false => .go (.nx ((l.set i (some x)).set j (some y))) c2
theorem seq_at {K : PySem.W.Frag} {I H : Hp} {m : List Addr} {c : Cs} {v : V} {d : D} {ds : List D} (R : Rel K I H m c) (p : Rep K I m v d) (h : seqOf d c = some ds) : ∃ a xs, v = .ref a ∧ (SqL K H a xs ∨ SqT K H a xs) ∧ Reps K I m xs ds := by
  cases p with
  | lst q r => cases h; exact ⟨_, _, rfl, .inl (R.same.seq (.inl (.inl q))), r⟩
  | ro q r => cases h; exact ⟨_, _, rfl, .inl (R.same.seq q), r⟩
  | tup q r => cases h; exact ⟨_, _, rfl, .inr (sqT_same R.same q), r⟩
  | @ref k a q =>
    have h : (match c[k]? with
      | some (.lst xs) => some xs
      | _ => none) = some ds := h
    cases e : c[k]? with
    | none => rw [e] at h; cases h
    | some x =>
      rw [e] at h
      cases x with
      | lst es =>
        cases h
        obtain ⟨_, vs, h1, h2⟩ := R.cell k a _ q e
        exact ⟨a, vs, rfl, .inl (.inl (.inl h1)), h2⟩
      | _ => cases h
  | _ => cases h
theorem ms_match2 {X : Cx} {W : WX} {e g : Expr} {body : List Stmt} {n1 n2 : Str} {p0 p1 p2 p3 : Pos} {i j : Nat} {fe : ME} {tg : MT} {f : MS} (hN : X.N.Nodup) (hi : X.N[i]? = some n1) (hj : X.N[j]? = some n2)
    (hx : Loc X.env.scope n1) (hy : Loc X.env.scope n2) (hc : X.calm = true) (he : PE X e (rdE X.K W fe)) (hg : PT X g (rdT X.K W tg)) (hb : PSs X body (rdS X.K W f))
    (hf1 : X.fn n1 = true ∨ X.env.scope.names.lookup n1 = some .local := by first | exact .inl rfl | exact .inr rfl | assumption)
    (hf2 : X.fn n2 = true ∨ X.env.scope.names.lookup n2 = some .local := by first | exact .inl rfl | exact .inr rfl | assumption) :
    PS X (.Match e [⟨.MatchSequence [.MatchAs none (some n1) p1, .MatchAs none (some n2) p2] p3, some g, body⟩] p0) (rdS X.K W (sMatch2 fe i j tg f)) :=
  PSi (ps_match2 hN hi hj hx hy hc he hg hb hf1 hf2) fun D σ H ⟨I, m, l, c, R, L, A⟩ =>
    ⟨I, m, l, c, R, L, After.mono (AfterS.seq (rep := rD X.K) L A) fun v1 H1 ⟨I1, m1, c1, d1, E1, R1, p1, A1⟩ => by
      have L1 := L.ext E1
      have A1 : AfterS X.K I1 m1 H1 W D (match pairOf d1 c1 with
        | none => .stuck
        | some none => .go (.nx l) c1
        | some (some (x, y)) => (tg ((l.set i (some x)).set j (some y)) c1).seq ((l.set i (some x)).set j (some y)) fun b c2 => match b with
          | true => f ((l.set i (some x)).set j (some y)) c2
          | false => .go (.nx ((l.set i (some x)).set j (some y))) c2) := A1
      cases hs : seqOf d1 c1 with
      | some ds =>
        obtain ⟨a, xs, rfl, h1, h2⟩ := seq_at R1 p1 hs
        refine .inl ⟨a, xs, rfl, h1, fun hl => ?_, fun y z e => ?_⟩
        · have hp : pairOf d1 c1 = some none := by
            unfold pairOf
            rw [hs]
            match ds, h2.length with
            | [], _ => rfl
            | [_], _ => rfl
            | [_, _], e => exact absurd e hl
            | _ :: _ :: _ :: _, _ => rfl
          rw [hp] at A1
          exact A1 I1 m1 H1 σ (Ext.refl _ _ _) R1 L1
        · subst e
          cases h2 with
          | @cons v1 vs1 dy ds1 hy1 ht1 =>
          cases ht1 with
          | @cons v2 vs2 dz ds2 hz1 ht2 =>
          cases ht2
          have hp : pairOf d1 c1 = some (some (dy, dz)) := by unfold pairOf; rw [hs]
          rw [hp] at A1
          have L2 := (L1.set i hy1).set j hz1
          refine ⟨I1, m1, _, c1, R1, L2, After.mono (AfterS.seq (rep := rB) L2 A1) fun b H2 ⟨I2, m2, c2, b2, E2, R2, p2, A2⟩ => ?_⟩
          cases (show b = b2 from p2)
          cases b with
          | true => exact ⟨I2, m2, _, c2, R2, L2.ext E2, A2⟩
          | false => exact A2 I2 m2 H2 _ (Ext.refl _ _ _) R2 (L2.ext E2)
      | none =>
        cases ht : tyD d1 c1 with
        | none =>
          have hp : pairOf d1 c1 = none := by unfold pairOf; rw [hs]; simp only [ht]
          rw [hp] at A1
          exact A1.elim
        | some t =>
          by_cases hm : t ∈ notSeq
          · have hp : pairOf d1 c1 = some none := by unfold pairOf; rw [hs]; simp only [ht, if_pos hm]
            rw [hp] at A1
            exact .inr ⟨t, tyD_is R1 p1 ht, hm, A1 I1 m1 H1 σ (Ext.refl _ _ _) R1 L1⟩
          · have hp : pairOf d1 c1 = none := by unfold pairOf; rw [hs]; simp only [ht, if_neg hm]
            rw [hp] at A1
            exact A1.elim⟩
end L2.Mi

namespace L2.Mi
open PySem PySem.Spec PyProof.Rows L2

section
variable {K : PySem.W.Frag}
/-! ### tuple(x), list(x), int(x), str(n), bool(x) -/
def lstOf (d : D) (c : Cs) : Option (List D) := match d with
  | .lst xs => some xs
  | .ro xs => some xs
  | .ref k => match c[k]? with
    | some (.lst xs) => some xs
    | _ => none
  | _ => none
theorem lst_at {I H : Hp} {m : List Addr} {c : Cs} {v : V} {d : D} {ds : List D} (R : Rel K I H m c) (p : Rep K I m v d) (h : lstOf d c = some ds) : ∃ a xs, v = .ref a ∧ SqL K H a xs ∧ Reps K I m xs ds := by
  cases p with
  | lst q r => cases h; exact ⟨_, _, rfl, R.same.seq (.inl (.inl q)), r⟩
  | ro q r => cases h; exact ⟨_, _, rfl, R.same.seq q, r⟩
  | @ref k a q =>
    have h : (match c[k]? with
      | some (.lst xs) => some xs
      | _ => none) = some ds := h
    cases e : c[k]? with
    | none => rw [e] at h; cases h
    | some x =>
      rw [e] at h
      cases x with
      | lst es =>
        cases h
        obtain ⟨_, vs, h1, h2⟩ := R.cell k a _ q e
        exact ⟨a, vs, rfl, .inl (.inl h1), h2⟩
      | _ => cases h
  | _ => cases h
def tupleP (d : D) (c : Cs) : R D := match d with
  | .tup xs => .ok (.tup xs) c
  | d => match lstOf d c with
    | some xs => .ok (.tup xs) c
    | none => .stuck
def tupleD : List D → Cs → R D := on1 tupleP
abbrev rTuple (K : PySem.W.Frag) : List V → Hp → VK → Prop := fun xs H Q => ∃ p ys, xs = [.ref p] ∧ ((SqL K H p ys ∧ ∀ l, H l = none → Q (.ref l) (upd H l (.tup ys))) ∨ (SqT K H p ys ∧ Q (.ref p) H))
theorem cs_tuple : CallS K (rTuple K) tupleD := fun I H m c vs ds W Q R p A => by
  obtain ⟨v, d, rfl, rfl, pd, A⟩ := on1_arg p A
  have other : After (rD K) K I m H W Q (match lstOf d c with
    | some xs => .ok (.tup xs) c
    | none => .stuck) → rTuple K [v] H Q := fun A2 => by
    cases e : lstOf d c with
    | none => rw [e] at A2; exact A2.elim
    | some xs =>
      rw [e] at A2
      obtain ⟨a, ys, rfl, h1, h2⟩ := lst_at R pd e
      exact ⟨a, ys, rfl, .inl ⟨h1, fun l nl => A2.new R nl (.tup (SqT.of upd_same) (h2.mono (same_upd R.same nl) (Pre.refl _)) (.inl upd_same))⟩⟩
  cases pd with
  | tup q r x => exact ⟨_, _, rfl, .inr ⟨sqT_same R.same q, A.here R (.tup q r x)⟩⟩
  | _ => exact other A
/-- list(x), a new list that stays as it is -/
def listP (d : D) (c : Cs) : R D := match seqOf d c with
  | some xs => .ok (.lst xs) c
  | none => .stuck
def listD : List D → Cs → R D := on1 listP
abbrev rList (K : PySem.W.Frag) : List V → Hp → VK → Prop := fun xs H Q => ∃ p ys, xs = [.ref p] ∧ (SqL K H p ys ∨ SqT K H p ys) ∧ ∀ l, H l = none → Q (.ref l) (upd H l (.lst ys))
theorem cs_list : CallS K (rList K) listD := fun I H m c vs ds W Q R p A => by
  obtain ⟨v, d, rfl, rfl, pd, A⟩ := on1_arg p A
  have A2 : After (rD K) K I m H W Q (match seqOf d c with
    | some xs => .ok (.lst xs) c
    | none => .stuck) := A
  cases e : seqOf d c with
  | none => rw [e] at A2; exact A2.elim
  | some xs =>
    rw [e] at A2
    obtain ⟨a, ys, rfl, h1, h2⟩ := seq_at R pd e
    exact ⟨a, ys, rfl, h1, fun l nl => A2.new R nl (.lst upd_same (h2.mono (same_upd R.same nl) (Pre.refl _)))⟩
def intP (d : D) (c : Cs) : R D := match d with
  | .int i => .ok (.int i) c
  | .bl k => .ok (.int (if k then 1 else 0)) c
  | .str a => match PySem.intText? a with
    | some n => if a.length ≤ 640 then .ok (.int n) c else .stuck
    | none => .stuck
  | _ => .stuck
def intFD : List D → Cs → R D := on1 intP
def rIntF : List V → Hp → VK → Prop := fun xs H Q => ((∃ i, xs = [.int i] ∧ Q (.int i) H) ∨ ∃ k, xs = [.bl k] ∧ Q (.int (if k then 1 else 0)) H) ∨ ∃ a n, xs = [.str a] ∧ PySem.intText? a = some n ∧ a.length ≤ 640 ∧ Q (.int n) H
theorem call_intF {X : Cx} : CallR X (.type "int") rIntF := call_int1.or call_int_str
theorem cs_intF : CallS K rIntF intFD := fun I H m c vs ds W Q R p A => by
  obtain ⟨v, d, rfl, rfl, pd, A⟩ := on1_arg p A
  cases pd with
  | int i => exact .inl (.inl ⟨i, rfl, A.here R (.int i)⟩)
  | bl k => exact .inl (.inr ⟨k, rfl, A.here R (.int _)⟩)
  | str a =>
    have A2 : After (rD K) K I m H W Q (match PySem.intText? a with
      | some n => if a.length ≤ 640 then .ok (.int n) c else .stuck
      | none => .stuck) := A
    cases e : PySem.intText? a with
    | none => rw [e] at A2; exact A2.elim
    | some n =>
      rw [e] at A2
      by_cases hl : a.length ≤ 640
      · have A3 : After (rD K) K I m H W Q (if a.length ≤ 640 then .ok (.int n) c else .stuck) := A2
        rw [if_pos hl] at A3
        exact .inr ⟨a, n, rfl, e, hl, A3.here R (.int n)⟩
      · have A3 : After (rD K) K I m H W Q (if a.length ≤ 640 then .ok (.int n) c else .stuck) := A2
        rw [if_neg hl] at A3
        exact A3.elim
  | _ => exact A.elim
end
/-! ### what stands at the module's top -/
section
variable {X : Cx} {W : WX} {pos : Pos} {x : Str}
def IsC (K : PySem.W.Frag) (mg : Str → Option Value) (x : Str) (d : D) : Prop := ∃ u v, mg x = some u ∧ RelV v u ∧ ∀ I m, Rep K I m v d
theorem me_const {d : D} (hg : Gl X x) (h : IsC X.K X.mg x d) (hd : (x == ("__debug__" : Str)) = false := by decide) : PE X (.Name x pos) (rdE X.K W (mC d)) := by
  obtain ⟨u, v, h1, h2, h3⟩ := h
  exact me_c (pe_glob hg h1 h2 hd) h3
theorem isc_str {K : PySem.W.Frag} {mg : Str → Option Value} {i : Str} {t : Tok} (h : mg x = some (.str i t)) : IsC K mg x (.str i) := ⟨_, .str i, h, ⟨_, rfl⟩, fun _ _ => .str i⟩
/-- a tuple of the written part, and what stands in it -/
inductive KV' (K : PySem.W.Frag) : Value → D → Prop where
  | int (i : Int) (t : Tok) : KV' K (.int i t) (.int i)
  | str (i : Str) (t : Tok) : KV' K (.str i t) (.str i)
theorem KV'.get {K : PySem.W.Frag} {u : Value} {d : D} (h : KV' K u d) : ∃ v, RelV v u ∧ ∀ I m, Rep K I m v d := by
  cases h with
  | int i t => exact ⟨.int i, ⟨_, rfl⟩, fun _ _ => .int i⟩
  | str i t => exact ⟨.str i, ⟨_, rfl⟩, fun _ _ => .str i⟩
theorem kvs_get {K : PySem.W.Frag} : ∀ {us : List Value} {ds : List D}, Paired (KV' K) us ds → ∃ vs, Vals vs us ∧ ∀ I m, Reps K I m vs ds
  | _, _, .nil => ⟨[], .nil, fun _ _ => .nil⟩
  | _, _, .cons h t => by
    obtain ⟨v, h1, h2⟩ := h.get
    obtain ⟨vs, t1, t2⟩ := kvs_get t
    exact ⟨v :: vs, .cons h1 t1, fun I m => .cons (h2 I m) (t2 I m)⟩
theorem isc_tup {K : PySem.W.Frag} {mg : Str → Option Value} {a : Addr} {od : Option Addr} {its : Array Value} {n : Nat} {sl : Array (Option Value)} {ds : List D} (h : mg x = some (.ref a)) (hl : K.lookup a = some ⟨.type "tuple", od, .seq its n, sl⟩) (hz : its.size ≤ sizeLine)
    (hp : Paired (KV' K) its.toList ds) (hx : ∀ s i, ds ≠ [D.str s, D.int i] := by intro _ _ h; simp at h) : IsC K mg x (.tup ds) := by
  obtain ⟨vs, r1, r2⟩ := kvs_get hp
  exact ⟨_, .ref a, h, rfl, fun I m => .tup (.inr ⟨_, its, n, hl, rfl, rfl, hz, r1⟩) (r2 I m) (.inr hx)⟩
end
end L2.Mi

namespace L2.Mi
open PySem PySem.Spec PyProof.Rows L2 PySem.SeqAt PySem.AutoSeq1

/-! ### a dict and a text are never equal -/
theorem str_eq_declines_dict (b : Str) (u : Tok) (l : Addr) (c : Value) (es : Array DictEntry) (n : Nat) (dd : Option Addr) (sl : Array (Option Value)) :
    Meets (Builtin.«str.__eq__» ⟨[.str b u, .ref l], []⟩) (fun _ R s => s.heap.get? l = some { cls := c, dict := dd, data := .dict es n, slots := sl } ∧ R (.ok (.ret .notImplemented)) s) :=
  .of_wp fun prog w A R s h => by obtain ⟨hp, g, d, tk, os⟩ := s; obtain ⟨hl, h⟩ := h; wp_walk using wpAny_loadPart' hl, wpAny_load hl; exact ⟨_, rfl, h⟩
theorem rc_dict_str {prog : Program} {w : World} {A : Around} {E Q : Value → Shared → Prop} {s : Shared} {l : Addr} {es : Array DictEntry} {n : Nat} {dd : Option Addr} {sl : Array (Option Value)} (b : Str) (u : Tok)
    (ho : s.heap.get? l = some { cls := .type "dict", dict := dd, data := .dict es n, slots := sl }) (hu : A.units < cLine) (h : Q (.bool false) s) : wpAny (model prog w) A (richCompare .Eq (.ref l) (.str b u)) Q E s := by
  have tl : s.TypeIs (.ref l) "dict" := ⟨_, ho, rfl⟩
  refine rc_eq_decline_or (k := false) tl (typeIs_str s b u) (by decide) F.sub_str_dict F.slot_dict_eq F.slot_str_eq_refl
    (fun Q' hq => wpAny_call_entry F.slot_dict_eq tl F.entry_dict_eq ?_ (F.args_dict_eq_2 _ _))
    (fun _ hq => call_meets F.slot_str_eq_refl (typeIs_str s b u) F.entry_str_eq (F.args_str_eq_2 _ _) (str_eq_declines_dict b u l (.type "dict") es n dd sl) ⟨ho, hq⟩)
    (fun _ hq => wpAny_of_eq (rfl : isSame (.ref l) (.str b u) = pure false) hq) (.inr hu) h
  show wpAny _ _ (Builtin.Dict.dictSlotArgs "__eq__" ⟨[.ref l, .str b u], []⟩ >>= _) _ _ s
  refine wpAny_bind ?_
  unfold Builtin.Dict.dictSlotArgs
  refine wpAny_bind (wpAny_notOrdered_dict tl ?_)
  show wpAny _ _ (pure (Value.ref l, Value.str b u)) _ _ s
  refine wpAny_pure ?_
  refine wpAny_bind (wpAny_isInstance (T := "str") (typeIs_str s b u) F.sub_str_dict ?_)
  simp only [Bool.not_false, if_true]
  exact wpAny_bind (wpAny_rule (wpAny_pure ⟨_, rfl, hq⟩))
def rDs : R2 := fun x y H Q => ∃ a kvs b, x = .ref a ∧ H a = some (.dK kvs) ∧ y = .str b ∧ Q (.bl false) H
theorem op_ds {X : Cx} (hu : X.A.units + 64 < cLine) : OpR X (compareOp .Eq) rDs := by
  intro pins s σ H x y v u Q I rx ry h
  obtain ⟨a, kvs, b, rfl, ha, rfl, q⟩ := h
  cases (show v = Value.ref a from rx)
  obtain ⟨t, rfl⟩ := ry
  obtain ⟨_, _, vs, _, ⟨cls, dd, data, sl⟩, es, ep, h1, h2, h3, _⟩ := (show ObjOk X.prog X.w H s.heap a (.dK kvs) from I.hok a _ ha)
  have h2 := h2.1
  simp only at h2 h3
  subst h2 h3
  exact rc_dict_str b t h1 (by omega) ⟨.bl false, H, I, rfl, q⟩
section
variable {K : PySem.W.Frag}
def rEqB (K : PySem.W.Frag) : R2 := fun x y H Q => rEqA K x y H Q ∨ rDs x y H Q
theorem op_eqB {X : Cx} (hu : X.A.units + 64 < cLine) : OpR X (compareOp .Eq) (rEqB X.K) := (op_eqA hu).or (op_ds hu)
def eqE : D → D → Cs → R D
  | .dct _, .str _, c => .ok (.bl false) c
  | d, e, c => eqD d e c
theorem os_eqE : OpS K (rEqB K) eqE := fun I H m c v1 v2 d1 d2 W Q R p1 p2 A => by
  have gen : After (rD K) K I m H W Q (eqD d1 d2 c) → rEqB K v1 v2 H Q := fun A => .inl (os_eq I H m c v1 v2 d1 d2 W Q R p1 p2 A)
  cases p1 with
  | dct h r => cases p2 with
    | str s => exact .inr ⟨_, _, s, rfl, R.same _ _ h, rfl, A.here R (.bl _)⟩
    | _ => exact gen A
  | _ => exact gen A
end
end L2.Mi

namespace L2.Mi
open PySem PySem.Spec PyProof.Rows L2

/-! ### data with dicts, read and shown -/
def kP : Key → PyData
  | .inl i => .int i
  | .inr s => .str s
mutual
inductive Rx (h : Heap) : Value → PyData → Prop
  | non : Rx h .none .none
  | bl (b : Bool) : Rx h (.bool b) (.bool b)
  | int (i : Int) (t : Tok) : Rx h (.int i t) (.int i)
  | str (x : Str) (t : Tok) : Rx h (.str x t) (.str x)
  | lst {a : Addr} {o : Obj} {vs : Array Value} {n : Nat} {xs : List PyData} (h1 : h.get? a = some o) (h2 : o.cls = .type "list") (h3 : o.data = .seq vs n) (h4 : Rxs h vs.toList xs) : Rx h (.ref a) (.list xs)
  | tup {a : Addr} {o : Obj} {vs : Array Value} {n : Nat} {xs : List PyData} (h1 : h.get? a = some o) (h2 : o.cls = .type "tuple") (h3 : o.data = .seq vs n) (h4 : Rxs h vs.toList xs) : Rx h (.ref a) (.tuple xs)
  | dct {a : Addr} {o : Obj} {es : Array DictEntry} {n : Nat} {kvs : List (PyData × PyData)} (h1 : h.get? a = some o) (h2 : o.cls = .type "dict") (h3 : o.data = .dict es n) (hs : (a == sysModules) = false)
      (h4 : Rxs h (es.toList.map (·.key)) (kvs.map (·.1))) (h5 : Rxs h (es.toList.map (·.val)) (kvs.map (·.2))) : Rx h (.ref a) (.dict kvs)
inductive Rxs (h : Heap) : List Value → List PyData → Prop
  | nil : Rxs h [] []
  | cons {v : Value} {vs : List Value} {d : PyData} {ds : List PyData} (r : Rx h v d) (t : Rxs h vs ds) : Rxs h (v :: vs) (d :: ds)
end
mutual
theorem Rx.reads {h : Heap} : ∀ {v : Value} {d : PyData}, Rx h v d → ∃ as, Reads h v d as
  | _, _, .non => ⟨_, .none⟩
  | _, _, .bl b => ⟨_, .bool b⟩
  | _, _, .int i t => ⟨_, .int i t⟩
  | _, _, .str x t => ⟨_, .str x t⟩
  | _, _, .lst h1 h2 h3 h4 => let ⟨_, r⟩ := Rxs.reads h4; ⟨_, .list h1 h2 h3 r⟩
  | _, _, .tup h1 h2 h3 h4 => let ⟨_, r⟩ := Rxs.reads h4; ⟨_, .tuple h1 h2 h3 r⟩
  | _, _, .dct h1 h2 h3 _ h4 h5 => let ⟨_, r⟩ := Rxs.reads h4; let ⟨_, q⟩ := Rxs.reads h5; ⟨_, .dict h1 h2 h3 r q⟩
theorem Rxs.reads {h : Heap} : ∀ {v : List Value} {d : List PyData}, Rxs h v d → ∃ as, ReadsAll h v d as
  | _, _, .nil => ⟨_, .nil⟩
  | _, _, .cons r t => let ⟨_, r⟩ := Rx.reads r; let ⟨_, q⟩ := Rxs.reads t; ⟨_, .cons r q⟩
end
theorem Rxs.length {h : Heap} : ∀ {v : List Value} {d : List PyData}, Rxs h v d → v.length = d.length
  | _, _, .nil => rfl
  | _, _, .cons _ t => congrArg (· + 1) t.length
section
variable {P : Program} {w : World} {h : Heap}
def Shw (P : Program) (w : World) (h : Heap) (n : Nat) (v : Value) (t : Str) : Prop := ∃ bs, ReadAtMost h n bs ∧ ReprK P w bs h n v t
def Shws (P : Program) (w : World) (h : Heap) (n : Nat) (vs : List Value) (ts : List Str) : Prop := ∃ bs, ReadAtMost h n bs ∧ ReprAllK P w bs h n vs ts
theorem Shws.cons {n m : Nat} {v : Value} {vs : List Value} {t : Str} {ts : List Str} (a : Shw P w h n v t) (b : Shws P w h m vs ts) : Shws P w h (max n m) (v :: vs) (t :: ts) := by
  obtain ⟨b1, r1, k1⟩ := a
  obtain ⟨b2, r2, k2⟩ := b
  refine ⟨b1 ++ b2, (r1.mono (Nat.le_max_left _ _)).append (r2.mono (Nat.le_max_right _ _)), ?_⟩
  exact .cons ((k1.more fun b hb => List.mem_append_left _ hb).level_le (Nat.le_max_left _ _)) (k2.more_le (fun b hb => List.mem_append_right _ hb) (Nat.le_max_right _ _))
/-- a dict's parts: its entries as they are shown, and that it does not stand in itself -/
theorem shw_dct {a : Addr} {o : Obj} {es : Array DictEntry} {n : Nat} {kvs : List (PyData × PyData)} (r : Rx h (.ref a) (.dict kvs)) (h3 : o.data = .dict es n) (k1 : Shws P w h (PyData.depthAll (kvs.map (·.1))) (es.toList.map (·.key)) (PyData.shownAll (kvs.map (·.1))))
    (k2 : Shws P w h (PyData.depthAll (kvs.map (·.2))) (es.toList.map (·.val)) (PyData.shownAll (kvs.map (·.2)))) :
    ∃ bs, ReadAtMost h (PyData.depthKv kvs) bs ∧ a ∉ bs ∧ ReprEntriesK P w bs h (PyData.depthKv kvs) es.toList (PyData.shownKv kvs) := by
  obtain ⟨b1, r1, k1⟩ := k1
  obtain ⟨b2, r2, k2⟩ := k2
  have hb := (r1.mono (PyData.depthAll_keys_le kvs)).append (r2.mono (PyData.depthAll_vals_le kvs))
  obtain ⟨as, rr⟩ := r.reads
  refine ⟨b1 ++ b2, hb, not_mem_of_deeper rr (by simp only [PyData.depth]; omega) hb, ?_⟩
  rw [PyData.shownKv_eq]
  exact ReprEntriesK.of_two _ _ _ (k1.more_le (fun b hb => List.mem_append_left _ hb) (PyData.depthAll_keys_le kvs)) (k2.more_le (fun b hb => List.mem_append_right _ hb) (PyData.depthAll_vals_le kvs))
theorem shw_seq {a : Addr} {xs : List PyData} {d : PyData} {vs : List Value} (r : Rx h (.ref a) d) (hd : d.depth = PyData.depthAll xs + 1) (k : Shws P w h (PyData.depthAll xs) vs (PyData.shownAll xs)) :
    ∃ bs, ReadAtMost h (PyData.depthAll xs) bs ∧ a ∉ bs ∧ ReprAllK P w bs h (PyData.depthAll xs) vs (PyData.shownAll xs) := by
  obtain ⟨bs, hb, hk⟩ := k
  obtain ⟨as, rr⟩ := r.reads
  exact ⟨bs, hb, not_mem_of_deeper rr (by rw [hd]; omega) hb, hk⟩
mutual
theorem Rx.shw : ∀ {v : Value} {d : PyData}, Rx h v d → d.showable = true → d.shown.length ≤ sizeLine → Shw P w h d.depth v d.shown
  | _, _, .non, _, _ => ⟨[], (fun _ h => nomatch h), by simp only [PyData.shown]; exact .of_is ReprIs.none _ _ _⟩
  | _, _, .bl b, _, _ => ⟨[], (fun _ h => nomatch h), by simp only [PyData.shown]; exact .of_is (ReprIs.bool b) _ _ _⟩
  | _, _, .int i t, hs, _ => ⟨[], (fun _ h => nomatch h), by simp only [PyData.shown]; exact .of_is (ReprIs.int t (by simpa [PyData.showable] using hs)) _ _ _⟩
  | _, _, .str x t, _, hz => ⟨[], (fun _ h => nomatch h), by simp only [PyData.shown]; exact .of_is (ReprIs.str x t (by simpa only [PyData.shown] using hz)) _ _ _⟩
  | _, _, .lst (a := a) (vs := vs) (xs := xs) h1 h2 h3 h4, hs, hz => by
    have hz' : (listText (PyData.shownAll xs)).length ≤ sizeLine := by simpa only [PyData.shown] using hz
    have r : Rx h (.ref a) (.list xs) := .lst h1 h2 h3 h4
    obtain ⟨bs, hb, hna, hk⟩ := shw_seq r (by simp only [PyData.depth]) (Rxs.shw h4 (by simpa [PyData.showable] using hs) fun t ht => Nat.le_trans (listText_mem_le ht) hz')
    obtain ⟨as, rr⟩ := r.reads
    refine ⟨a :: bs, ReadAtMost.cons rr (by simp only [PyData.depth]; omega) hb, ?_⟩
    simp only [PyData.depth, PyData.shown]
    obtain ⟨l⟩ := vs
    cases l with
    | nil =>
      have e : xs = [] := List.length_eq_zero_iff.mp h4.length.symm
      subst e
      simp only [PyData.shownAll, listText_nil]
      exact ReprK.listEmpty h1 h2 h3
    | cons x l => exact ReprK.list h1 h2 h3 hna (by simpa using hk.length_eq) (fun i y e => hk.item i y (by simpa using e))
  | _, _, .tup (a := a) (xs := xs) h1 h2 h3 h4, hs, hz => by
    have hz' : (tupleText (PyData.shownAll xs)).length ≤ sizeLine := by simpa only [PyData.shown] using hz
    have r : Rx h (.ref a) (.tuple xs) := .tup h1 h2 h3 h4
    obtain ⟨bs, hb, hna, hk⟩ := shw_seq r (by simp only [PyData.depth]) (Rxs.shw h4 (by simpa [PyData.showable] using hs) fun t ht => Nat.le_trans (tupleText_mem_le ht) hz')
    obtain ⟨as, rr⟩ := r.reads
    refine ⟨a :: bs, ReadAtMost.cons rr (by simp only [PyData.depth]; omega) hb, ?_⟩
    simp only [PyData.depth, PyData.shown]
    exact ReprK.tuple h1 h2 h3 hna hk
  | _, _, .dct (a := a) (es := es) (kvs := kvs) h1 h2 h3 hx h4 h5, hs, hz => by
    have hz' : (dictText (PyData.shownKv kvs)).length ≤ sizeLine := by simpa only [PyData.shown] using hz
    obtain ⟨hs1, hs2⟩ := PyData.showableKv_split kvs (by simpa [PyData.showable] using hs)
    have r : Rx h (.ref a) (.dict kvs) := .dct h1 h2 h3 hx h4 h5
    obtain ⟨bs, hb, hna, hk⟩ := shw_dct r h3 (Rxs.shw h4 hs1 fun t ht => let ⟨p, hp, hl⟩ := PyData.shownKv_key_le kvs t ht; Nat.le_trans hl (Nat.le_trans (dictText_mem_le hp) hz'))
      (Rxs.shw h5 hs2 fun t ht => let ⟨p, hp, hl⟩ := PyData.shownKv_val_le kvs t ht; Nat.le_trans hl (Nat.le_trans (dictText_mem_le hp) hz'))
    obtain ⟨as, rr⟩ := r.reads
    refine ⟨a :: bs, ReadAtMost.cons rr (by simp only [PyData.depth]; omega) hb, ?_⟩
    simp only [PyData.depth, PyData.shown]
    exact ReprK.dict h1 h2 h3 hx hna hk
theorem Rxs.shw : ∀ {v : List Value} {d : List PyData}, Rxs h v d → PyData.showableAll d = true → (∀ t ∈ PyData.shownAll d, t.length ≤ sizeLine) → Shws P w h (PyData.depthAll d) v (PyData.shownAll d)
  | _, _, .nil, _, _ => ⟨[], (fun _ h => nomatch h), by simp only [PyData.shownAll]; exact .nil⟩
  | _, _, .cons (d := d) (ds := ds) r t, hs, hz => by
    have hs' : d.showable = true ∧ PyData.showableAll ds = true := by simpa [PyData.showableAll] using hs
    simp only [PyData.depthAll, PyData.shownAll] at hz ⊢
    exact Shws.cons (Rx.shw r hs'.1 (hz _ (List.mem_cons_self ..))) (Rxs.shw t hs'.2 fun t ht => hz t (List.mem_cons_of_mem _ ht))
end
/-- repr(x), x an object -/
theorem repr_rx {A : Around} {E Q : Value → Shared → Prop} {s : Shared} {a : Addr} {d : PyData} (r : Rx s.heap (.ref a) d) (hs : d.showable = true) (hg : A.guards = some []) (hu : A.units + (d.depth + 1) < cLine)
    (hQ : ∀ h' u tk, (∀ b o, s.heap.get? b = some o → h'.get? b = some o) → Q (.str d.shown u) { s with heap := h', toks := tk }) (hz : d.shown.length ≤ sizeLine) : wpAny (model P w) A (call (.builtin "repr") [.ref a]) Q E s := by
  have fin : ∀ {idr : String}, wpAny (model P w) A.in1 (call (.builtin idr) [.ref a]) (fun v s1 => ∃ h' u tk, (∀ b o, s.heap.get? b = some o → h'.get? b = some o) ∧ v = .str d.shown u ∧ s1 = { s with heap := h', toks := tk }) E s →
      wpAny (model P w) A.in1 (call (.builtin idr) [.ref a]) (fun r s₁ => ∃ x t, r = .str x t ∧ Q r s₁) E s := fun hc =>
    wpAny_mono hc (fun v s1 ⟨h', u, tk, k, e1, e2⟩ => ⟨_, _, e1, by rw [e1, e2]; exact hQ h' u tk k⟩) fun _ _ x => x
  have hu1 : A.in1.units = A.units + 1 := rfl
  cases r with
  | @lst _ o vs n xs h1 h2 h3 h4 =>
    have r : Rx s.heap (.ref a) (.list xs) := .lst h1 h2 h3 h4
    have hz' : (listText (PyData.shownAll xs)).length ≤ sizeLine := by simpa only [PyData.shown] using hz
    obtain ⟨bs, hb, hna, hk⟩ := shw_seq (P := P) (w := w) r (by simp only [PyData.depth]) (Rxs.shw h4 (by simpa [PyData.showable] using hs) fun t ht => Nat.le_trans (listText_mem_le ht) hz')
    simp only [PyData.depth] at hu
    simp only [PyData.shown] at fin
    refine call_repr_slot (by omega) ⟨o, h1, h2⟩ F.slot_list_repr.toG (fin ?_)
    obtain ⟨l⟩ := vs
    cases l with
    | nil =>
      have e : xs = [] := List.length_eq_zero_iff.mp h4.length.symm
      subst e
      refine call_list_repr_empty ⟨o, h1, h2⟩ h1 h3 ⟨s.heap, s.toks, s.toks + 1, fun _ _ e => e, ?_, rfl⟩
      simp only [PyData.shownAll, listText_nil]
    | cons x l => exact call_list_reprK h1 h2 h3 hna (by simpa using hk.length_eq) (fun i y e => hk.item i y (by simpa using e)) (g := []) hg (fun b _ => Clear.nil b) (by omega) (fun _ _ e => e) (fun h' u tk k => ⟨h', u, tk, k, rfl, rfl⟩) hz'
  | @tup _ o vs n xs h1 h2 h3 h4 =>
    have r : Rx s.heap (.ref a) (.tuple xs) := .tup h1 h2 h3 h4
    have hz' : (tupleText (PyData.shownAll xs)).length ≤ sizeLine := by simpa only [PyData.shown] using hz
    obtain ⟨bs, hb, hna, hk⟩ := shw_seq (P := P) (w := w) r (by simp only [PyData.depth]) (Rxs.shw h4 (by simpa [PyData.showable] using hs) fun t ht => Nat.le_trans (tupleText_mem_le ht) hz')
    simp only [PyData.depth] at hu
    simp only [PyData.shown] at fin
    refine call_repr_slot (by omega) ⟨o, h1, h2⟩ F.slot_tuple_repr (fin ?_)
    exact call_tuple_reprK h1 h2 h3 hna hk (g := []) hg (fun b _ => Clear.nil b) (by omega) (fun _ _ e => e) (fun h' u tk k => ⟨h', u, tk, k, rfl, rfl⟩) hz'
  | @dct _ o es n kvs h1 h2 h3 hx h4 h5 =>
    have r : Rx s.heap (.ref a) (.dict kvs) := .dct h1 h2 h3 hx h4 h5
    have hz' : (dictText (PyData.shownKv kvs)).length ≤ sizeLine := by simpa only [PyData.shown] using hz
    obtain ⟨hs1, hs2⟩ := PyData.showableKv_split kvs (by simpa [PyData.showable] using hs)
    obtain ⟨bs, hb, hna, hk⟩ := shw_dct (P := P) (w := w) r h3 (Rxs.shw h4 hs1 fun t ht => let ⟨p, hp, hl⟩ := PyData.shownKv_key_le kvs t ht; Nat.le_trans hl (Nat.le_trans (dictText_mem_le hp) hz'))
      (Rxs.shw h5 hs2 fun t ht => let ⟨p, hp, hl⟩ := PyData.shownKv_val_le kvs t ht; Nat.le_trans hl (Nat.le_trans (dictText_mem_le hp) hz'))
    simp only [PyData.depth] at hu
    simp only [PyData.shown] at fin
    refine call_repr_slot (by omega) ⟨o, h1, h2⟩ F.slot_dict_repr (fin ?_)
    exact call_dict_reprK h1 h2 h3 hx hna hk (g := []) hg (fun b _ => Clear.nil b) (by omega) (fun _ _ e => e) (fun h' u tk k => ⟨h', u, tk, k, rfl, rfl⟩) hz'
end
/-! ### .. at the level of tracked things -/
mutual
inductive Dx (K : PySem.W.Frag) (H : Hp) : V → PyData → Prop
  | non : Dx K H .non .none
  | bl (b : Bool) : Dx K H (.bl b) (.bool b)
  | int (i : Int) : Dx K H (.int i) (.int i)
  | str (x : Str) : Dx K H (.str x) (.str x)
  | lst {a : Addr} {xs : List V} {ds : List PyData} (h : SqL K H a xs) (t : Dxs K H xs ds) : Dx K H (.ref a) (.list ds)
  | tup {a : Addr} {xs : List V} {ds : List PyData} (h : SqT K H a xs) (t : Dxs K H xs ds) : Dx K H (.ref a) (.tuple ds)
  | dct {a : Addr} {xs : List (Key × V)} {ds : List (PyData × PyData)} (h : H a = some (.dK xs)) (t : Dxk K H xs ds) : Dx K H (.ref a) (.dict ds)
inductive Dxs (K : PySem.W.Frag) (H : Hp) : List V → List PyData → Prop
  | nil : Dxs K H [] []
  | cons {v : V} {vs : List V} {d : PyData} {ds : List PyData} (h : Dx K H v d) (t : Dxs K H vs ds) : Dxs K H (v :: vs) (d :: ds)
inductive Dxk (K : PySem.W.Frag) (H : Hp) : List (Key × V) → List (PyData × PyData) → Prop
  | nil : Dxk K H [] []
  | cons {k : Key} {v : V} {vs : List (Key × V)} {d : PyData} {ds : List (PyData × PyData)} (h : Dx K H v d) (t : Dxk K H vs ds) : Dxk K H ((k, v) :: vs) ((kP k, d) :: ds)
end
section
variable {X : Cx} {pins : List (Addr × Obj)} {σ : St} {H : Hp} {s : Shared}
theorem key_rx {h : Heap} {k : Key} {u : Value} (e : keyIs k u = true) : Rx h u (kP k) := by
  rcases keyIs_shape e with ⟨i, t, rfl, rfl⟩ | ⟨x, t, rfl, rfl⟩
  · exact .int i t
  · exact .str x t
mutual
theorem Dx.rx (I : Inv X pins σ H s) : ∀ {v : V} {d : PyData} {u : Value}, Dx X.K H v d → RelV v u → Rx s.heap u d
  | _, _, _, .non, r => by cases r; exact .non
  | _, _, _, .bl b, r => by cases r; exact .bl b
  | _, _, _, .int i, r => by obtain ⟨t, rfl⟩ := r; exact .int i t
  | _, _, _, .str x, r => by obtain ⟨t, rfl⟩ := r; exact .str x t
  | _, _, _, .lst h t, r => by
    cases r
    obtain ⟨its, rv, ⟨o, n, ho, hc, _, hd⟩, _⟩ := I.list h
    exact .lst ho hc hd (by simpa using Dxs.rx I t rv)
  | _, _, _, .tup h t, r => by
    cases r
    obtain ⟨its, rv, ⟨o, ho, hc, n, hd⟩, _⟩ := I.tuple h
    exact .tup ho hc hd (by simpa using Dxs.rx I t rv)
  | _, _, _, .dct (a := a) h t, r => by
    cases r
    obtain ⟨_, hs, vs, rv, o, es, ep, h1, h2, h3, _, h5, _⟩ := (show ObjOk X.prog X.w H s.heap a (.dK _) from I.hok a _ h)
    obtain ⟨k1, k2⟩ := Dxk.rx I t rv h5
    exact .dct h1 h2.1 h3 hs k1 k2
theorem Dxs.rx (I : Inv X pins σ H s) : ∀ {v : List V} {d : List PyData} {u : List Value}, Dxs X.K H v d → Vals v u → Rxs s.heap u d
  | _, _, _, .nil, r => by cases r; exact .nil
  | _, _, _, .cons h t, r => by
    cases r with
    | cons r1 r2 => exact .cons (Dx.rx I h r1) (Dxs.rx I t r2)
theorem Dxk.rx (I : Inv X pins σ H s) : ∀ {v : List (Key × V)} {d : List (PyData × PyData)} {u : List (Key × Value)} {es : List DictEntry}, Dxk X.K H v d → KV v u → Pairs (mixKind X.prog X.w) es u →
    Rxs s.heap (es.map (·.key)) (d.map (·.1)) ∧ Rxs s.heap (es.map (·.val)) (d.map (·.2))
  | _, _, _, _, .nil, r, p => by
    cases r
    cases p
    exact ⟨.nil, .nil⟩
  | _, _, _, _, .cons (k := k) h t, r, p => by
    cases r with
    | cons r1 r2 =>
      cases p with
      | cons p1 p2 p3 =>
        obtain ⟨q1, q2⟩ := Dxk.rx I t r2 p3
        obtain ⟨e1, e2⟩ := r1
        refine ⟨.cons (key_rx (k := k) ?_) q1, .cons ?_ q2⟩
        · have e1 : k = _ := e1
          rw [e1]
          exact p1
        · have q := Dx.rx I h e2
          rw [← p2] at q
          exact q
end
end
/-! ### repr and == of what a computation holds, cells looked through -/
def mapO {α β : Type} (f : α → Option β) : List α → Option (List β)
  | [] => some []
  | x :: xs => match f x with
    | some y => match mapO f xs with
      | some ys => some (y :: ys)
      | none => none
    | none => none
def toPyC : Nat → Cs → D → Option PyData
  | 0, _, _ => none
  | n + 1, c, d => match d with
    | .non => some .none
    | .bl b => some (.bool b)
    | .int i => some (.int i)
    | .str s => some (.str s)
    | .lst xs => (mapO (toPyC n c) xs).map .list
    | .ro xs => (mapO (toPyC n c) xs).map .list
    | .tup xs => (mapO (toPyC n c) xs).map .tuple
    | .dct kvs => (mapO (fun p => (toPyC n c p.2).map fun q => (kP p.1, q)) kvs).map .dict
    | .ref k => match c[k]? with
      | some (.lst xs) => (mapO (toPyC n c) xs).map .list
      | some (.dct kvs) => (mapO (fun p => (toPyC n c p.2).map fun q => (kP p.1, q)) kvs).map .dict
      | some (.frz d) => toPyC n c d
      | _ => none
    | _ => none
section
variable {K : PySem.W.Frag} {I H : Hp} {m : List Addr} {c : Cs}
theorem dxs_of {f : D → Option PyData} (hf : ∀ v d p, Rep K I m v d → f d = some p → Dx K H v p) : ∀ {vs : List V} {ds : List D} {ps : List PyData}, Reps K I m vs ds → mapO f ds = some ps → Dxs K H vs ps
  | _, _, _, .nil, e => by simp [mapO] at e; subst e; exact .nil
  | _, _, _, .cons (d := d) (ds := ds) h t, e => by
    unfold mapO at e
    cases q : f d with
    | none => rw [q] at e; cases e
    | some y =>
      cases q2 : mapO f ds with
      | none => rw [q, q2] at e; cases e
      | some ys => rw [q, q2] at e; cases e; exact .cons (hf _ _ _ h q) (dxs_of hf t q2)
theorem dxk_of {f : D → Option PyData} (hf : ∀ v d p, Rep K I m v d → f d = some p → Dx K H v p) : ∀ {vs : List (Key × V)} {ds : List (Key × D)} {ps : List (PyData × PyData)}, RepK K I m vs ds →
    mapO (fun p => (f p.2).map fun q => (kP p.1, q)) ds = some ps → Dxk K H vs ps
  | _, _, _, .nil, e => by simp [mapO] at e; subst e; exact .nil
  | _, _, _, .cons (k := k) (d := d) (ds := ds) h t, e => by
    unfold mapO at e
    cases q : f d with
    | none => simp only [q, Option.map_none] at e; cases e
    | some y =>
      cases q2 : mapO (fun p : Key × D => (f p.2).map fun q => (kP p.1, q)) ds with
      | none => simp only [q, q2, Option.map_some] at e; cases e
      | some ys => simp only [q, q2, Option.map_some] at e; cases e; exact .cons (hf _ _ _ h q) (dxk_of hf t q2)
theorem dx_of (R : Rel K I H m c) : ∀ (n : Nat) (v : V) (d : D) (p : PyData), Rep K I m v d → toPyC n c d = some p → Dx K H v p
  | 0, _, _, _, _, e => by cases e
  | n + 1, v, d, p, h, e => by
    have ih := dx_of R n
    cases h with
    | non => cases e; exact .non
    | bl b => cases e; exact .bl b
    | int i => cases e; exact .int i
    | str s => cases e; exact .str s
    | lst h r =>
      obtain ⟨ps, e1, rfl⟩ := Option.map_eq_some_iff.mp e
      exact .lst (.inl (.inl (R.same _ _ h))) (dxs_of ih r e1)
    | ro h r =>
      obtain ⟨ps, e1, rfl⟩ := Option.map_eq_some_iff.mp e
      exact .lst (R.same.seq h) (dxs_of ih r e1)
    | tup h r =>
      obtain ⟨ps, e1, rfl⟩ := Option.map_eq_some_iff.mp e
      exact .tup (sqT_same R.same h) (dxs_of ih r e1)
    | dct h r =>
      obtain ⟨ps, e1, rfl⟩ := Option.map_eq_some_iff.mp e
      exact .dct (R.same _ _ h) (dxk_of ih r e1)
    | @ref k a h =>
      have e : (match c[k]? with
        | some (.lst xs) => (mapO (toPyC n c) xs).map .list
        | some (.dct kvs) => (mapO (fun p => (toPyC n c p.2).map fun q => (kP p.1, q)) kvs).map .dict
        | some (.frz d) => toPyC n c d
        | _ => none) = some p := e
      cases q : c[k]? with
      | none => rw [q] at e; cases e
      | some x =>
        rw [q] at e
        have hc := R.cell k a x h q
        cases x with
        | lst xs =>
          obtain ⟨ps, e1, rfl⟩ := Option.map_eq_some_iff.mp e
          obtain ⟨_, vs, h1, h2⟩ := hc
          exact .lst (.inl (.inl h1)) (dxs_of ih h2 e1)
        | dct xs =>
          obtain ⟨ps, e1, rfl⟩ := Option.map_eq_some_iff.mp e
          obtain ⟨_, vs, h1, h2⟩ := hc
          exact .dct h1 (dxk_of ih h2 e1)
        | frz d => exact ih _ _ _ hc.2 e
        | _ => cases e
    | _ => cases e
def rReprX (K : PySem.W.Frag) : List V → Hp → VK → Prop := fun xs H Q => ∃ v d, xs = [v] ∧ Dx K H v d ∧ d.depth ≤ 60 ∧ d.showable = true ∧ d.shown.length ≤ sizeLine ∧ Q (.str d.shown) H
theorem call_reprX {X : Cx} (hg : X.A.guards = some []) (hu : X.A.units + 100 < cLine) : CallR X (.builtin "repr") (rReprX X.K) := fun pins s σ H xs us Q I r h => by
  obtain ⟨v, d, rfl, hd, hs, hw, hz, q⟩ := h
  obtain ⟨u, rfl, rx⟩ := vals1 r
  have hr := Dx.rx I hd rx
  have far : ∀ {a : Addr}, u = .ref a → wpAny (model X.prog X.w) X.A (call (.builtin "repr") [u]) (EP X pins σ Q) X.xe s := fun {a} e => by
    subst e
    exact repr_rx hr hw hg (by omega) (fun h' t tk k => ⟨.str _, H, I.kept k, ⟨t, rfl⟩, q⟩) hz
  cases hd with
  | non => cases (show u = Value.none from rx); exact PySem.P.repr_of_none ⟨.str _, H, I.tok _, ⟨_, rfl⟩, by simpa [PyData.shown] using q⟩
  | bl b => cases (show u = Value.bool b from rx); exact PySem.P.repr_of_bool ⟨.str _, H, I.tok _, ⟨_, rfl⟩, by simpa [PyData.shown] using q⟩
  | int i =>
    obtain ⟨t, rfl⟩ := rx
    exact PySem.P.repr_of_int (by simpa [PyData.showable] using hw) ⟨.str _, H, I.tok _, ⟨_, rfl⟩, by simpa [PyData.shown] using q⟩
  | str x =>
    obtain ⟨t, rfl⟩ := rx
    exact PySem.P.repr_of_str ⟨.str _, H, I.tok _, ⟨_, rfl⟩, by simpa [PyData.shown] using q⟩ (by simpa [PyData.shown] using hz)
  | lst h t => exact far rx
  | tup h t => exact far rx
  | dct h t => exact far rx
def okR (p : PyData) : Bool := decide (p.depth ≤ 60) && p.showable && decide (p.shown.length ≤ sizeLine)
def reprQ (d : D) (c : Cs) : R D := match toPyC 30 c d with
  | some p => if okR p = true then .ok (.str p.shown) c else .stuck
  | none => .stuck
def reprX : List D → Cs → R D := on1 reprQ
theorem cs_reprX : CallS K (rReprX K) reprX := fun I H m c vs ds W Q R p A => by
  obtain ⟨v, d, rfl, rfl, p, A⟩ := on1_arg p A
  unfold reprQ at A
  cases q : toPyC 30 c d with
  | none => rw [q] at A; exact A.elim
  | some y =>
    rw [q] at A
    by_cases h : okR y = true
    · have A2 : After (rD K) K I m H W Q (if okR y = true then .ok (.str y.shown) c else .stuck) := A
      rw [if_pos h] at A2
      simp only [okR, Bool.and_eq_true, decide_eq_true_eq] at h
      exact ⟨v, y, rfl, dx_of R 30 _ _ _ p q, h.1.1, h.1.2, h.2, A2.here R (.str _)⟩
    · have A2 : After (rD K) K I m H W Q (if okR y = true then .ok (.str y.shown) c else .stuck) := A
      rw [if_neg h] at A2
      exact A2.elim
/-- == of data that stands in cells, too -/
def rEqX (neg : Bool) (K : PySem.W.Frag) : R2 := fun x y H Q => ∃ d e, Dx K H x d ∧ Dx K H y e ∧ SeqAt.shaped d = true ∧ SeqAt.shaped e = true ∧ Q (.bl (if neg then !PyData.eqv d e else PyData.eqv d e)) H
theorem op_eqX {X : Cx} (hu : X.A.units + 64 < cLine) : OpR X (compareOp .Eq) (rEqX false X.K) := by
  intro pins s σ H x y v u Q I rx ry h
  obtain ⟨d, e, hd, he, sd, se, q⟩ := h
  obtain ⟨as, r1⟩ := (Dx.rx I hd rx).reads
  obtain ⟨bs, r2⟩ := (Dx.rx I he ry).reads
  exact SeqAt.compareEq_shaped r1 r2 sd se hu ⟨.bl _, H, I, rfl, q⟩
theorem op_neX {X : Cx} (hu : X.A.units + 64 < cLine) : OpR X (compareOp .NotEq) (rEqX true X.K) := by
  intro pins s σ H x y v u Q I rx ry h
  obtain ⟨d, e, hd, he, sd, se, q⟩ := h
  obtain ⟨as, r1⟩ := (Dx.rx I hd rx).reads
  obtain ⟨bs, r2⟩ := (Dx.rx I he ry).reads
  exact SeqAt.compareNe_shaped r1 r2 sd se hu ⟨.bl _, H, I, rfl, q⟩
def eqQ (neg : Bool) (d e : D) (c : Cs) : R D := match toPyC 30 c d with
  | some a => match toPyC 30 c e with
    | some b => if SeqAt.shaped a = true ∧ SeqAt.shaped b = true then .ok (.bl (if neg then !PyData.eqv a b else PyData.eqv a b)) c else .stuck
    | none => .stuck
  | none => .stuck
theorem eqQ_read {W : XK} {Q : VK} {v1 v2 : V} {d1 d2 : D} {neg : Bool} (R : Rel K I H m c) (p1 : Rep K I m v1 d1) (p2 : Rep K I m v2 d2) (A : After (rD K) K I m H W Q (eqQ neg d1 d2 c)) : rEqX neg K v1 v2 H Q := by
  unfold eqQ at A
  cases q1 : toPyC 30 c d1 with
  | none => rw [q1] at A; exact A.elim
  | some a =>
    cases q2 : toPyC 30 c d2 with
    | none => rw [q1, q2] at A; exact A.elim
    | some b =>
      rw [q1, q2] at A
      by_cases hs : SeqAt.shaped a = true ∧ SeqAt.shaped b = true
      · have A2 : After (rD K) K I m H W Q (if SeqAt.shaped a = true ∧ SeqAt.shaped b = true then .ok (.bl (if neg then !PyData.eqv a b else PyData.eqv a b)) c else .stuck) := A
        rw [if_pos hs] at A2
        exact ⟨a, b, dx_of R 30 _ _ _ p1 q1, dx_of R 30 _ _ _ p2 q2, hs.1, hs.2, A2.here R (.bl _)⟩
      · have A2 : After (rD K) K I m H W Q (if SeqAt.shaped a = true ∧ SeqAt.shaped b = true then .ok (.bl (if neg then !PyData.eqv a b else PyData.eqv a b)) c else .stuck) := A
        rw [if_neg hs] at A2
        exact A2.elim
/-- ==, !=: scalars and a dict against a text as before, all else by what the cells hold -/
def eqX : D → D → Cs → R D
  | .int i, .int j, c => .ok (.bl (decide (i = j))) c
  | .str i, .str j, c => .ok (.bl (decide (i = j))) c
  | .bl i, .bl j, c => .ok (.bl (decide (i = j))) c
  | .dct _, .str _, c => .ok (.bl false) c
  | d, e, c => eqQ false d e c
def neX : D → D → Cs → R D
  | .int i, .int j, c => .ok (.bl (!decide (i = j))) c
  | .str i, .str j, c => .ok (.bl (!decide (i = j))) c
  | .bl i, .bl j, c => .ok (.bl (!decide (i = j))) c
  | d, e, c => eqQ true d e c
def rEqY (K : PySem.W.Frag) : R2 := fun x y H Q => rEqB K x y H Q ∨ rEqX false K x y H Q
def rNeY (K : PySem.W.Frag) : R2 := fun x y H Q => rNeA K x y H Q ∨ rEqX true K x y H Q
theorem op_eqY {X : Cx} (hu : X.A.units + 64 < cLine) : OpR X (compareOp .Eq) (rEqY X.K) := (op_eqB hu).or (op_eqX hu)
theorem op_neY {X : Cx} (hu : X.A.units + 64 < cLine) : OpR X (compareOp .NotEq) (rNeY X.K) := (op_neA hu).or (op_neX hu)
theorem os_eqX : OpS K (rEqY K) eqX := fun I H m c v1 v2 d1 d2 W Q R p1 p2 A => by
  have gen : After (rD K) K I m H W Q (eqQ false d1 d2 c) → rEqY K v1 v2 H Q := fun A => .inr (eqQ_read R p1 p2 A)
  cases p1 with
  | int i => cases p2 with
    | int j => exact .inl (os_eqE I H m c _ _ _ _ W Q R (.int i) (.int j) A)
    | _ => exact gen A
  | str i => cases p2 with
    | str j => exact .inl (os_eqE I H m c _ _ _ _ W Q R (.str i) (.str j) A)
    | _ => exact gen A
  | bl i => cases p2 with
    | bl j => exact .inl (os_eqE I H m c _ _ _ _ W Q R (.bl i) (.bl j) A)
    | _ => exact gen A
  | dct h r => cases p2 with
    | str j => exact .inl (os_eqE I H m c _ _ _ _ W Q R (.dct h r) (.str j) A)
    | _ => exact gen A
  | _ => exact gen A
theorem os_neX : OpS K (rNeY K) neX := fun I H m c v1 v2 d1 d2 W Q R p1 p2 A => by
  have gen : After (rD K) K I m H W Q (eqQ true d1 d2 c) → rNeY K v1 v2 H Q := fun A => .inr (eqQ_read R p1 p2 A)
  cases p1 with
  | int i => cases p2 with
    | int j => exact .inl (os_ne I H m c _ _ _ _ W Q R (.int i) (.int j) A)
    | _ => exact gen A
  | str i => cases p2 with
    | str j => exact .inl (os_ne I H m c _ _ _ _ W Q R (.str i) (.str j) A)
    | _ => exact gen A
  | bl i => cases p2 with
    | bl j => exact .inl (os_ne I H m c _ _ _ _ W Q R (.bl i) (.bl j) A)
    | _ => exact gen A
  | _ => exact gen A
end
end L2.Mi

namespace L2.Mi
open PySem PySem.Spec PyProof.Rows L2

section
variable {K : PySem.W.Frag}
/-! ### in, of what stands in a cell -/
def inX (neg : Bool) (d e : D) (c : Cs) : R D := match e with
  | .ref k => match lstOf (.ref k) c with
    | some xs => inL neg d xs c
    | none => .stuck
  | e => inD neg d e c
theorem os_inX {neg : Bool} : OpS K (rInA K neg) (inX neg) := fun I H m c v1 v2 d1 d2 W Q R p1 p2 A => by
  have gen : After (rD K) K I m H W Q (inD neg d1 d2 c) → rInA K neg v1 v2 H Q := fun A => os_in I H m c v1 v2 d1 d2 W Q R p1 p2 A
  cases d2 with
  | ref k =>
    have A2 : After (rD K) K I m H W Q (match lstOf (.ref k) c with
      | some xs => inL neg d1 xs c
      | none => .stuck) := A
    cases e : lstOf (.ref k) c with
    | none => rw [e] at A2; exact A2.elim
    | some ds =>
      rw [e] at A2
      obtain ⟨a, vs, e1, hq, rr⟩ := lst_at R p2 e
      have A3 : After (rD K) K I m H W Q (inL neg d1 ds c) := A2
      unfold inL at A3
      by_cases hf : flatD d1 = true ∧ ds.all flatD = true
      · rw [if_pos hf] at A3
        refine .inr ⟨a, vs, e1, .inl hq, flat_rep p1 hf.1, flat_reps rr hf.2, ?_⟩
        unfold inV
        rw [any_reps p1 hf.1 rr hf.2]
        exact A3.here R (.bl _)
      · rw [if_neg hf] at A3
        exact A3.elim
  | _ => exact gen A
/-! ### s.split(sep): a list of its own -/
/-! ### methods of a list's cell -/
def isL (d : D) (c : Cs) : Bool := (lstOf d c).isSome
def mBM (g : D → List D → Cs → R D) (a : ME) (t : MA) : ME := fun l c => (a l c).bind fun x c1 => if isL x c1 = true then (t l c1).bind fun xs c2 => g x xs c2 else .stuck
def MethS (K : PySem.W.Frag) (r : V → List V → Hp → VK → Prop) (g : D → List D → Cs → R D) : Prop := ∀ (I H : Hp) (m : List Addr) (c : Cs) (v : V) (vs : List V) (d : D) (ds : List D) (W : XK) (Q : VK),
  Rel K I H m c → Rep K I m v d → Reps K I m vs ds → After (rD K) K I m H W Q (g d ds c) → r v vs H Q
theorem me_bm {X : Cx} {W : WX} {e : Expr} {fa : ME} {ga : MA} {r : V → List V → Hp → VK → Prop} {g : D → List D → Cs → R D} (h : PE X e (tBM X.K "list" r (rdE X.K W fa) (rdA X.K W ga))) (hs : MethS X.K r g) : PE X e (rdE X.K W (mBM g fa ga)) :=
  PEi h fun σ H Q ⟨I, m, l, c, R, L, A⟩ => ⟨I, m, l, c, R, L, After.mono (After.bind (rep := rD X.K) A) fun v1 H1 ⟨I1, m1, c1, d1, E1, R1, p1, A1⟩ => by
    have A1 : After (rD X.K) X.K I1 m1 H1 _ Q (if isL d1 c1 = true then (ga l c1).bind fun xs c2 => g d1 xs c2 else .stuck) := A1
    by_cases hl : isL d1 c1 = true
    · rw [if_pos hl] at A1
      obtain ⟨ds, hds⟩ := Option.isSome_iff_exists.mp hl
      obtain ⟨a, xs, e1, h1, _⟩ := lst_at R1 p1 hds
      subst e1
      refine ⟨.inl ⟨rfl, xs, h1⟩, I1, m1, l, c1, R1, L.ext E1, After.mono (After.bind (rep := rA X.K) A1) fun v2 H2 ⟨I2, m2, c2, d2, E2, R2, p2, A2⟩ => ?_⟩
      exact hs I2 H2 m2 c2 _ v2 d1 d2 _ Q R2 (Rep.ext p1 E2) p2 A2
    · rw [if_neg hl] at A1
      exact A1.elim⟩
def appendD : D → List D → Cs → R D := fun d ds c => match d, ds with
  | .ref k, [y] => match c[k]? with
    | some (.lst xs) => if xs.length < sizeLine then .ok .non (c.set k (.lst (xs ++ [y]))) else .stuck
    | _ => .stuck
  | _, _ => .stuck
theorem meth_append : MethS K rAppend appendD := fun I H m c v vs d ds W Q R p ps A => by
  cases d with
  | ref k =>
    cases ps with
    | nil => exact A.elim
    | @cons y ys dy dys h t =>
      cases t with
      | cons _ _ => exact A.elim
      | nil =>
        have A2 : After (rD K) K I m H W Q (match c[k]? with
          | some (.lst xs) => if xs.length < sizeLine then .ok .non (c.set k (.lst (xs ++ [dy]))) else .stuck
          | _ => .stuck) := A
        cases q : c[k]? with
        | none => rw [q] at A2; exact A2.elim
        | some x =>
          rw [q] at A2
          cases x with
          | lst xs =>
            cases p with
            | @ref _ a hm =>
              obtain ⟨_, ws, h1, h2⟩ := R.cell k a _ hm q
              by_cases hz : xs.length < sizeLine
              · have A3 : After (rD K) K I m H W Q (if xs.length < sizeLine then .ok .non (c.set k (.lst (xs ++ [dy]))) else .stuck) := A2
                rw [if_pos hz] at A3
                obtain ⟨R2, E2⟩ := R.put hm q (h2.append (.cons h .nil))
                exact ⟨a, ws, y, rfl, rfl, h1, by rw [h2.length]; exact hz, A3 _ _ _ _ E2 R2 .non⟩
              · have A3 : After (rD K) K I m H W Q (if xs.length < sizeLine then .ok .non (c.set k (.lst (xs ++ [dy]))) else .stuck) := A2
                rw [if_neg hz] at A3
                exact A3.elim
          | _ => exact A2.elim
  | _ => exact A.elim
end
/-! ### if (x := e) op f: -/
section
variable {X : Cx} {W : WX} {a b : Expr} {pos p p2 p3 : Pos} {f g : MS}
def sIfNm (i : Nat) (h : D → D → Cs → R D) (fa fb : ME) (f g : MS) : MS := fun l c => (fa l c).seq l fun x c1 => (fb (l.set i (some x)) c1).seq (l.set i (some x)) fun y c2 => (h x y c2).seq (l.set i (some x)) fun z c3 => match z with
  | .bl true => f (l.set i (some x)) c3
  | .bl false => g (l.set i (some x)) c3
  | _ => .stuck
end
/-! ### defs with defaults -/
section
variable {X : Cx} {W : WX} {k n : Nat} {f : Addr} {fd : FuncData} {ps ks : List Str} {g : List D → Cs → R D} {x : Str} {p pos : Pos} {e : Expr} {es : List Expr} {ga gk : MA}
/-- f(e, ..), defaults fill up -/
def mCBd (g : List D → Cs → R D) (n : Nat) (df : List D) (t : MA) : ME := fun l c => (t l c).bind fun xs c1 => if xs.length = n then g (xs ++ df) c1 else .stuck
/-- f(e, .., k = v, ..) -/
def mCBk (g : List D → Cs → R D) (gd : List D → List D → List D) (n j : Nat) (t tk : MA) : ME := fun l c => (t l c).bind fun xs c1 => (tk l c1).bind fun ys c2 => if xs.length = n ∧ ys.length = j then g (gd xs ys) c2 else .stuck
end
end L2.Mi
namespace L2.Mi
open PySem PySem.Spec PyProof.Rows L2
/-! ### s.index(y), found -/
section
variable {X : Cx} {K : PySem.W.Frag}
end
end L2.Mi

/-! own exceptions whose __init__ says super().__init__(text), self.f = p -/
namespace PySem.Mxe
open PySem PySem.W PySem.Calls PyProof.Rows PySem.Spec
open Builtin Builtin.ObjectAttr
section
variable {prog : Program} {w : World} {A : Around} {E : Value → Shared → Prop} {R : Result → Shared → Prop} {hp : Heap} {g : Array GenState} {d : Drawn} {t : Nat} {os : OsState}
theorem tail_ne {bmB : List Value} (hne : bmB.isEmpty = false) {l : List Value} (e : excTail bmB l = true) : l.isEmpty = false := by
  rcases excTail_cases l e with ⟨c, r, rfl, _⟩ | rfl
  · rfl
  · exact hne
theorem osa {K : W.Frag} {bmB : List Value} {name : Str} {tk : Tok} {v : Value} {x C : Addr} {fv : Array Value} {cd : ClassData} (hpass : ∀ self, refuseLoop self "__setattr__" bmB = pure ()) (hob : bmB.contains (.type "object") = true) (hbe : bmB.isEmpty = false)
    (X : K.In hp) (hx : hp.get? x = some { cls := .ref C, data := .fields fv }) (hcd : W.clsIn K C = some cd) (hm : excTail bmB cd.mro = true) (hh : cd.hasDict = true) (ha : W.findIn K (.ref C) name = some none)
    (hq : ∀ h' tk' dx, (∀ b o, b ≠ x → hp.get? b = some o → h'.get? b = some o) → hp.objs.size ≤ dx → dx ≠ x → h'.get? x = some { cls := .ref C, dict := some dx, data := .fields fv } →
      h'.Ns1 dx (fun y => if y = name then some v else none) → R (.ok (.ret .none)) ⟨h', g, d, tk', os⟩) :
    codeAny (model prog w) A (.call (.builtin "object.__setattr__") ⟨[.ref x, .str name tk, v], []⟩) R ⟨hp, g, d, t, os⟩ := by
  have I : W.InstAt hp x { cls := .ref C, data := .fields fv } C none := ⟨hx, rfl, rfl, trivial⟩
  have SF := PySem.F.store_object
  have ne := tail_ne hbe hm
  have hob : cd.mro.contains (.type "object") = true := (excTail_contains "object" _ hm).trans hob
  have hxs : x ≠ hp.objs.size := Nat.ne_of_lt (Heap.lt_size hx)
  have sub : W.Looks (model prog w) hp (isInstance (.ref x) (.type "object")) true := I.type.andThen (W.looks_mroIn X (by unfold W.mroIn; rw [hcd, Option.bind_some, if_neg (by rw [ne]; decide), hob]))
  refine codeAny_call_builtin SF.slot.plain SF.entry (@W.check_slot (model prog w) _ _ ⟨hp, g, d, t, os⟩ "object.__setattr__" "object" "__setattr__" (.ref x) [.str name tk, v] [] _ SF.kind SF.split sub (SF.args (.ref x) (.str name tk) v) ?_)
  have hmr : W.Looks (model prog w) hp (mroOf (.ref C)) cd.mro := (W.looks_clsIn X hcd).andThen .now
  have L3 : W.Looks (model prog w) hp (storeTaker? none) none := .now
  have hcls : W.Looks (model prog w) hp (classData C) cd := W.looks_clsIn X hcd
  rw [W.osa_eq, refuse_eq]
  refine wpAny_bind (wpAny_bind (I.type.at (wpAny_bind (hmr.at ?_))))
  rw [excTail_pass _ (hpass _) _ hm]
  refine wpAny_pure (wpAny_bind (I.type.at (wpAny_bind ((W.looks_findIn X ha).at (wpAny_bind (L3.at ?_))))))
  show wpAny _ _ (storeInOwnDict (.ref x) (.ref C) (.str name tk) name v false) _ _ _
  obtain ⟨nm, bs, mro, ns, qn, hd, sn, sb, ab, col, del⟩ := cd
  dsimp only at hh
  subst hh
  unfold storeInOwnDict ownDictForStores
  repeat (first | with_reducible refine HandSPX.store_in_new ?_ ?_ | with_reducible refine wpAny_loadPart_at hx ?_ | with_reducible refine hcls.at ?_ | wp_step)
  · exact ⟨_, #[], _, (Heap.get?_update_ne _ _ _ _ hxs.symm).trans (Heap.get?_push_at rfl rfl), rfl, fun e he => absurd he (by simp), fun _ => rfl⟩
  · intro h' tk' hn' hs
    have hx₁ : (hp.push { cls := .type "dict", data := .dict #[] }).get? x = some { cls := .ref C, data := .fields fv } := Heap.get?_push_of_some _ hx
    refine hq h' tk' hp.objs.size (fun b o hb ho => ?_) (Nat.le_refl _) hxs.symm ?_ hn'
    · exact (hs.2 b (Nat.ne_of_lt (Heap.lt_size ho))).trans ((Heap.get?_update_ne _ _ _ _ hb).trans (Heap.get?_push_of_some _ ho))
    · exact (hs.2 x hxs).trans (Heap.get?_update_self _ hx₁ rfl)

/-- what is known of such a class -/
structure XB (B newId i : String) (bmB : List Value) : Prop where
  FB : ExcBaseFacts B newId i bmB
  KF : KxsFacts B i
  pass : ∀ self, refuseLoop self "__setattr__" bmB = pure ()
  ob : bmB.contains (.type "object") = true
  ne : bmB.isEmpty = false
theorem xb_ValueError : XB "ValueError" "ValueError.__new__" "ValueError.__init__" [.type "ValueError", .type "Exception", .type "BaseException", .type "object"] := ⟨PySem.F.excBase_ValueError, kxs_ValueError, fun s => PySem.F.store_ValueError.passes s, by decide +kernel, rfl⟩
/-- the __init__'s text -/
structure XText (prog : Program) (scope : Scope) (par f msg : Str) (body : List Stmt) : Prop where
  kind : scope.kind = .function
  co : scope.isCoroutine = false
  gen : scope.isGenerator = false
  cell : ∀ x ∈ scope.names, x.2 ≠ .cell
  sup : scope.names.lookup ("super" : Str) = some .globalImplicit
  cls : scope.names.lookup ("__class__" : Str) = some .free
  self : scope.names.lookup ("self" : Str) = some .local
  par_ : scope.names.lookup par = some .local
  ne : (par == ("self" : Str)) = false
  dbg : (par == ("__debug__" : Str)) = false
  top : (prog.main.scope.names.lookup ("super" : Str)).isSome = false
  body : ∃ (p0 p1 p2 p3 p4 p5 p6 p7 p8 p9 : Pos) (j : Nat), (p2.endLine == p4.line) = true ∧ body = [.Expr (.Call (.Attribute (.Call (.Name "super" p0) [] [] p1) "__init__" p2) [.Constant (.str msg) j p3] [] p4) p5,
    .Assign [.Attribute (.Name "self" p6) f p7] (.Name par p8) p9]

theorem method_eq {o : Expr} {name msg : Str} {apos pos p : Pos} {j : Nat} {env : Env} (h : (apos.endLine == pos.line) = true) : eval (.Call (.Attribute o name apos) [.Constant (.str msg) j p] [] pos) env = (do
      let ov ← attributeBase o name env (eval o env)
      standAt apos.atName
      let (f, first) ← holding [ov] (getMethod ov name (do return (← importBound o env).getD true))
      callWith pos f first (backTo pos (starEach [.Constant (.str msg) j p] env)) []) := by
  show (do
    let ov ← attributeBase o name env (eval o env)
    standAt apos.atName
    methodCall o name apos pos env ov 1 (backTo pos (starEach [.Constant (.str msg) j p] env)) []) = _
  have e : ∀ ov, methodCall o name apos pos env ov 1 (backTo pos (starEach [.Constant (.str msg) j p] env)) [] = (do
      let (f, first) ← holding [ov] (getMethod ov name (do return (← importBound o env).getD true))
      callWith pos f first (backTo pos (starEach [.Constant (.str msg) j p] env)) []) := fun ov => by
    unfold methodCall methodCallPos
    rw [h, Bool.or_true]
    rfl
  simp only [e]

theorem not_interactive {env : Env} (h : env.scope.kind = .function) : interactive env = false := by unfold interactive; rw [h]; rfl

theorem init_call {K : Frag} {mg mb : Str → Option Value} {s : Shared} {B newId i : String} {bmB bm : List Value} {C e t0 fI cc cda N : Addr} {nm q qual par f msg file : Str} {tf : Tok} {bs : List Value} {sn : List Str} {sub : List Value} {ab : Bool} {col : Option Bool} {dd : Option Addr} {k0 k1 k2 k3 k5 : Option Value}
    {params : Arguments} {body : List Stmt} {scope : Scope} {dV kV doc pm ct oc ccl cl : Value} {an od cdd cld : Option Addr} {osl ccs csl : Array (Option Value)} {vs : Array Value} {ar : Arg} {v : Value}
    (XB : XB B newId i bmB) (XT : XText prog scope par f msg body)
    {hb : Heap} (Xb : K.In hb) (kb : ∀ b o, hb.get? b = some o → s.heap.get? b = some o) (neb : hb.get? e = none) (gl : s.heap.Ns mainGlobals mg) (hm : mg "super" = none) (bl : s.heap.Ns builtinsNs mb) (hmb : mb "super" = bootBuiltins "super") (lim : s.heap.NoLimit) (room : A.depth < recursionLimit)
    (hC : K.lookup C = some (excClassObj nm q C N bs bm true sn sub ab col dd k0 k1 k2 k3 k5 newId)) (ht : excTail bmB bm = true)
    (lf : K.lookup fI = some ⟨oc, od, .func (ksFn "__init__" qual params body scope dV kV doc pm an (.ref cda) ct cc), osl⟩) (hcd : codeIn K (.ref cda) qual = true)
    (lcode : K.lookup cda = some ⟨ccl, cdd, .fields vs, ccs⟩) (hvs : vs[2]? = some (.str file tf)) (hfile : ((prog.main.file : Str) == file) = true)
    (lcell : K.lookup cc = some ⟨cl, cld, .cell (some (.ref C)), csl⟩) (hsub : mroIn K C (.ref C) = some true) (hsup : ks_superIn K C C "__init__" = some (some (.builtin i))) (hB : subIn K (.ref C) (.type B) = some true)
    (noop : nsIn K cStatics "thirdparty.any" = some none) (sa : findIn K (.ref C) "__setattr__" = some (some (.builtin "object.__setattr__"))) (hno : findIn K (.ref C) f = some none)
    (hp : (params.posonlyargs ++ params.args).head? = some ar) (har : ar.arg = "self")
    (bind : BindsTo s (ksFn "__init__" qual params body scope dV kV doc pm an (.ref cda) ct cc) ⟨[.ref e, v], []⟩ [("self", .ref e), (par, v)])
    (he : s.heap.get? e = some (HandSPX.excO C t0))
    (hq : ∀ h' tk' dx t', (∀ b o, b ≠ e → s.heap.get? b = some o → h'.get? b = some o) → s.heap.objs.size ≤ dx → dx ≠ e → h'.get? e = some { HandSPX.excO C t' with dict := some dx } → h'.Ns1 dx (fun y => if y = f then some v else none) →
      R (.ok (.ret .none)) ⟨h', s.gens, s.drawn, tk', s.os⟩) :
    codeAny (model prog w) A (.call (.ref fI) ⟨[.ref e, v], []⟩) R s := by
  obtain ⟨p0, p1, p2, p3, p4, p5, p6, p7, p8, p9, j, hline, rfl⟩ := XT.body
  have X : K.In s.heap := Xb.keeps kb
  have hC1 := X _ _ hC
  have hcl : clsIn K C = some { name := nm, bases := bs, mro := .ref C :: bm, ns := N, qualname := q, hasDict := true, slotNames := sn, subclasses := sub, abstract := ab, collection := col, hasDel := false } := by unfold clsIn; rw [hC] <;> rfl
  have hbin : ∀ y ∈ [(("self" : Str), Value.ref e), (par, v)], scope.names.lookup y.1 = some .local := fun y hy => by
    rcases List.mem_cons.mp hy with rfl | hy
    · exact XT.self
    · rcases List.mem_singleton.mp hy with rfl
      exact XT.par_
  refine ks_codeAny_call_defAt room (X _ _ lf) rfl lim (codeRec_of X hcd) rfl bind XT.cell hbin (fun h1 hns k1 => ?_) XT.co XT.gen XT.kind
  have X1 : K.In h1 := X.keeps k1
  have ns_self : (fun x => List.lookup x [(("self" : Str), Value.ref e), (par, v)].reverse) ("self" : Str) = some (.ref e) := by
    show List.lookup ("self" : Str) [(par, v), (("self" : Str), Value.ref e)] = _
    have z : (("self" : Str) == par) = false := by rw [BEq.comm]; exact XT.ne
    rw [List.lookup_cons, z]
    rfl
  have ns_par : (fun x => List.lookup x [(("self" : Str), Value.ref e), (par, v)].reverse) par = some v := by
    show List.lookup par [(par, v), (("self" : Str), Value.ref e)] = _
    rw [List.lookup_cons, beq_self_eq_true]
  generalize hm0 : (fun x => List.lookup x [(("self" : Str), Value.ref e), (par, v)].reverse) = m0 at hns ns_self ns_par
  obtain ⟨h0, g, d, tk0, os⟩ := s
  dsimp only at X kb gl bl lim he hq hns k1 ⊢
  have he1 : h1.get? e = some (HandSPX.excO C t0) := k1 _ _ he
  refine ks_wpAt_execs_cons (ks_wpAt_Expr_any (ks_wpAt_MethodCall ?_ (method_eq hline)) (not_interactive XT.kind) rfl)
  refine ks_wpAt_super_base XT.sup XT.cls (by decide) rfl (X1 _ _ lf) rfl hp rfl (X1 _ _ lcode) rfl hvs hfile XT.top ?_
  refine ks_loadName_global XT.kind XT.sup (loadGlobal_builtin (gl.keeps k1) hm (bl.keeps k1) (hmb.trans (by decide +kernel : bootBuiltins "super" = some (.type "super"))) ⟨rfl, ?_⟩)
  refine wpAny_loadName_free XT.kind XT.cls rfl ⟨_, X1 _ _ lcell, rfl⟩ ?_
  rw [har]
  refine wpAny_loadName_local XT.kind XT.self hns ns_self ?_
  refine ks_wpAny_isType_cls (X1 _ _ hC) rfl ⟨rfl, ?_⟩
  refine ks_wpAny_call_super (X1 _ _ hC) rfl he1 rfl (fun c z => by cases z) (looks_mroIn X1 hsub) (fun h2 so k2 => ?_)
  have X2 : K.In h2 := X1.keeps k2
  have he2 : h2.get? e = some (HandSPX.excO C t0) := k2 _ _ he1
  have I2 : InstAt h2 e (HandSPX.excO C t0) C none := ⟨he2, rfl, rfl, trivial⟩
  have hI : Looks (model prog w) h2 (isInstance (.ref e) (.type B)) true := I2.type.andThen (looks_subIn X2 hB)
  have hal : alongIn K "__init__" (((Value.ref C :: bm).dropWhile (· != .ref C)).drop 1) = some (some (.builtin i)) := by
    unfold ks_superIn at hsup
    rw [hcl] at hsup
    exact hsup
  refine kxs_getMethod XB.KF so (looks_opaque X2 noop) (l₀ := .ref C :: bm) (fun A Q E s k q => wpAny_bind ((looks_clsIn X2 hcl) A _ E s k (wpAny_pure q))) rfl X2 hal hI (ks_ne X2 I2 hcl) (by decide) ?_
  have kp : ∀ b o, h2.get? b = some o → (h2.push (kxs_mw i e)).get? b = some o := fun b o z => Heap.get?_push_of_some _ z
  have hmw : (h2.push (kxs_mw i e)).get? h2.objs.size = some (kxs_mw i e) := Heap.get?_push_at rfl rfl
  refine kxs_callWith (i := i) (x := e) rfl (evalArgs_plain (spliced_cons (Constant_str (k := j) (pos := p3) (spliced_nil ⟨hmw, ?_⟩))))
  have X3 : K.In (h2.push (kxs_mw i e)) := X2.keeps kp
  have he3 : (h2.push (kxs_mw i e)).get? e = some (HandSPX.excO C t0) := kp _ _ he2
  refine wpAny_call (codeAny_of_tree ?_)
  show wpAny _ _ (callAny (.ref h2.objs.size) ⟨[.str msg _], []⟩) _ _ _
  simp only [callAny]
  refine wpAny_bind (wpAny_load hmw ?_)
  simp only [kxs_mw, show (Value.type "method-wrapper" == Value.type "method" || Value.type "method-wrapper" == Value.type "builtin_function_or_method" || Value.type "method-wrapper" == Value.type "method-wrapper") = true by decide, if_true]
  refine KFB.if_so (by decide) ?_
  refine wpAny_bind (check_bound_init XB.FB.toExcCallFacts (X3 _ _ hC) he3 rfl ?_)
  refine wpAny_bind (wpAny_pure (wpAny_pure ?_))
  refine ⟨plainId_quiet XB.FB.init.plain _, codeAny_builtin XB.FB.initEntry ?_⟩
  refine exc_init_tree (cls := .ref C) (t0 := t0) (dv := none) (c2 := .none) (c3 := .none) (b4 := .bool false) he3 (by rw [sizeLine_eq]; show 1 ≤ _; omega) (fun h4 k4 he4 _ => ?_)
  have kk : ∀ b o, b ≠ e → h0.get? b = some o → h4.get? b = some o := fun b o hb z => k4 b o hb (kp _ _ (k2 _ _ (k1 _ _ z)))
  have Ce : C ≠ e := fun z => by rw [z, he] at hC1; cases hC1
  have X4 : K.In h4 := Xb.keeps fun b o z => kk b o (fun y => by rw [y, neb] at z; cases z) (kb b o z)
  have hns4 : h4.Ns h0.objs.size m0 := by
    obtain ⟨oL, es, ep, hL, r⟩ := hns
    exact ⟨oL, es, ep, k4 _ _ (fun z => absurd (Heap.lt_size he) (by rw [z]; exact Nat.lt_irrefl _)) (kp _ _ (k2 _ _ hL)), r⟩
  refine ks_wpAt_execs_cons (ks_wpAt_Assign_Attr (wpAt_of_wpAny ?_))
  refine wpAny_Name ?_ XT.dbg
  refine wpAny_loadName_local ?kk1 ?kk2 hns4 ns_par ?_
  case kk1 => exact XT.kind
  case kk2 => exact XT.par_
  refine wpAny_Name ?_
  refine wpAny_loadName_local ?kl1 ?kl2 hns4 ns_self ?_
  case kl1 => exact XT.kind
  case kl2 => exact XT.self
  refine PySem.W.set_plain (od := none) X4 ⟨he4, rfl, rfl, trivial⟩ sa ?_
  refine osa XB.pass XB.ob XB.ne X4 he4 hcl (show excTail bmB (.ref C :: bm) = true from ht) rfl hno (fun h5 tk5 dx k5 dn dne hx hn => ?_)
  have hz : h0.objs.size ≤ h4.objs.size := by
    obtain ⟨oL, es, ep, hL, r⟩ := hns4
    exact Nat.le_of_lt (Heap.lt_size hL)
  refine wpAt_of_wpAny (wpAny_execs_nil ?_)
  exact hq h5 tk5 dx _ (fun b o hb z => k5 b o hb (kk b o hb z)) (Nat.le_trans hz dn) dne hx hn
end
end PySem.Mxe

namespace L2.Mi
open PySem PySem.Spec PyProof.Rows L2

/-! ### own exceptions: made and raised -/
/-- the class n has the field f, its __init__ says super().__init__(text); self.f = p -/
structure XOwn (P : Program) (K : PySem.W.Frag) (n f : Str) : Prop where
  ex : ∃ (C fI : Addr), PySem.W.nsIn K mainGlobals n = some (some (.ref C)) ∧
    (∃ (B newId i : String) (bmB bm : List Value) (N : Addr) (nm q : Str) (bs : List Value) (sn : List Str) (sub : List Value) (ab : Bool) (col : Option Bool) (dd : Option Addr) (k0 k1 k2 k3 k5 : Option Value),
      PySem.Mxe.XB B newId i bmB ∧ K.lookup C = some (excClassObj nm q C N bs bm true sn sub ab col dd k0 k1 k2 k3 k5 newId) ∧ PySem.W.excTail bmB bm = true ∧
      PySem.W.ks_superIn K C C "__init__" = some (some (.builtin i)) ∧ PySem.W.subIn K (.ref C) (.type B) = some true) ∧
    PySem.W.findIn K (.ref C) "__init__" = some (some (.ref fI)) ∧ PySem.W.typeIn K (.ref fI) = some (.type "function") ∧
    (∃ (cc cda : Addr) (qual par msg file : Str) (tf : Tok) (params : Arguments) (body : List Stmt) (scope : Scope) (dV kV doc pm ct oc ccl cl : Value) (an od cdd cld : Option Addr) (osl ccs csl : Array (Option Value)) (vs : Array Value) (ar : Arg),
      PySem.Mxe.XText P scope par f msg body ∧ K.lookup fI = some ⟨oc, od, .func (PySem.W.ksFn "__init__" qual params body scope dV kV doc pm an (.ref cda) ct cc), osl⟩ ∧ PySem.W.codeIn K (.ref cda) qual = true ∧
      K.lookup cda = some ⟨ccl, cdd, .fields vs, ccs⟩ ∧ vs[2]? = some (.str file tf) ∧ ((P.main.file : Str) == file) = true ∧ K.lookup cc = some ⟨cl, cld, .cell (some (.ref C)), csl⟩ ∧
      (params.posonlyargs ++ params.args).head? = some ar ∧ ar.arg = "self" ∧
      ∀ (s : Shared) (e v : Value), BindsTo s (PySem.W.ksFn "__init__" qual params body scope dV kV doc pm an (.ref cda) ct cc) ⟨[e, v], []⟩ [("self", e), (par, v)]) ∧
    PySem.W.mroIn K C (.ref C) = some true ∧ PySem.W.findIn K (.ref C) "__setattr__" = some (some (.builtin "object.__setattr__")) ∧ PySem.W.findIn K (.ref C) f = some none ∧
    PySem.W.subIn K (.ref C) (.type "BaseException") = some true ∧ PySem.W.typeIn K (.ref C) = some (.type "type") ∧ PySem.W.keepIn K (.ref C) = true ∧
    PySem.W.findIn K (.ref C) "__getattribute__" = some (some (.builtin "BaseException.__getattribute__")) ∧ PySem.W.findIn K (.ref C) "__getattr__" = some none ∧ PySem.W.hasDictIn K C = true
/-- the module's word for exceptions -/
structure XMod (K : PySem.W.Frag) (mg : Str → Option Value) : Prop where
  sup : mg "super" = none
  nop : PySem.W.nsIn K cStatics "thirdparty.any" = some none

def oneQ (F : V → Hp → Prop) : List V → Hp → Prop := fun ws H => match ws with
  | [v] => F v H
  | _ => False
section
variable {X : Cx} {W : WX} {n x f : Str} {e : Expr} {te : TE} {fa : ME} {p pos : Pos}
theorem pmk_x (T : XOwn X.prog X.K n f) (M : XMod X.K X.mg) (hr : Room 1 X.A) (hg : Gl X n) (hm : ∀ C, PySem.W.nsIn X.K mainGlobals n = some (some (.ref C)) → X.mg n = some (.ref C)) (hev : PE X e te)
    (hdb : (n == ("__debug__" : Str)) = false := by decide) (he : starEach [e] X.env = (false, eval e X.env) :: starEach [] X.env := by rfl) (hpl : (backTo pos (starEach [] X.env)).any (·.1) = false := by rfl) :
    PMk X (.Call (.Name n p) [e] [] pos) (fun σ H Q => te σ H fun v H1 => ∃ C, PySem.W.nsIn X.K mainGlobals n = some (some (.ref C)) ∧ ∀ d, H1 d = none → Q (.ref C) (some d) (upd H1 d (.xd [(f, v)]))) := by
  obtain ⟨C, fI, nC, ⟨B, newId, i, bmB, bm, N, nm, q, bs, sn, sub, ab, col, dd, k0, k1, k2, k3, k5, XB, hC, ht, hsup, hB⟩, iC, tI, ⟨cc, cda, qual, par, msg, file, tf, params, body, scope, dV, kV, doc, pm, ct, oc, ccl, cl, an, od, cdd, cld, osl, ccs, csl, vs, ar, XT, lf, hcd, lcode, hvs, hfile, lcell, hp, har, bind⟩, hsub, sa, hno, exC, tyC, kC, _⟩ := T.ex
  intro pins s σ H Q I h
  refine wpAny_Call_Name_kw (ld_glob I hg (hm C nC) ?_ hdb)
  refine PySem.W.callWith_K (h₀ := X.base) I.ok.mod.kin kC (thn ((pa_cons hev pa_nil he).run pos pins s σ H (oneQ fun v H1 => ∃ C, PySem.W.nsIn X.K mainGlobals n = some (some (.ref C)) ∧ ∀ d, H1 d = none → Q (.ref C) (some d) (upd H1 d (.xd [(f, v)]))) I h) fun us s1 ⟨ws, H1, I1, r1, q1⟩ => ⟨I1.kIn, ?_⟩) he hpl
  show wpAny _ _ (call (.ref C) us) _ _ _
  obtain ⟨v, rfl⟩ : ∃ v, ws = [v] := by
    match ws, q1 with
    | [v], _ => exact ⟨v, rfl⟩
  obtain ⟨u, rfl, rv⟩ := vals1 r1
  obtain ⟨C', nC', q2⟩ : ∃ C, PySem.W.nsIn X.K mainGlobals n = some (some (.ref C)) ∧ ∀ d, H1 d = none → Q (.ref C) (some d) (upd H1 d (.xd [(f, v)])) := q1
  obtain rfl : C' = C := by rw [nC] at nC'; cases nC'; rfl
  obtain ⟨hp1, g, dr, tk, os⟩ := s1
  have hT : ∀ Y : String, bm.contains (.type Y) = bmB.contains (.type Y) := fun Y => PySem.W.excTail_contains Y bm ht
  refine wpAny_call (PySem.HandSPX.call_own XB.FB hT (I1.kIn _ _ hC) (PySem.W.looks_findIn I1.kIn iC) (fun self => PySem.W.bind_fn I1.kIn self tI) (by rw [sizeLine_eq]; show 1 ≤ _; omega) ?_)
  have kk : ∀ b o, hp1.get? b = some o → ((hp1.push (PySem.W.kdv_tup [u])).push (PySem.HandSPX.excO C' hp1.objs.size)).get? b = some o := fun b o z => Heap.get?_push_of_some _ (Heap.get?_push_of_some _ z)
  have hsz : hp1.objs.size ≤ ((hp1.push (PySem.W.kdv_tup [u])).push (PySem.HandSPX.excO C' hp1.objs.size)).objs.size := by
    rw [Heap.size_push, Heap.size_push]
    exact Nat.le_succ_of_le (Nat.le_succ _)
  have hget : ((hp1.push (PySem.W.kdv_tup [u])).push (PySem.HandSPX.excO C' hp1.objs.size)).get? (hp1.objs.size + 1) = some (PySem.HandSPX.excO C' hp1.objs.size) := by heap_get
  have hbk : ∀ b o, X.base.get? b = some o → hp1.get? b = some o := I1.bk
  obtain ⟨mb, hmb, hmb2⟩ := I1.mod.blt
  have bsz : X.base.objs.size ≤ hp1.objs.size := Nat.le_trans I1.ok.bsz I1.sz
  have neb : X.base.get? (hp1.objs.size + 1) = none := Heap.get?_none_of_le (Nat.le_trans bsz (Nat.le_succ _))
  refine PySem.Mxe.init_call XB XT (s := ⟨(hp1.push (PySem.W.kdv_tup [u])).push (PySem.HandSPX.excO C' hp1.objs.size), g, dr, tk, os⟩) I1.mod.kin (fun b o z => kk b o (hbk b o z)) neb ((I1.mod.glob.keeps hbk).keeps kk) M.sup ((hmb.keeps hbk).keeps kk) (hmb2 "super" (by decide)) (I1.nolimit.keeps kk) ?_
    hC ht lf hcd lcode hvs hfile lcell hsub hsup hB M.nop sa hno hp har (bind _ _ _) hget ?_
  · exact (hr.make (k := 0) C' [u] []).depth
  · intro h' tk' dx t' k' dn dne he' hns
    refine ⟨rfl, ?_⟩
    have hn1 : H1 dx = none := I1.hok.fresh (Nat.le_trans hsz dn)
    obtain ⟨G, g1', g2'⟩ := restrict h' fun b => decide (b ≠ hp1.objs.size + 1)
    have gk : ∀ b, b ≠ hp1.objs.size + 1 → G.get? b = h'.get? b := fun b hb => g1' b (decide_eq_true hb)
    have ge : G.get? (hp1.objs.size + 1) = none := g2' _ (by simp)
    have kG : ∀ b o, hp1.get? b = some o → G.get? b = some o := fun b o z => by
      have hb : b ≠ hp1.objs.size + 1 := Nat.ne_of_lt (Nat.lt_succ_of_lt (Heap.lt_size z))
      rw [gk b hb]
      exact k' b o hb (kk b o z)
    have na : H1 (hp1.objs.size + 1) = none := I1.hok.fresh (Nat.le_succ _)
    have J : Inv X pins σ (upd H1 dx (.xd [(f, v)])) ⟨G, g, dr, tk', os⟩ := I1.laid (t' := tk') (a := dx) (o := .xd [(f, v)]) (h' := G) kG (Nat.le_trans hsz dn)
      ⟨_, hns.at fun o z => (gk dx dne).trans z, relO_put (fs := []) rv fun g => True.intro⟩
    refine ⟨hp1.objs.size + 1, _, _, ⟨G, g, dr, tk', os⟩, _, .ref C', some dx, rfl, J, fun b o z => ?_, ge, he', ⟨rfl, rfl⟩, rfl, rfl, ?_, rfl, J.bare, raises_own exC tyC, q2 dx hn1⟩
    · by_cases hb : b = hp1.objs.size + 1
      · rw [hb, ge] at z
        cases z
      · exact (gk b hb).symm.trans z
    · rw [upd_ne (Ne.symm dne)]
      exact na
/-- raise n(e) -/
def sRaise (n f : Str) (a : ME) : MS := fun l c => (a l c).seq l fun d c1 => .exc ⟨n, [(f, d)]⟩ l c1
theorem ms_raise {p2 : Pos} (hc : X.calm = true) (tk : Takes X W) (T : XOwn X.prog X.K n f) (M : XMod X.K X.mg) (hr : Room 1 X.A) (hg : Gl X n) (hm : ∀ C, PySem.W.nsIn X.K mainGlobals n = some (some (.ref C)) → X.mg n = some (.ref C)) (ha : PE X e (rdE X.K W fa))
    (hdb : (n == ("__debug__" : Str)) = false := by decide) (he : starEach [e] X.env = (false, eval e X.env) :: starEach [] X.env := by rfl) (hpl : (backTo pos (starEach [] X.env)).any (·.1) = false := by rfl) :
    PS X (.Raise (some (.Call (.Name n p) [e] [] pos)) none p2) (rdS X.K W (sRaise n f fa)) :=
  PSi (ps_raise hc tk (pmk_x T M hr hg hm ha hdb he hpl)) fun D σ H ⟨I, m, l, c, R, L, A⟩ => ⟨I, m, l, c, R, L, After.mono (AfterS.seq (rep := rD X.K) L A) fun v H1 ⟨I1, m1, c1, d1, E1, R1, p1, A1⟩ => by
    obtain ⟨C, _, nC, _⟩ := T.ex
    refine ⟨C, nC, fun d nd => ?_⟩
    obtain ⟨R2, E2⟩ := alloc (o := .xd [(f, v)]) R1 nd
    exact A1 _ _ _ σ (.ref C) (some d) E2 R2 ((L.ext E1).ext E2) ⟨.inl nC, .inr ⟨d, [(f, v)], rfl, upd_same, .cons (Rep.ext p1 E2) .nil⟩⟩⟩
end

/-! ### try: several clauses, with and without a name -/
inductive HdT where
  | cl (c : Value) (as : Option Nat) (ts : Addr → Value → Option Addr → TS)
  | stop
section
variable {X : Cx} {body : List Stmt} {h₀ : ExceptHandler} {hds : List ExceptHandler} {l : List HdT} {pos : Pos} {tb : WX → TS} {Wout : WX}
end

/-! ### try over values -/
inductive HE where
  | cl (c : Str) (as : Option Nat) (f : Ex → MS)
  | stop
def wipe (i : Nat) (r : RS) : RS := match r with
  | .go (.nx l) c => .go (.nx (l.set i none)) c
  | .go (.bk l) c => .go (.bk (l.set i none)) c
  | .go (.ct l) c => .go (.ct (l.set i none)) c
  | .go (.rt d) c => .go (.rt d) c
  | _ => .stuck
section
variable {X : Cx} {ns : List Str} {hds : List ExceptHandler} {hes : List HE}
end

/-! ### a field of the caught exception -/
theorem RepF.look {K : PySem.W.Frag} {I : Hp} {m : List Addr} {f : Str} {d : D} : ∀ {vs : List (Str × V)} {ds : List (Str × D)}, RepF K I m vs ds → ds.lookup f = some d → ∃ v, vs.lookup f = some v ∧ Rep K I m v d
  | _, _, .nil, e => by cases e
  | _, _, .cons (k := k) h t, e => by
    rw [List.lookup_cons] at e ⊢
    cases q : f == k with
    | true => rw [q] at e; cases e; exact ⟨_, rfl, h⟩
    | false => rw [q] at e; exact RepF.look t e
end L2.Mi

/-! instances: fields, making, methods, properties -/
namespace L2.Mi
open PySem PySem.Spec PyProof.Rows L2

def insOf (d : D) (c : Cs) : Option (Str × List (Str × D)) := match d with
  | .obj n fs => some (n, fs)
  | .ref k => match c[k]? with
    | some (.ins n fs) => some (n, fs)
    | some (.frz (.obj n fs)) => some (n, fs)
    | _ => none
  | _ => none
section
variable {K : PySem.W.Frag} {I H : Hp} {m : List Addr} {c : Cs}
theorem ins_at {v : V} {d : D} {n : Str} {fs : List (Str × D)} (R : Rel K I H m c) (p : Rep K I m v d) (e : insOf d c = some (n, fs)) : ∃ (a C dx : Addr) (vs : List (Str × V)), v = .ref a ∧ NamV K n (.ref C) ∧ H a = some (.ins C dx vs) ∧ RepF K I m vs fs := by
  cases p with
  | @obj a C dx n' vs ds hn h r => cases e; exact ⟨a, C, dx, vs, rfl, hn, R.same _ _ h, r⟩
  | @ref k a q =>
    have e : (match c[k]? with
      | some (.ins n fs) => some (n, fs)
      | some (.frz (.obj n fs)) => some (n, fs)
      | _ => none) = some (n, fs) := e
    cases z : c[k]? with
    | none => rw [z] at e; cases e
    | some x =>
      rw [z] at e
      have hc := R.cell k a x q z
      cases x with
      | ins n' ds =>
        cases e
        obtain ⟨_, dx, vs, _, _, _, ⟨C, hn, hH⟩, r⟩ := hc
        exact ⟨a, C, dx, vs, rfl, hn, hH, r⟩
      | frz d =>
        cases d with
        | obj n' ds =>
          cases e
          obtain ⟨_, hr⟩ := hc
          cases hr with
          | obj hn h r => exact ⟨a, _, _, _, rfl, hn, R.same _ _ h, r⟩
        | _ => cases e
      | _ => cases e
  | _ => cases e
theorem RepF.lookN {f : Str} : ∀ {vs : List (Str × V)} {ds : List (Str × D)}, RepF K I m vs ds → ds.lookup f = none → vs.lookup f = none
  | _, _, .nil, _ => rfl
  | _, _, .cons (k := k) h t, e => by
    rw [List.lookup_cons] at e ⊢
    cases q : f == k with
    | true => rw [q] at e; cases e
    | false => rw [q] at e; exact RepF.lookN t e
def putFD (f : Str) (d : D) : List (Str × D) → List (Str × D)
  | [] => [(f, d)]
  | (g, x) :: r => if g = f then (g, d) :: r else (g, x) :: putFD f d r
theorem RepF.put {f : Str} {v : V} {d : D} (p : Rep K I m v d) : ∀ {vs : List (Str × V)} {ds : List (Str × D)}, RepF K I m vs ds → RepF K I m (putF f v vs) (putFD f d ds)
  | _, _, .nil => .cons p .nil
  | _, _, .cons (k := k) h t => by
    unfold putF putFD
    by_cases e : k = f
    · rw [if_pos e, if_pos e]; exact .cons p t
    · rw [if_neg e, if_neg e]; exact .cons h (RepF.put p t)
theorem RepF.length : ∀ {vs : List (Str × V)} {ds : List (Str × D)}, RepF K I m vs ds → vs.length = ds.length
  | _, _, .nil => rfl
  | _, _, .cons _ t => congrArg (· + 1) (RepF.length t)
/-- a new cell of any kind -/
theorem Rel.pushC (r : Rel K I H m c) {p : Addr} (np : H p = none) {o : HO} {x : Cell} (q : CellAt K I (upd H p o) (m ++ [p]) p x) : Rel K I (upd H p o) (m ++ [p]) (c ++ [x]) ∧ Ext I m H I (m ++ [p]) (upd H p o) := by
  have sH : Same H (upd H p o) := fun b u e => by rw [upd_ne (ne_of_none e np)]; exact e
  have hp := pre_app m p
  have nm := r.fresh np
  refine ⟨⟨r.same.trans sH, by simp [r.len], fun i j a h1 h2 => ?_, fun k a x h1 h2 => ?_, r.tabs.upHm (nt_none np)⟩, Same.refl I, hp, fun b o h1 hT h2 h3 => ⟨sH _ _ h1, h2, ?_⟩⟩
  · rcases Nat.lt_or_ge i m.length with hi | hi
    · rcases Nat.lt_or_ge j m.length with hj | hj
      · rw [List.getElem?_append_left hi] at h1
        rw [List.getElem?_append_left hj] at h2
        exact r.nd i j a h1 h2
      · rw [List.getElem?_append_left hi] at h1
        rw [List.getElem?_append_right hj] at h2
        have e : a = p := by
          cases z : j - m.length with
          | zero => rw [z] at h2; simpa using h2.symm
          | succ n => rw [z] at h2; simp at h2
        exact absurd (List.mem_of_getElem? h1) (e ▸ nm)
    · rcases Nat.lt_or_ge j m.length with hj | hj
      · rw [List.getElem?_append_left hj] at h2
        rw [List.getElem?_append_right hi] at h1
        have e : a = p := by
          cases z : i - m.length with
          | zero => rw [z] at h1; simpa using h1.symm
          | succ n => rw [z] at h1; simp at h1
        exact absurd (List.mem_of_getElem? h2) (e ▸ nm)
      · have hi' := (List.getElem?_eq_some_iff.mp h1).1
        have hj' := (List.getElem?_eq_some_iff.mp h2).1
        simp at hi' hj'
        omega
  · rcases Nat.lt_or_ge k m.length with hk | hk
    · rw [List.getElem?_append_left hk] at h1
      rw [List.getElem?_append_left (by rw [← r.len]; exact hk)] at h2
      have q := r.cell k a x h1 h2
      cases x with
      | lst es =>
        obtain ⟨q1, ws, q2, q3⟩ := q
        exact ⟨q1, ws, sH _ _ q2, q3.mono (Same.refl I) hp⟩
      | dct es =>
        obtain ⟨q1, ws, q2, q3⟩ := q
        exact ⟨q1, ws, sH _ _ q2, q3.mono (Same.refl I) hp⟩
      | dT es =>
        obtain ⟨q1, ws, q2, q3⟩ := q
        exact ⟨q1, ws, sH _ _ q2, q3.mono (Same.refl I) hp⟩
      | dTz es => exact q.imp (fun _ y => y.imp fun _ y => ⟨y.1, y.2.mono (Same.refl I) hp⟩)
      | ins C es =>
        obtain ⟨q1, dx, ws, q2, q3, q4, q5, q6⟩ := q
        exact ⟨q1, dx, ws, q2, fun z => by
          rcases List.mem_append.mp z with z | z
          · exact q3 z
          · simp only [List.mem_singleton] at z
            exact ne_of_none q4 np z, sH _ _ q4, q5.imp fun _ z => ⟨z.1, sH _ _ z.2⟩, q6.mono (Same.refl I) hp⟩
      | frz d => exact ⟨q.1, q.2.mono (Same.refl I) hp⟩
    · have hk' := (List.getElem?_eq_some_iff.mp h1).1
      simp at hk'
      have e : k = m.length := by omega
      subst e
      rw [List.getElem?_append_right (Nat.le_refl _)] at h1
      rw [r.len, List.getElem?_append_right (Nat.le_refl _)] at h2
      simp at h1 h2
      subst h1; subst h2
      exact q
  · intro z
    rcases List.mem_append.mp z with z | z
    · exact h3 z
    · simp only [List.mem_singleton] at z
      exact ne_of_none h1 np z
/-- a new instance -/
theorem Rel.pushI (r : Rel K I H m c) {x dx C : Addr} {n : Str} (nx : H x = none) (nd : H dx = none) (ne : dx ≠ x) (hn : NamV K n (.ref C)) :
    Rel K I (upd (upd H dx (.own x)) x (.ins C dx [])) (m ++ [x]) (c ++ [.ins n []]) ∧ Ext I m H I (m ++ [x]) (upd (upd H dx (.own x)) x (.ins C dx [])) := by
  have r1 : Rel K I (upd H dx (.own x)) m c := r.sideO (fun y z => by rw [nd] at z; cases z) (fun o z => by rw [nd] at z; first | (cases z; done) | (cases z; exact ⟨(fun _ q => nomatch q), (fun _ q => nomatch q)⟩)) (r.same.free nd) (r.fresh nd)
  have nx1 : upd H dx (.own x) x = none := by rw [upd_ne (Ne.symm ne)]; exact nx
  have nxm := r.fresh nx
  obtain ⟨r2, e2⟩ := r1.pushC (o := .ins C dx []) (x := .ins n []) nx1 ⟨r.same.free nx, dx, [], r.same.free nd, fun z => by
    rcases List.mem_append.mp z with z | z
    · exact r.fresh nd z
    · simp only [List.mem_singleton] at z; exact ne z, by rw [upd_ne ne, upd_same], ⟨C, hn, upd_same⟩, .nil⟩
  refine ⟨r2, (Ext.trans ⟨Same.refl I, Pre.refl m, fun b o h1 hT h2 h3 => ⟨by rw [upd_ne (ne_of_none h1 nd)]; exact h1, h2, h3⟩⟩ e2)⟩
/-- a field is stored -/
theorem Rel.putI (r : Rel K I H m c) {k : Nat} {a C dx : Addr} {n : Str} {vs0 vs : List (Str × V)} {fs0 fs : List (Str × D)} (hm : m[k]? = some a) (hc : c[k]? = some (.ins n fs0)) (hH : H a = some (.ins C dx vs0)) (q : RepF K I m vs fs) :
    Rel K I (upd H a (.ins C dx vs)) m (c.set k (.ins n fs)) ∧ Ext I m H I m (upd H a (.ins C dx vs)) := by
  obtain ⟨n1, dx', ws, d1, d2, d3, ⟨C', hn, hH'⟩, n3⟩ := r.cell k a _ hm hc
  rw [hH] at hH'
  cases hH'
  have da : dx ≠ a := fun z => by rw [z, hH] at d3; cases d3
  refine ⟨⟨fun b o e => ?_, by simp [r.len], r.nd, fun j b x h1 h2 => ?_, r.tabs.upH (nt_some hH ⟨(fun _ z => nomatch z), (fun _ z => nomatch z)⟩)⟩, Same.refl I, Pre.refl m, fun b o h1 hT h2 h3 => ⟨?_, h2, h3⟩⟩
  · rw [upd_ne (ne_of_none e n1)]
    exact r.same _ _ e
  · by_cases hj : k = j
    · subst hj
      rw [List.getElem?_set_self (List.getElem?_eq_some_iff.mp hc).1] at h2
      rw [hm] at h1
      cases h1; cases h2
      exact ⟨n1, dx, vs, d1, d2, by rw [upd_ne da]; exact d3, ⟨C, hn, upd_same⟩, q⟩
    · rw [List.getElem?_set_ne hj] at h2
      have nb : b ≠ a := fun e => hj (r.nd k j a hm (e ▸ h1))
      have q := r.cell j b x h1 h2
      cases x with
      | lst es =>
        obtain ⟨q1, ws, q2, q3⟩ := q
        exact ⟨q1, ws, by rw [upd_ne nb]; exact q2, q3⟩
      | dct es =>
        obtain ⟨q1, ws, q2, q3⟩ := q
        exact ⟨q1, ws, by rw [upd_ne nb]; exact q2, q3⟩
      | dT es =>
        obtain ⟨q1, ws, q2, q3⟩ := q
        exact ⟨q1, ws, by rw [upd_ne nb]; exact q2, q3⟩
      | dTz es => exact q
      | ins C2 es =>
        obtain ⟨q1, dx2, ws, q2, q3, q4, q5, q6⟩ := q
        exact ⟨q1, dx2, ws, q2, q3, by rw [upd_ne (ne_of q4 hH (by intro z; cases z))]; exact q4, q5.imp fun _ z => ⟨z.1, by rw [upd_ne nb]; exact z.2⟩, q6⟩
      | frz d => exact q
  · rw [upd_ne (fun (e : b = a) => h3 (by rw [e]; exact List.mem_of_getElem? hm))]
    exact h1
/-- an instance does not change any more -/
theorem Rel.freezeI (r : Rel K I H m c) {k : Nat} {a : Addr} {n : Str} {fs : List (Str × D)} (hm : m[k]? = some a) (hc : c[k]? = some (.ins n fs)) : ∃ I' : Hp, Rel K I' H m (c.set k (.frz (.obj n fs))) ∧ Ext I m H I' m H ∧ Rep K I' m (.ref a) (.obj n fs) := by
  obtain ⟨n1, dx, ws, d1, d2, d3, ⟨C, hn, hH⟩, n3⟩ := r.cell k a _ hm hc
  have sI : Same I (upd I a (.ins C dx ws)) := fun b o e => by rw [upd_ne (ne_of_none e n1)]; exact e
  refine ⟨upd I a (.ins C dx ws), ⟨fun b o e => ?_, by simp [r.len], r.nd, fun j b x h1 h2 => ?_, r.tabs.upI (nt_some hH ⟨(fun _ z => nomatch z), (fun _ z => nomatch z)⟩)⟩, ⟨sI, Pre.refl m, fun b o h1 hT h2 h3 => ⟨h1, ?_, h3⟩⟩, .obj hn upd_same (n3.mono sI (Pre.refl m))⟩
  · by_cases hb : b = a
    · subst hb
      rw [upd_same] at e
      cases e
      exact hH
    · rw [upd_ne hb] at e
      exact r.same _ _ e
  · by_cases hj : k = j
    · subst hj
      rw [List.getElem?_set_self (List.getElem?_eq_some_iff.mp hc).1] at h2
      rw [hm] at h1
      cases h1; cases h2
      exact ⟨by rw [upd_same]; exact nofun, .obj hn upd_same (n3.mono sI (Pre.refl m))⟩
    · rw [List.getElem?_set_ne hj] at h2
      have nb : b ≠ a := fun e => hj (r.nd k j a hm (e ▸ h1))
      have q := r.cell j b x h1 h2
      cases x with
      | lst es =>
        obtain ⟨q1, ws, q2, q3⟩ := q
        exact ⟨by rw [upd_ne nb]; exact q1, ws, q2, q3.mono sI (Pre.refl m)⟩
      | dct es =>
        obtain ⟨q1, ws, q2, q3⟩ := q
        exact ⟨by rw [upd_ne nb]; exact q1, ws, q2, q3.mono sI (Pre.refl m)⟩
      | dT es =>
        obtain ⟨q1, ws, q2, q3⟩ := q
        exact ⟨by rw [upd_ne nb]; exact q1, ws, q2, q3.mono sI (Pre.refl m)⟩
      | dTz es => exact q.imp (fun _ y => y.imp fun _ y => ⟨sI _ _ y.1, y.2.mono sI (Pre.refl m)⟩)
      | ins C2 es =>
        obtain ⟨q1, dx2, ws, q2, q3, q4, q5, q6⟩ := q
        exact ⟨by rw [upd_ne nb]; exact q1, dx2, ws, by rw [upd_ne (ne_of q4 hH (by intro z; cases z))]; exact q2, q3, q4, q5, q6.mono sI (Pre.refl m)⟩
      | frz d => exact ⟨by rw [upd_ne nb]; exact q.1, q.2.mono sI (Pre.refl m)⟩
  · rw [upd_ne (fun (e : b = a) => h3 (by rw [e]; exact List.mem_of_getElem? hm))]
    exact h2
end

/-! ### fields -/
def FldK (K : PySem.W.Frag) (n f : Str) : Prop := ∃ C, NamV K n (.ref C) ∧ Cls K C ∧ NoAttr K C f
def fldO (ns : List Str) (f : Str) (n : Str) (fs : List (Str × D)) (c : Cs) : R D := if n ∈ ns then (match fs.lookup f with
    | some d => .ok d c
    | none => .stuck) else .stuck
def fldR (ns : List Str) (f : Str) (x : D) (c : Cs) : R D := match insOf x c with
  | some (n, fs) => fldO ns f n fs c
  | none => .stuck
def mFld (ns : List Str) (f : Str) (a : ME) : ME := fun l c => (a l c).bind fun x c1 => fldR ns f x c1
section
variable {X : Cx} {W : WX} {e o : Expr} {es : List Expr} {f : Str} {fa fo : ME} {ga : MA} {ns : List Str} {pos p p' apos : Pos}
theorem me_fld (hT : ∀ n ∈ ns, FldK X.K n f) (ha : PE X e (rdE X.K W fa)) (hb : attributeBase e f X.env (eval e X.env) = eval e X.env := by rfl) : PE X (.Attribute e f pos) (rdE X.K W (mFld ns f fa)) :=
  PEi (pe_fld ha hb) fun σ H Q ⟨I, m, l, c, R, L, A⟩ => ⟨I, m, l, c, R, L, After.mono (After.bind (rep := rD X.K) A) fun v1 H1 ⟨I1, m1, c1, d1, E1, R1, p1, A1⟩ => by
    have A1 : After (rD X.K) X.K I1 m1 H1 (fun cls dd H' => W cls dd σ H') Q (fldR ns f d1 c1) := A1
    unfold fldR at A1
    cases q : insOf d1 c1 with
    | none => rw [q] at A1; exact A1.elim
    | some nf =>
      obtain ⟨n, fs⟩ := nf
      rw [q] at A1
      have A1 : After (rD X.K) X.K I1 m1 H1 (fun cls dd H' => W cls dd σ H') Q (fldO ns f n fs c1) := A1
      unfold fldO at A1
      by_cases hn : n ∈ ns
      · rw [if_pos hn] at A1
        cases z : fs.lookup f with
        | none => rw [z] at A1; exact A1.elim
        | some d =>
          rw [z] at A1
          obtain ⟨a, C, dx, vs, rfl, h1, h2, h3⟩ := ins_at R1 p1 q
          obtain ⟨C', k1, k2, k3⟩ := hT n hn
          cases h1.one k1
          obtain ⟨v, e1, e2⟩ := h3.look z
          exact ⟨a, C, dx, vs, v, rfl, h2, k2, k3, e1, A1.here R1 e2⟩
      · rw [if_neg hn] at A1
        exact A1.elim⟩
/-- o.f = e -/
def fldS (ns : List Str) (f : Str) (d x : D) (l : Ls) (c : Cs) : RS := match x with
  | .ref k => match c[k]? with
    | some (.ins n fs) => if n ∈ ns ∧ fs.length < 900 then .go (.nx l) (c.set k (.ins n (putFD f d fs))) else .stuck
    | _ => .stuck
  | _ => .stuck
def sFldM (ns : List Str) (f : Str) (o a : ME) : MS := fun l c => (a l c).seq l fun d c1 => (o l c1).seq l fun x c2 => fldS ns f d x l c2
theorem ms_fld (hT : ∀ n ∈ ns, FldK X.K n f) (ho : PE X o (rdE X.K W fo)) (hv : PE X e (rdE X.K W fa)) (hs : swapsWith e (some (.Attribute o f p')) pos.line X.env = pure false := by rfl) : PS X (.Assign [.Attribute o f p'] e pos) (rdS X.K W (sFldM ns f fo fa)) :=
  PSi (ps_fld ho hv hs) fun D σ H ⟨I, m, l, c, R, L, A⟩ => ⟨I, m, l, c, R, L, After.mono (AfterS.seq (rep := rD X.K) L A) fun v1 H1 ⟨I1, m1, c1, d1, E1, R1, p1, A1⟩ =>
    ⟨I1, m1, l, c1, R1, L.ext E1, After.mono (AfterS.seq (rep := rD X.K) (L.ext E1) A1) fun v2 H2 ⟨I2, m2, c2, d2, E2, R2, p2, A2⟩ => by
      have L2 := (L.ext E1).ext E2
      cases p2 with
      | @ref k a hk =>
        have A2 : AfterS X.K I2 m2 H2 W D (match c2[k]? with
          | some (.ins n fs) => if n ∈ ns ∧ fs.length < 900 then .go (.nx l) (c2.set k (.ins n (putFD f d1 fs))) else .stuck
          | _ => .stuck) := A2
        cases q : c2[k]? with
        | none => rw [q] at A2; exact A2.elim
        | some x =>
          rw [q] at A2
          cases x with
          | ins n fs =>
            have A2 : AfterS X.K I2 m2 H2 W D (if n ∈ ns ∧ fs.length < 900 then .go (.nx l) (c2.set k (.ins n (putFD f d1 fs))) else .stuck) := A2
            by_cases hn : n ∈ ns ∧ fs.length < 900
            · rw [if_pos hn] at A2
              obtain ⟨_, dx, vs, _, _, _, ⟨C, h1, h2⟩, h3⟩ := R2.cell k a _ hk q
              obtain ⟨C', k1, k2, k3⟩ := hT n hn.1
              cases h1.one k1
              refine ⟨a, C, dx, vs, rfl, h2, k2, k3, by rw [h3.length]; omega, ?_⟩
              obtain ⟨R3, E3⟩ := R2.putI hk q h2 (h3.put (f := f) (Rep.ext p1 E2))
              exact A2 I2 m2 _ σ E3 R3 (L2.ext E3)
            · rw [if_neg hn] at A2; exact A2.elim
          | _ => exact A2.elim
      | _ => exact A2.elim⟩⟩
end

/-! ### making -/
structure MakK (P : Program) (w : World) (K : PySem.W.Frag) (mg : Str → Option Value) (base : Heap) (n : Str) (g : List D → Cs → R D) (k : Nat) : Prop where
  ex : ∃ (C f : Addr) (fd : FuncData) (ps : List Str), PySem.W.nsIn K mainGlobals n = some (some (.ref C)) ∧ mg n = some (.ref C) ∧ Mk K C f ∧ GFn P w K mg base k f fd ps g ∧ Binds K fd ps []
def mkR (n : Str) (g : List D → Cs → R D) (ds : List D) (c : Cs) : R D := (g (.ref c.length :: ds) (c ++ [.ins n []])).bind fun r c2 => match r with
  | .non => .ok (.ref c.length) c2
  | _ => .stuck
theorem make_guards {A : Around} {C : Addr} {us : List Value} {kw : List (Str × Value)} (h : A.guards = some []) : (A.under (.builtin "type.__call__" ⟨.ref C :: us, kw⟩)).guards = some [] := by
  first | exact h | simpa [Around.under, Code.guards, pushGuards, Code.isGuard, guardIds] using h
section
variable {X : Cx} {W : WX} {e o : Expr} {es : List Expr} {f n x mm : Str} {fa fo : ME} {ga : MA} {g : List D → Cs → R D} {k : Nat} {pos p p' apos : Pos}
theorem run_makeG {pins : List (Addr × Obj)} {σ : St} {H : Hp} {s : Shared} {Q : VK} {us : List Value} {vs : List V} {I : Hp} {m : List Addr} {c : Cs} {ds : List D} {C fi : Addr} {fd : FuncData} {ps : List Str} (M : Mk X.K C fi) (hn : NamV X.K n (.ref C)) (F : GFn X.prog X.w X.K X.mg X.base k fi fd ps g)
    (hr : Room (k + 1) X.A) (hgd : X.A.guards = some []) (hb : Binds X.K fd ps []) (tk : Takes X W) (J : Inv X pins σ H s) (r : Vals vs us) (R : Rel X.K I H m c) (p : Reps X.K I m vs ds) (a : After (rD X.K) X.K I m H (fun cls d H' => W cls d σ H') Q (mkR n g ds c)) :
    wpAny (model X.prog X.w) X.A (call (.ref C) us) (EP X pins σ Q) X.xe s := by
  have nx := J.hok.fresh (Nat.le_succ s.heap.objs.size)
  have ndx := J.hok.fresh (Nat.le_refl s.heap.objs.size)
  have J2 := Inv.made (C := C) J
  obtain ⟨R2, E2⟩ := R.pushI nx ndx (Nat.ne_of_lt (Nat.lt_succ_self _)) hn
  have hx : (m ++ [s.heap.objs.size + 1])[c.length]? = some (s.heap.objs.size + 1) := by
    rw [← R.len, List.getElem?_append_right (Nat.le_refl _), Nat.sub_self]
    rfl
  have p2 : Reps X.K I (m ++ [s.heap.objs.size + 1]) (V.ref (s.heap.objs.size + 1) :: vs) (.ref c.length :: ds) := .cons (.ref hx) (p.ext E2)
  have r2 : Vals (V.ref (s.heap.objs.size + 1) :: vs) (Value.ref (s.heap.objs.size + 1) :: us) := .cons rfl r
  have a1 : After (rD X.K) X.K I (m ++ [s.heap.objs.size + 1]) (upd (upd H s.heap.objs.size (.own (s.heap.objs.size + 1))) (s.heap.objs.size + 1) (.ins C s.heap.objs.size [])) (fun cls d H' => W cls d σ H') (fun v H' => v = .non ∧ Q (.ref (s.heap.objs.size + 1)) H') (g (.ref c.length :: ds) (c ++ [.ins n []])) :=
    After.mono (After.bind (rep := rD X.K) (After.ext E2 a)) fun v1 H1 ⟨I1, m1, c1, d1, E1, R1, p1, A1⟩ => by
      cases p1 with
      | non => exact ⟨rfl, A1.here R1 (.ref (E1.pre _ _ hx))⟩
      | _ => exact A1.elim
  have hl0 := F.len _ _ (after_nonstuck a1)
  have hl : (Value.ref (s.heap.objs.size + 1) :: us).length = ps.length := by
    rw [← r2.length, p2.length]; exact hl0
  have hb2 : ∀ s', X.K.In s'.heap → BindsTo s' fd ⟨Value.ref (s.heap.objs.size + 1) :: us, []⟩ (ps.zip (Value.ref (s.heap.objs.size + 1) :: us)) := fun s' kin => by
    have z := hb s' (Value.ref (s.heap.objs.size + 1) :: us) kin (by rw [List.append_nil]; exact hl)
    rw [List.append_nil] at z
    exact z
  refine wpAny_call (make_map (f := fi) J.kIn M.makes M.init (beq_iff_eq.mp M.fn) (codeAny_mono (F.run _ X.stack _ _ ⟨Value.ref (s.heap.objs.size + 1) :: us, []⟩ (Value.ref (s.heap.objs.size + 1) :: us) _ _ (fun cls d H' => W cls d σ H') I _ _ _ (hr.make C us []) (make_guards hgd)
    (J2.env0.make C us []) (hb2 _ J2.kIn) r2 R2 p2 a1) fun r s' hq' => ?_))
  cases r with
  | error e => exact tk e s' (XE.of_call J2 (fun _ _ _ h => h) hq')
  | ok fl =>
    cases fl with
    | ret u =>
      obtain ⟨v, H', J3, rv, ev, q3⟩ := J2.after hq'
      subst ev
      exact ⟨rv, ⟨V.ref (s.heap.objs.size + 1), H', J3, rfl, q3⟩⟩
    | next => exact False.elim hq'
    | brk => exact False.elim hq'
    | cont => exact False.elim hq'
/-- n(e, ..) -/
def mMake (n : Str) (g : List D → Cs → R D) (t : MA) : ME := fun l c => (t l c).bind fun xs c1 => mkR n g xs c1
theorem me_make (T : MakK X.prog X.w X.K X.mg X.base n g k) (hr : Room (k + 1) X.A) (hgd : X.A.guards = some []) (hg : Gl X n) (tk : Takes X W) (ha : PA X (e :: es) (rdA X.K W ga))
    (hdb : (n == ("__debug__" : Str)) = false := by decide) (he : starEach (e :: es) X.env = (false, eval e X.env) :: starEach es X.env := by rfl) (hpl : (backTo pos (starEach es X.env)).any (·.1) = false := by rfl) :
    PE X (.Call (.Name n p) (e :: es) [] pos) (rdE X.K W (mMake n g ga)) := by
  obtain ⟨C, fi, fd, ps, nC, hm, M, F, hb⟩ := T.ex
  refine ⟨fun pins s σ H Q J ⟨I, m, l, c, R, L, A⟩ => ?_⟩
  refine wpAny_Call_Name_kw (ld_glob J hg hm ?_ hdb)
  refine PySem.W.callWith_K (h₀ := X.base) J.ok.mod.kin M.kp (thn (ha.run pos pins s σ H _ J ⟨I, m, l, c, R, L, After.bind (rep := rA X.K) A⟩) fun us s1 ⟨vs, H1, J1, r, I1, m1, c1, ds, E1, R1, p1, A1⟩ => ⟨J1.kIn, ?_⟩) he hpl
  exact run_makeG M (.inl nC) F hr hgd hb tk J1 r R1 p1 A1
/-- an instance that does not change from here on -/
def frzI (d : D) (c : Cs) : R D := match d with
  | .ref k => match c[k]? with
    | some (.ins n fs) => .ok (.obj n fs) (c.set k (.frz (.obj n fs)))
    | _ => .stuck
  | _ => .stuck
def mFrzI (a : ME) : ME := fun l c => (a l c).bind fun d c1 => frzI d c1
theorem me_frzI (h : PE X e (rdE X.K W fa)) : PE X e (rdE X.K W (mFrzI fa)) := PEi h fun σ H Q ⟨I, m, l, c, R, L, A⟩ =>
  ⟨I, m, l, c, R, L, After.mono (After.bind (rep := rD X.K) A) fun v1 H1 ⟨I1, m1, c1, d1, E1, R1, p1, A1⟩ => by
    cases p1 with
    | @ref k a hk =>
      have A2 : After (rD X.K) X.K I1 m1 H1 (fun cls dd H' => W cls dd σ H') Q (match c1[k]? with
        | some (.ins n fs) => .ok (.obj n fs) (c1.set k (.frz (.obj n fs)))
        | _ => .stuck) := A1
      cases q : c1[k]? with
      | none => rw [q] at A2; exact A2.elim
      | some x =>
        rw [q] at A2
        cases x with
        | ins n fs =>
          obtain ⟨I2, R2, E2, p2⟩ := R1.freezeI hk q
          exact A2 I2 m1 H1 _ E2 R2 p2
        | _ => exact A2.elim
    | _ => exact A1.elim⟩

/-! ### methods -/
structure MthK (P : Program) (w : World) (K : PySem.W.Frag) (mg : Str → Option Value) (base : Heap) (n mm : Str) (g : List D → Cs → R D) (k : Nat) : Prop where
  ex : ∃ (C f : Addr) (fd : FuncData) (ps : List Str), NamV K n (.ref C) ∧ Cls K C ∧ Meth K C mm f ∧ GFn P w K mg base k f fd ps g ∧ Binds K fd ps []
abbrev Tbl := List (Str × (List D → Cs → R D))
theorem tbl_mem {β : Type} {n : Str} {g : β} : ∀ {t : List (Str × β)}, t.lookup n = some g → (n, g) ∈ t
  | (a, b) :: t, h => by
    rw [List.lookup_cons] at h
    cases q : n == a with
    | true => rw [q] at h; cases h; rw [beq_iff_eq.mp q]; exact List.mem_cons_self
    | false => rw [q] at h; exact List.mem_cons_of_mem _ (tbl_mem h)
/-- the method of the receiver's class -/
def viaT {α : Type} (tbl : Tbl) (x : D) (c : Cs) (r : (List D → Cs → R D) → List (Str × D) → R α) : R α := match insOf x c with
  | some (n, fs) => match tbl.lookup n with
    | some g => r g fs
    | none => .stuck
  | none => .stuck
theorem via_read {α β : Type} {rep : Hp → List Addr → β → α → Prop} {K : PySem.W.Frag} {I H : Hp} {m : List Addr} {c : Cs} {W : XK} {Q : β → Hp → Prop} {tbl : Tbl} {d : D} {v : V} {r : (List D → Cs → R D) → List (Str × D) → R α} (R : Rel K I H m c) (p : Rep K I m v d)
    (A : After rep K I m H W Q (viaT tbl d c r)) : ∃ (a C dx : Addr) (vs : List (Str × V)) (n : Str) (fs : List (Str × D)) (g : List D → Cs → Mi.R D), v = .ref a ∧ NamV K n (.ref C) ∧ H a = some (.ins C dx vs) ∧ RepF K I m vs fs ∧ (n, g) ∈ tbl ∧ After rep K I m H W Q (r g fs) := by
  unfold viaT at A
  cases q : insOf d c with
  | none => rw [q] at A; exact A.elim
  | some nf =>
    obtain ⟨n, fs⟩ := nf
    rw [q] at A
    have A : After rep K I m H W Q (match tbl.lookup n with
      | some g => r g fs
      | none => .stuck) := A
    cases z : tbl.lookup n with
    | none => rw [z] at A; exact A.elim
    | some g =>
      rw [z] at A
      obtain ⟨a, C, dx, vs, e, h1, h2, h3⟩ := ins_at R p q
      exact ⟨a, C, dx, vs, n, fs, g, e, h1, h2, h3, tbl_mem z, A⟩
def mMeth (tbl : Tbl) (mm : Str) (o : ME) (t : MA) : ME := fun l c => (o l c).bind fun x c1 => viaT tbl x c1 fun g fs => match fs.lookup mm with
  | none => (t l c1).bind fun xs c2 => g (x :: xs) c2
  | some _ => .stuck
theorem me_meth {tbl : Tbl} {pl : Sem Bool} (hT : ∀ q ∈ tbl, MthK X.prog X.w X.K X.mg X.base q.1 mm q.2 k) (hr : Room k X.A) (hgd : X.A.guards = some []) (tk : Takes X W) (ho : PE X o (rdE X.K W fo)) (ha : PA X (e :: es) (rdA X.K W ga))
    (hst : starEach (e :: es) X.env = (false, eval e X.env) :: starEach es X.env := by rfl) (hpl : (backTo pos (starEach es X.env)).any (·.1) = false := by rfl)
    (ht : eval (.Call (.Attribute o mm apos) (e :: es) [] pos) X.env = (do
      let ov ← eval o X.env
      standAt apos.atName
      let (f, first) ← holding [ov] (getMethod ov mm pl)
      callWith pos f first (backTo pos (starEach (e :: es) X.env)) (backToKw pos (keywordEach [] X.env))) := by rfl) :
    PE X (.Call (.Attribute o mm apos) (e :: es) [] pos) (rdE X.K W (mMeth tbl mm fo ga)) := by
  refine ⟨fun pins s σ H Q J ⟨I, m, l, c, R, L, A⟩ => ?_⟩
  refine PySem.W.methodCall_KW (pl := pl) (thn (ho.run pins s σ H _ J ⟨I, m, l, c, R, L, After.bind (rep := rD X.K) A⟩) fun u s1 ⟨v, H1, J1, rv, I1, m1, c1, d1, E1, R1, p1, A1⟩ => ?_) ht
  obtain ⟨a, C, dx, vs, n, fs, g, rfl, h1, h2, h3, h4, A2⟩ := via_read R1 p1 A1
  obtain rfl : u = Value.ref a := rv
  obtain ⟨C', f', fd, ps, k1, k2, k3, F, hb⟩ := (hT _ h4).ex
  cases h1.one k1
  cases z : fs.lookup mm with
  | some d => rw [z] at A2; exact A2.elim
  | none =>
    rw [z] at A2
    refine getmeth_ok J1 h2 k2 k3 (h3.lookN z) ?_
    refine PySem.W.callWith_K (first := [.ref a]) (h₀ := X.base) J.ok.mod.kin k3.kp (thn (ha.run pos pins s1 σ H1 _ J1 ⟨I1, m1, l, c1, R1, L.ext E1, After.bind (rep := rA X.K) A2⟩) fun us s2 ⟨ws, H2, J2, r, I2, m2, c2, ds, E2, R2, p2, A3⟩ => ⟨J2.kIn, ?_⟩) hst hpl
    exact run_g (us := .ref a :: us) (vs := .ref a :: ws) F hr hgd hb tk J2 (.cons rfl r) R2 (.cons (Rep.ext p1 E2) p2) A3
theorem me_meth0 {tbl : Tbl} {pl : Sem Bool} (hT : ∀ q ∈ tbl, MthK X.prog X.w X.K X.mg X.base q.1 mm q.2 k) (hr : Room k X.A) (hgd : X.A.guards = some []) (tk : Takes X W) (ho : PE X o (rdE X.K W fo))
    (ht : eval (.Call (.Attribute o mm apos) [] [] pos) X.env = (do
      let ov ← eval o X.env
      standAt apos.atName
      let (f, first) ← holding [ov] (getMethod ov mm pl)
      callWith pos f first (backTo pos (starEach [] X.env)) (backToKw pos (keywordEach [] X.env))) := by rfl) :
    PE X (.Call (.Attribute o mm apos) [] [] pos) (rdE X.K W (mMeth tbl mm fo aNil)) := by
  refine ⟨fun pins s σ H Q J ⟨I, m, l, c, R, L, A⟩ => ?_⟩
  refine PySem.W.methodCall_KW (pl := pl) (thn (ho.run pins s σ H _ J ⟨I, m, l, c, R, L, After.bind (rep := rD X.K) A⟩) fun u s1 ⟨v, H1, J1, rv, I1, m1, c1, d1, E1, R1, p1, A1⟩ => ?_) ht
  obtain ⟨a, C, dx, vs, n, fs, g, rfl, h1, h2, h3, h4, A2⟩ := via_read R1 p1 A1
  obtain rfl : u = Value.ref a := rv
  obtain ⟨C', f', fd, ps, k1, k2, k3, F, hb⟩ := (hT _ h4).ex
  cases h1.one k1
  cases z : fs.lookup mm with
  | some d => rw [z] at A2; exact A2.elim
  | none =>
    rw [z] at A2
    refine getmeth_ok J1 h2 k2 k3 (h3.lookN z) ?_
    exact PySem.W.callWith_K0 (first := [.ref a]) J1.kIn k3.kp (run_g (us := [.ref a]) (vs := [.ref a]) F hr hgd hb tk J1 (.cons rfl .nil) R1 (.cons p1 .nil) A2)

/-! ### properties -/
structure PrpK (P : Program) (w : World) (K : PySem.W.Frag) (mg : Str → Option Value) (base : Heap) (n f : Str) (g : List D → Cs → R D) (k : Nat) : Prop where
  ex : ∃ (C p ga : Addr) (fd : FuncData) (ps : List Str), NamV K n (.ref C) ∧ Cls K C ∧ PropOf K C f p ga ∧ GFn P w K mg base k ga fd ps g ∧ Binds K fd ps []
def mProp (tbl : Tbl) (o : ME) : ME := fun l c => (o l c).bind fun x c1 => viaT tbl x c1 fun g _ => (g [x] c1).nox
theorem me_prop {tbl : Tbl} (hT : ∀ q ∈ tbl, PrpK X.prog X.w X.K X.mg X.base q.1 f q.2 k) (hr : Room (k + 1) X.A) (hgd : X.A.guards = some []) (ho : PE X o (rdE X.K W fo)) (hb : attributeBase o f X.env (eval o X.env) = eval o X.env := by rfl) :
    PE X (.Attribute o f pos) (rdE X.K W (mProp tbl fo)) := by
  refine ⟨fun pins s σ H Q J ⟨I, m, l, c, R, L, A⟩ => ?_⟩
  refine attr_of hb (thn (ho.run pins s σ H _ J ⟨I, m, l, c, R, L, After.bind (rep := rD X.K) A⟩) fun u s1 ⟨v, H1, J1, rv, I1, m1, c1, d1, E1, R1, p1, A1⟩ => ?_)
  obtain ⟨a, C, dx, vs, n, fs, g, rfl, h1, h2, h3, h4, A2⟩ := via_read R1 p1 A1
  obtain rfl : u = Value.ref a := rv
  obtain ⟨C', p, ga, fd, ps, k1, cl, hp, F, hbi⟩ := (hT _ h4).ex
  cases h1.one k1
  obtain ⟨mA, O, _, _, _, _⟩ := ins_get J1.hok h2
  obtain ⟨od, JJ, _⟩ := O.look
  obtain ⟨rest, hrec⟩ := hp.rec_
  have I1' := J1.tok (s1.toks + 1)
  have A3 : After (rD X.K) X.K I1 m1 H1 (fun _ _ _ => False) Q (g [d1] c1) := After.nox A2
  have hl : [Value.ref a].length = ps.length := F.len _ _ (after_nonstuck A3)
  have hc : (PySem.W.clsIn X.K C).isSome = true := by
    obtain ⟨cd, hc, _⟩ := PySem.W.any_some cl.hd
    rw [hc]
    rfl
  refine PySem.W.get_bind J1.kIn JJ (PySem.W.plainGet_of (cl.get f)).1 (PySem.W.findObj_data hc hp.at_ hp.get hp.tak) (PySem.W.plainGet_of (cl.get f)).2 (wpAny_call (PySem.W.prop_get (s := { s1 with toks := s1.toks + 1 }) J1.kIn hrec ?_))
  have hb2 := hbi { s1 with toks := s1.toks + 1 } [.ref a] J1.kIn (by rw [List.append_nil]; exact hl)
  rw [List.append_nil] at hb2
  refine codeAny_mono (F.run X.A.in1 X.stack { s1 with toks := s1.toks + 1 } H1 ⟨[.ref a], []⟩ [.ref a] [.ref a] Q (fun _ _ _ => False) I1 m1 c1 [d1] hr.in1 hgd I1'.env0.in1 hb2 (.cons rfl .nil) R1 (.cons p1 .nil) A3) fun r s' hq => ?_
  cases r with
  | error er =>
    obtain ⟨_, _, _, _, _, _, _, _, _, _, _, _, z⟩ := hq
    exact z.elim
  | ok fl =>
    cases fl with
    | ret u =>
      obtain ⟨v, H', I3, rv, q3⟩ := I1'.after hq
      show wpAny _ _ (handedOut u) _ _ _
      rw [PySem.W.handedOut_of (handed_of rv)]
      exact wpAny_pure ⟨v, H', I3, rv, q3⟩
    | next => exact False.elim hq
    | brk => exact False.elim hq
    | cont => exact False.elim hq
end
end L2.Mi

/-! f-strings, dict cells, a written tuple's index -/
namespace L2.Mi
open PySem PySem.Spec PyProof.Rows L2
section
variable {X : Cx} {W : WX} {e o : Expr} {es : List Expr} {fa fo fi : ME} {pos p : Pos}
/-! ### f-strings -/
inductive PJM (X : Cx) (W : WX) : List Expr → List ME → Prop where
  | nil : PJM X W [] []
  | cons {e : Expr} {f : ME} {es : List Expr} {fs : List ME} (h : PE X e (rdE X.K W f)) (r : PJM X W es fs) : PJM X W (e :: es) (f :: fs)
theorem PJM.pj {es : List Expr} {fs : List ME} (h : PJM X W es fs) : PJ X es (fs.map fun f => rdE X.K W f) := by
  induction h with
  | nil => exact .nil
  | cons h _ ih => exact .cons h ih
/-! ### index of a text in a written tuple of texts -/
/-! ### dicts as cells -/
theorem Rel.adoptC {K : PySem.W.Frag} {I H : Hp} {m : List Addr} {c : Cs} (r : Rel K I H m c) {p : Addr} (hm : p ∉ m) (hI : I p = none) (ho : ∀ x, H p ≠ some (.own x)) (hT : Nt H p) {x : Cell} (q : CellAt K I H (m ++ [p]) p x) : Rel K I H (m ++ [p]) (c ++ [x]) := by
  have hp := pre_app m p
  refine ⟨r.same, by simp [r.len], fun i j a h1 h2 => ?_, fun k a x h1 h2 => ?_, r.tabs.upm hT⟩
  · rcases Nat.lt_or_ge i m.length with hi | hi
    · rcases Nat.lt_or_ge j m.length with hj | hj
      · rw [List.getElem?_append_left hi] at h1
        rw [List.getElem?_append_left hj] at h2
        exact r.nd i j a h1 h2
      · rw [List.getElem?_append_left hi] at h1
        rw [List.getElem?_append_right hj] at h2
        have e : a = p := by
          cases z : j - m.length with
          | zero => rw [z] at h2; simpa using h2.symm
          | succ n => rw [z] at h2; simp at h2
        exact absurd (List.mem_of_getElem? h1) (e ▸ hm)
    · rcases Nat.lt_or_ge j m.length with hj | hj
      · rw [List.getElem?_append_left hj] at h2
        rw [List.getElem?_append_right hi] at h1
        have e : a = p := by
          cases z : i - m.length with
          | zero => rw [z] at h1; simpa using h1.symm
          | succ n => rw [z] at h1; simp at h1
        exact absurd (List.mem_of_getElem? h2) (e ▸ hm)
      · have hi' := (List.getElem?_eq_some_iff.mp h1).1
        have hj' := (List.getElem?_eq_some_iff.mp h2).1
        simp at hi' hj'
        omega
  · rcases Nat.lt_or_ge k m.length with hk | hk
    · rw [List.getElem?_append_left hk] at h1
      rw [List.getElem?_append_left (by rw [← r.len]; exact hk)] at h2
      have q := r.cell k a x h1 h2
      cases x with
      | lst es =>
        obtain ⟨q1, ws, q2, q3⟩ := q
        exact ⟨q1, ws, q2, q3.mono (Same.refl I) hp⟩
      | dct es =>
        obtain ⟨q1, ws, q2, q3⟩ := q
        exact ⟨q1, ws, q2, q3.mono (Same.refl I) hp⟩
      | dT es =>
        obtain ⟨q1, ws, q2, q3⟩ := q
        exact ⟨q1, ws, q2, q3.mono (Same.refl I) hp⟩
      | dTz es => exact q.imp (fun _ y => y.imp fun _ y => ⟨y.1, y.2.mono (Same.refl I) hp⟩)
      | ins C es =>
        obtain ⟨q1, dx, ws, q2, q3, q4, q5, q6⟩ := q
        exact ⟨q1, dx, ws, q2, fun z => by
          rcases List.mem_append.mp z with z | z
          · exact q3 z
          · simp only [List.mem_singleton] at z
            exact ho _ (z ▸ q4), q4, q5, q6.mono (Same.refl I) hp⟩
      | frz d => exact ⟨q.1, q.2.mono (Same.refl I) hp⟩
    · have hk' := (List.getElem?_eq_some_iff.mp h1).1
      simp at hk'
      have e : k = m.length := by omega
      subst e
      rw [List.getElem?_append_right (Nat.le_refl _)] at h1
      rw [r.len, List.getElem?_append_right (Nat.le_refl _)] at h2
      simp at h1 h2
      subst h1; subst h2
      exact q
theorem RepK.any {K : PySem.W.Frag} {I : Hp} {m : List Addr} {k : Key} : ∀ {vs : List (Key × V)} {ds : List (Key × D)}, RepK K I m vs ds → (vs.any fun kv => decide (kv.1 = k)) = (ds.any fun kv => decide (kv.1 = k))
  | _, _, .nil => rfl
  | _, _, .cons _ t => by simp only [List.any_cons, RepK.any t]
def putKD (kvs : List (Key × D)) (k : Key) (d : D) : List (Key × D) :=
  if (kvs.any fun kv => decide (kv.1 = k)) = true then kvs.map (fun kv => if kv.1 = k then (kv.1, d) else kv) else kvs ++ [(k, d)]
theorem RepK.put {K : PySem.W.Frag} {I : Hp} {m : List Addr} {k : Key} {v : V} {d : D} (p : Rep K I m v d) {vs : List (Key × V)} {ds : List (Key × D)} (r : RepK K I m vs ds) : RepK K I m (putK vs k v) (putKD ds k d) := by
  have app : ∀ {vs : List (Key × V)} {ds : List (Key × D)}, RepK K I m vs ds → RepK K I m (vs ++ [(k, v)]) (ds ++ [(k, d)]) := by
    intro vs ds r
    induction vs generalizing ds with
    | nil => cases r; exact .cons p .nil
    | cons x vs ih => cases r with | cons h t => exact .cons h (ih t)
  have mp : ∀ {vs : List (Key × V)} {ds : List (Key × D)}, RepK K I m vs ds → RepK K I m (vs.map fun kv => if kv.1 = k then (kv.1, v) else kv) (ds.map fun kv => if kv.1 = k then (kv.1, d) else kv) := by
    intro vs ds r
    induction vs generalizing ds with
    | nil => cases r; exact .nil
    | cons x vs ih =>
      cases r with
      | @cons k' _ _ _ _ h t =>
        simp only [List.map_cons]
        by_cases e : k' = k
        · rw [if_pos e, if_pos e]; exact .cons p (ih t)
        · rw [if_neg e, if_neg e]; exact .cons h (ih t)
  unfold putK putKD
  rw [r.any]
  by_cases h : (ds.any fun kv => decide (kv.1 = k)) = true
  · rw [if_pos h, if_pos h]; exact mp r
  · rw [if_neg h, if_neg h]; exact app r
theorem RepK.length {K : PySem.W.Frag} {I : Hp} {m : List Addr} : ∀ {vs : List (Key × V)} {ds : List (Key × D)}, RepK K I m vs ds → vs.length = ds.length
  | _, _, .nil => rfl
  | _, _, .cons _ t => congrArg (· + 1) (RepK.length t)
theorem Rel.putD {K : PySem.W.Frag} {I H : Hp} {m : List Addr} {c : Cs} (r : Rel K I H m c) {k : Nat} {a : Addr} {vs : List (Key × V)} {ds ds0 : List (Key × D)} (hm : m[k]? = some a) (hc : c[k]? = some (.dct ds0)) (q : RepK K I m vs ds) : Rel K I (upd H a (.dK vs)) m (c.set k (.dct ds)) ∧ Ext I m H I m (upd H a (.dK vs)) := by
  obtain ⟨n1, ws, n2, n3⟩ := r.cell k a _ hm hc
  refine ⟨⟨fun b o e => ?_, by simp [r.len], r.nd, fun j b x h1 h2 => ?_, r.tabs.upH (nt_some n2 ⟨(fun _ z => nomatch z), (fun _ z => nomatch z)⟩)⟩, Same.refl I, Pre.refl m, fun b o h1 hT h2 h3 => ⟨?_, h2, h3⟩⟩
  · rw [upd_ne (ne_of_none e n1)]
    exact r.same _ _ e
  · by_cases hj : k = j
    · subst hj
      rw [List.getElem?_set_self (List.getElem?_eq_some_iff.mp hc).1] at h2
      rw [hm] at h1
      cases h1; cases h2
      exact ⟨n1, vs, upd_same, q⟩
    · rw [List.getElem?_set_ne hj] at h2
      have nb : b ≠ a := fun e => hj (r.nd k j a hm (e ▸ h1))
      have q := r.cell j b x h1 h2
      cases x with
      | lst es =>
        obtain ⟨q1, ws, q2, q3⟩ := q
        exact ⟨q1, ws, by rw [upd_ne nb]; exact q2, q3⟩
      | dct es =>
        obtain ⟨q1, ws, q2, q3⟩ := q
        exact ⟨q1, ws, by rw [upd_ne nb]; exact q2, q3⟩
      | dT es =>
        obtain ⟨q1, ws, q2, q3⟩ := q
        exact ⟨q1, ws, by rw [upd_ne nb]; exact q2, q3⟩
      | dTz es => exact q
      | ins C es =>
        obtain ⟨q1, dx, ws, q2, q3, q4, q5, q6⟩ := q
        exact ⟨q1, dx, ws, q2, q3, by rw [upd_ne (ne_of q4 n2 (by intro z; cases z))]; exact q4, q5.imp fun _ z => ⟨z.1, by rw [upd_ne nb]; exact z.2⟩, q6⟩
      | frz d => exact q
  · rw [upd_ne (fun (e : b = a) => h3 (by rw [e]; exact List.mem_of_getElem? hm))]
    exact h1
end
end L2.Mi
namespace L2.Mi
open PySem PySem.Spec PyProof.Rows L2
/-! ### + of lists that stand in cells -/
def lstC (d : D) (c : Cs) : Option (List D) := match d with
  | .lst xs => some xs
  | .ref k => match c[k]? with
    | some (.lst xs) => some xs
    | some (.frz (.lst xs)) => some xs
    | _ => none
  | _ => none
theorem lstC_at {K : PySem.W.Frag} {I H : Hp} {m : List Addr} {c : Cs} {v : V} {d : D} {ds : List D} (R : Rel K I H m c) (p : Rep K I m v d) (h : lstC d c = some ds) : ∃ a vs, v = .ref a ∧ H a = some (.lst vs) ∧ Reps K I m vs ds := by
  cases p with
  | lst q r => cases h; exact ⟨_, _, rfl, R.same _ _ q, r⟩
  | @ref k a q =>
    have h : (match c[k]? with
      | some (.lst xs) => some xs
      | some (.frz (.lst xs)) => some xs
      | _ => none) = some ds := h
    cases e : c[k]? with
    | none => rw [e] at h; cases h
    | some x =>
      rw [e] at h
      have hc := R.cell k a x q e
      cases x with
      | lst xs => cases h; obtain ⟨_, vs, h1, h2⟩ := hc; exact ⟨a, vs, rfl, h1, h2⟩
      | frz d =>
        cases d with
        | lst xs =>
          cases h
          obtain ⟨_, hr⟩ := hc
          cases hr with
          | lst h1 h2 => exact ⟨a, _, rfl, R.same _ _ h1, h2⟩
        | _ => cases h
      | _ => cases h
  | _ => cases h
/-! ### words for the printed text -/
theorem all0 {α : Type} {P : α → Prop} : ∀ n ∈ ([] : List α), P n := fun _ h => absurd h List.not_mem_nil
theorem allc {α : Type} {P : α → Prop} {a : α} {l : List α} (h : P a) (t : ∀ n ∈ l, P n) : ∀ n ∈ a :: l, P n := fun n hn => by
  rcases List.mem_cons.mp hn with rfl | hn
  · exact h
  · exact t n hn
end L2.Mi
namespace L2.Mi
open PySem PySem.Spec PyProof.Rows L2
/-- a method's def, as it stands behind the top -/
def OwnF (K : PySem.W.Frag) (x qual : Str) (st : Stmt) (ps : List Str) (f : Addr) : Prop := ∃ fd, Fun K x qual st f fd ∧ Binds K fd ps []
end L2.Mi
namespace L2.Mi
open PySem PySem.Spec PyProof.Rows L2
end L2.Mi

/-! walking whatever stands there: a tree, a text, a cell as it stands at each turn -/
namespace L2.Mi
open PySem PySem.Spec PyProof.Rows L2
abbrev Wk := Nat → Cs → Option (Option D)
abbrev MK := Ls → Cs → R Wk
def fixW (ds : List D) : Wk := fun i _ => some ds[i]?
def cellL (k : Nat) (c : Cs) : Option (List D) := match c[k]? with
  | some (.lst ds) => some ds
  | some (.frz (.lst ds)) => some ds
  | _ => none
def cellW (k : Nat) : Wk := fun i c => match cellL k c with
  | some ds => some ds[i]?
  | none => none
def WalksW (K : PySem.W.Frag) (I : Hp) (m : List Addr) (J : It) (w : Wk) : Prop := ∀ (i : Nat) (I' H : Hp) (m' : List Addr) (c : Cs), Same I I' → Pre m m' → Rel K I' H m' c →
  (∀ d, w i c = some (some d) → J.go i H ∧ ∀ x H', J.yld i H x H' → ∃ I'', Ext I' m' H I'' m' H' ∧ Rel K I'' H' m' c ∧ Rep K I'' m' x d) ∧ (w i c = some none → J.stop i H)
theorem WalksW.ext {K : PySem.W.Frag} {I I1 H H1 : Hp} {m m1 : List Addr} {J : It} {w : Wk} (h : WalksW K I m J w) (e : Ext I m H I1 m1 H1) : WalksW K I1 m1 J w := fun i I' H m' c s p => h i I' H m' c (e.same.trans s) (e.pre.trans p)
def rW (K : PySem.W.Frag) : Hp → List Addr → It → Wk → Prop := fun I m J w => WalksW K I m J w
def rdK (K : PySem.W.Frag) (W : WX) (f : MK) : TI := rd (rW K) K W f
theorem walks_fix {K : PySem.W.Frag} {I : Hp} {m : List Addr} {J : It} {ds : List D} (h : Walks K I m J ds) : WalksW K I m J (fixW ds) := fun i I' H m' c s p R => by
  obtain ⟨h1, h2⟩ := h i I' H m' c s p R
  refine ⟨fun d e => h1 d (Option.some.inj e), fun e => h2 (List.getElem?_eq_none_iff.mp (Option.some.inj e))⟩
/-- a list of items told beforehand -/
def kFix (it : MI) : MK := fun l c => (it l c).bind fun ds c1 => .ok (fixW ds) c1
theorem walks_cell {K : PySem.W.Frag} {I : Hp} {m : List Addr} {k : Nat} {a : Addr} (hk : m[k]? = some a) : WalksW K I m (Itl K a) (cellW k) := fun i I' H m' c s p R => by
  have hk' := p _ _ hk
  have one : ∀ ds, cellL k c = some ds → ∃ vs, SqL K H a vs ∧ Reps K I' m' vs ds := fun ds e => by
    unfold cellL at e
    cases q : c[k]? with
    | none => rw [q] at e; cases e
    | some x =>
      rw [q] at e
      have hc := R.cell k a x hk' q
      cases x with
      | lst xs => cases e; obtain ⟨_, vs, h1, h2⟩ := hc; exact ⟨vs, SqL.of h1, h2⟩
      | frz d =>
        cases d with
        | lst xs =>
          cases e
          obtain ⟨_, hr⟩ := hc
          cases hr with
          | lst h1 h2 => exact ⟨_, SqL.of (R.same _ _ h1), h2⟩
        | _ => cases e
      | _ => cases e
  unfold cellW
  cases q : cellL k c with
  | none => exact ⟨fun d e => by simp at e, fun e => by simp at e⟩
  | some ds =>
    obtain ⟨vs, hs, hr⟩ := one ds q
    refine ⟨fun d e => ?_, fun e => ⟨vs, hs, ?_⟩⟩
    · have e : ds[i]? = some d := Option.some.inj e
      obtain ⟨v, hv, pv⟩ := hr.get e
      refine ⟨⟨vs, v, hs, hv⟩, fun x H' y => ?_⟩
      obtain ⟨e2, y⟩ := y
      subst e2
      have ev : x = v := by
        have z := y vs hs
        rw [hv] at z
        exact (Option.some.inj z).symm
      subst ev
      exact ⟨I', Ext.refl _ _ _, R, pv⟩
    · have e : ds[i]? = none := Option.some.inj e
      rw [hr.length]
      exact List.getElem?_eq_none_iff.mp e
def wAny (x : D) (c : Cs) : R Wk := match x with
  | .lst ds => .ok (fixW ds) c
  | .ro ds => .ok (fixW ds) c
  | .tup ds => .ok (fixW ds) c
  | .str s => .ok (fixW (chrs s)) c
  | .ref k => match cellL k c with
    | some _ => .ok (cellW k) c
    | none => .stuck
  | _ => .stuck
def kAny (a : ME) : MK := fun l c => (a l c).bind fun x c1 => wAny x c1
def iSeq (K : PySem.W.Frag) (tl : TE) : TI := fun σ H R => tl σ H fun x H1 => (∃ a, x = .ref a ∧ (∃ xs, SqL K H1 a xs) ∧ R (Itl K a) H1) ∨ (∃ a, x = .ref a ∧ (∃ xs, SqT K H1 a xs) ∧ R (Itt K a) H1) ∨ ∃ y, x = .str y ∧ R (Its y) H1
theorem pi_seq {X : Cx} {tg l : Expr} {tl : TE} (hl : PE X l tl) : PI X tg l (iSeq X.K tl) := by
  refine ⟨fun pins s σ H R I h => ?_⟩
  refine thn (hl.run pins s σ H _ I h) fun v s1 ⟨x, H1, I1, r1, q1⟩ => ?_
  rcases q1 with ⟨a, e, ⟨xs, hq⟩, q⟩ | ⟨a, e, ⟨xs, hq⟩, q⟩ | ⟨y, e, q⟩
  · subst e
    cases r1
    obtain ⟨its, rv, p, hz⟩ := I1.list hq
    refine wpAny_pyIter_list p.isList ?_
    refine ⟨s1.heap.objs.size, [s1.heap.objs.size], _, _, H1, rfl, I1.kept (t' := s1.toks) fun b o e => Heap.get?_push_of_some _ e, turn_list a _, ⟨_, Heap.get?_push_size _ rfl, rfl, rfl⟩, fun b hb => ?_, q⟩
    have e : b = s1.heap.objs.size := by simpa using hb
    subst e
    exact I1.fpOk (Nat.le_refl _) (I1.hok.fresh (Nat.le_refl _))
  · subst e
    cases r1
    obtain ⟨its, rv, p, hz⟩ := I1.tuple hq
    refine wpAny_pyIter_tuple (show s1.heap.IsTuple a its.toArray from p) ?_
    refine ⟨s1.heap.objs.size, [s1.heap.objs.size], _, _, H1, rfl, I1.kept (t' := s1.toks) fun b o e => Heap.get?_push_of_some _ e, turn_tuple a _, ⟨_, Heap.get?_push_size _ rfl, rfl, rfl⟩, fun b hb => ?_, q⟩
    have e : b = s1.heap.objs.size := by simpa using hb
    subst e
    exact I1.fpOk (Nat.le_refl _) (I1.hok.fresh (Nat.le_refl _))
  · subst e
    obtain ⟨t, rfl⟩ := r1
    cases ha : y.cps.all (· < 128)
    · exact wpAny_pyIter_wide ha (pi_one (tk := s1.toks) I1 _ (turn_str _ y t "str_iterator" (.inr rfl)) ⟨_, Heap.get?_push_size _ rfl, rfl, rfl⟩ q)
    · exact wpAny_pyIter_ascii ha (pi_one (tk := s1.toks) I1 _ (turn_str _ y t "str_ascii_iterator" (.inl rfl)) ⟨_, Heap.get?_push_size _ rfl, rfl, rfl⟩ q)
theorem mk_any {X : Cx} {W : WX} {tg e : Expr} {fa : ME} (h : PE X e (rdE X.K W fa)) : PI X tg e (rdK X.K W (kAny fa)) := PIi (pi_seq h) fun σ H Q ⟨I, m, l, c, R, L, A⟩ =>
  ⟨I, m, l, c, R, L, After.mono (After.bind (rep := rD X.K) A) fun v1 H1 ⟨I1, m1, c1, d1, E1, R1, p1, A1⟩ => by
    cases p1 with
    | @lst a vs ds h r => exact .inl ⟨a, rfl, ⟨vs, SqL.of (R1.same _ _ h)⟩, A1.here R1 (walks_fix (walks_list (SqL.of h) r))⟩
    | @ro a vs ds h r => exact .inl ⟨a, rfl, ⟨vs, R1.same.seq h⟩, A1.here R1 (walks_fix (walks_list h r))⟩
    | @tup a vs ds h r => exact .inr (.inl ⟨a, rfl, ⟨vs, sqT_same R1.same h⟩, A1.here R1 (walks_fix (walks_tup h r))⟩)
    | str s => exact .inr (.inr ⟨s, rfl, A1.here R1 (walks_fix walks_str)⟩)
    | @ref k a hk =>
      have A2 : After (rW X.K) X.K I1 m1 H1 (fun cls dd H' => W cls dd σ H') Q (match cellL k c1 with
        | some _ => .ok (cellW k) c1
        | none => .stuck) := A1
      cases q : cellL k c1 with
      | none => rw [q] at A2; exact A2.elim
      | some ds =>
        rw [q] at A2
        refine .inl ⟨a, rfl, ?_, A2.here R1 (walks_cell hk)⟩
        have q0 := q
        unfold cellL at q
        cases z : c1[k]? with
        | none => rw [z] at q; cases q
        | some x =>
          rw [z] at q
          have hc := R1.cell k a x hk z
          cases x with
          | lst xs => obtain ⟨_, vs, h1, h2⟩ := hc; exact ⟨vs, SqL.of h1⟩
          | frz d =>
            cases d with
            | lst xs =>
              obtain ⟨_, hr⟩ := hc
              cases hr with
              | lst h1 h2 => exact ⟨_, SqL.of (R1.same _ _ h1)⟩
            | _ => cases q
          | _ => cases q
    | _ => exact A1.elim⟩

/-! ### for -/
def forW (g : MG) (f : MS) (w : Wk) : Nat → Nat → Ls → Cs → RS
  | 0, _, _, _ => .stuck
  | n + 1, i, l, c => match w i c with
    | none => .stuck
    | some none => .go (.nx l) c
    | some (some d) => (g d l c).seq l fun l1 c1 => match f l1 c1 with
      | .go (.nx l2) c2 => forW g f w n (i + 1) l2 c2
      | .go (.ct l2) c2 => forW g f w n (i + 1) l2 c2
      | .go (.bk l2) c2 => .go (.nx l2) c2
      | r => r
def fuelW : Nat := 20000000
def sForW (it : MK) (g : MG) (f : MS) : MS := fun l c => (it l c).seq l fun w c1 => forW g f w fuelW 0 l c1
theorem ms_forW {X : Cx} {W : WX} {tg iter : Expr} {body : List Stmt} {pos : Pos} {fi : MK} {g : MG} {f : MS} (hp : PassesOwn (model X.prog X.w) X.A X.env X.xe) (hc : X.calm = true) (hi : PI X tg iter (rdK X.K W fi)) (hg : PG X tg (rdG X.K W g)) (hb : PSs X body (rdS X.K W f))
    (hs : ∀ x, foldedSetIterable iter X.env x = pure x := by intro _; rfl) : PS X (.For tg iter body [] pos) (rdS X.K W (sForW fi g f)) := PSi (ps_for hp hc hi hg hb hs) fun D σ H ⟨I, m, l, c, R, L, A⟩ => by
  refine ⟨I, m, l, c, R, L, After.mono (AfterS.seq (rep := rW X.K) L A) fun J H1 ⟨I1, m1, c1, w, E1, R1, w1, A1⟩ => ?_⟩
  refine ⟨fun i n σ H => ∃ I' m' l' c', Ext I1 m1 H1 I' m' H ∧ Rel X.K I' H m' c' ∧ Locs X.K I' m' σ l' ∧ AfterS X.K I' m' H W D (forW g f w n i l' c'), ⟨_, I1, m1, l, c1, Ext.refl _ _ _, R1, L.ext E1, A1⟩, ?_⟩
  rintro i n σ' H' ⟨I', m', l', c', E', R', L', A'⟩
  obtain ⟨wg, ws⟩ := w1 i I' H' m' c' E'.same E'.pre R'
  cases n with
  | zero => exact A'.elim
  | succ n =>
    have A' : AfterS X.K I' m' H' W D (match w i c' with
      | none => .stuck
      | some none => .go (.nx l') c'
      | some (some d) => (g d l' c').seq l' fun l1 c1 => match f l1 c1 with
        | .go (.nx l2) c2 => forW g f w n (i + 1) l2 c2
        | .go (.ct l2) c2 => forW g f w n (i + 1) l2 c2
        | .go (.bk l2) c2 => .go (.nx l2) c2
        | r => r) := A'
    cases q : w i c' with
    | none => rw [q] at A'; exact A'.elim
    | some od =>
      rw [q] at A'
      cases od with
      | none => exact .inl ⟨ws q, A' I' m' H' σ' (Ext.refl _ _ _) R' L'⟩
      | some d =>
        obtain ⟨go, yl⟩ := wg d q
        refine .inr ⟨go, fun σ2 H2 => ∃ I2 m2 l2 c2, Ext I1 m1 H1 I2 m2 H2 ∧ Rel X.K I2 H2 m2 c2 ∧ Locs X.K I2 m2 σ2 l2 ∧ AfterS X.K I2 m2 H2 W D (forW g f w n (i + 1) l2 c2),
          fun σ2 H2 ⟨I2, m2, l2, c2, e2, r2, L2, a2⟩ => ⟨n, Nat.lt_succ_self n, I2, m2, l2, c2, e2, r2, L2, a2⟩, fun x H3 y => ?_⟩
        obtain ⟨I3, E3, R3, p3⟩ := yl x H3 y
        have A3 := AfterS.ext E3 A'
        refine ⟨I3, m', l', c', d, R3, L'.ext E3, p3, After.mono (AfterS.seq (rep := rL X.K) (L'.ext E3) A3) fun σ4 H4 ⟨I4, m4, c4, l4, E4, R4, L4, A4⟩ => ?_⟩
        refine ⟨I4, m4, l4, c4, R4, L4, ?_⟩
        have EE := (E'.trans E3).trans E4
        have A5 : AfterS X.K I4 m4 H4 W D (match f l4 c4 with
          | .go (.nx l2) c2 => forW g f w n (i + 1) l2 c2
          | .go (.ct l2) c2 => forW g f w n (i + 1) l2 c2
          | .go (.bk l2) c2 => .go (.nx l2) c2
          | r => r) := A4
        cases qf : f l4 c4 with
        | stuck => rw [qf] at A5; exact A5
        | exc x l' c' => rw [qf] at A5; exact A5
        | go fl c5 =>
          rw [qf] at A5
          cases fl with
          | nx l5 => exact fun I6 m6 H6 σ6 e6 r6 L6 => ⟨I6, m6, l5, c5, EE.trans e6, r6, L6, AfterS.ext e6 A5⟩
          | ct l5 => exact fun I6 m6 H6 σ6 e6 r6 L6 => ⟨I6, m6, l5, c5, EE.trans e6, r6, L6, AfterS.ext e6 A5⟩
          | bk l5 => exact A5
          | rt d => exact A5

/-! ### comprehensions -/
def compW (g : MG) (t : MT) (e : ME) (lw : Ls) (w : Wk) : Nat → Nat → List D → Cs → R (List D)
  | 0, _, _, _ => .stuck
  | n + 1, i, acc, c => match w i c with
    | none => .stuck
    | some none => .ok acc c
    | some (some d) => (g d lw c).nox.bind fun l1 c1 => (t l1 c1).nox.bind fun k c2 => match k with
      | true => (e l1 c2).nox.bind fun x c3 => if acc.length < sizeLine then compW g t e lw w n (i + 1) (acc ++ [x]) c3 else .stuck
      | false => compW g t e lw w n (i + 1) acc c2
def mLcW (it : MK) (js : List Nat) (g : MG) (t : MT) (e : ME) : ME := fun l c => (it l c).bind fun w c1 => (compW g t e (wipeL l js) w fuelW 0 [] c1).bind fun xs c2 => .ok (.lst xs) c2
theorem lc_readW {K : PySem.W.Frag} {W : WX} {fi : MK} {g : MG} {ft : MT} {fe : ME} {js : List Nat} {g0 : TG} (good : Good g0 js) (rg : ∀ v σ H Q, rdG K W0 g v σ H Q → g0 v σ H Q) {σ : St} {H : Hp} {Q : VK} (h : rdE K W (mLcW fi js g ft fe) σ H Q) :
    tLc (rdK K W fi) g0 (rdT K W0 ft) (rdE K W0 fe) js σ H Q := by
  obtain ⟨I, m, l, c, R, L, A⟩ := h
  refine ⟨I, m, l, c, R, L, After.mono (After.bind (rep := rW K) A) fun J H1 ⟨I1, m1, c1, w, E1, R1, w1, A1⟩ => ?_⟩
  intro Dn hD
  have nI := R1.same.free hD
  have nm := R1.fresh hD
  refine ⟨fun i n H => ∃ I' m' c' acc vs, Ext I1 m1 H1 I' m' H ∧ Rel K I' H m' c' ∧ Reps K I' m' vs acc ∧ H Dn = some (.lst vs) ∧ I' Dn = none ∧ Dn ∉ m' ∧
    After (rD K) K I1 m1 H1 (fun cls dd H' => W cls dd σ H') Q ((compW g ft fe (wipeL l js) w n i acc c').bind fun xs c2 => .ok (.lst xs) c2),
    ⟨_, I1, m1, c1, [], [], ⟨Same.refl _, Pre.refl _, fun b o h1 hT h2 h3 => ⟨by rw [upd_ne (ne_of_none h1 hD)]; exact h1, h2, h3⟩⟩, R1.side (vs := []) (.inl hD) nI nm, .nil, upd_same, nI, nm, A1⟩, ?_⟩
  rintro i n H' ⟨I', m', c', acc, vs, E', R', p', hH', hI', hm', A'⟩
  obtain ⟨wg, ws⟩ := w1 i I' H' m' c' E'.same E'.pre R'
  have asc : ∀ {α β γ : Type} (r : Mi.R α) (f : α → Cs → Mi.R β) (h : β → Cs → Mi.R γ), (r.bind f).bind h = r.bind fun a c => (f a c).bind h := fun r f h => by cases r <;> rfl
  cases n with
  | zero => exact A'.elim
  | succ n =>
    have A' : After (rD K) K I1 m1 H1 (fun cls dd H' => W cls dd σ H') Q ((match w i c' with
      | none => .stuck
      | some none => .ok acc c'
      | some (some d) => (g d (wipeL l js) c').nox.bind fun l1 c1 => (ft l1 c1).nox.bind fun k c2 => match k with
        | true => (fe l1 c2).nox.bind fun x c3 => if acc.length < sizeLine then compW g ft fe (wipeL l js) w n (i + 1) (acc ++ [x]) c3 else .stuck
        | false => compW g ft fe (wipeL l js) w n (i + 1) acc c2 : Mi.R (List D)).bind fun xs c2 => .ok (.lst xs) c2) := A'
    cases q : w i c' with
    | none => rw [q] at A'; exact A'.elim
    | some od =>
      rw [q] at A'
      cases od with
      | none =>
        refine .inl ⟨ws q, ?_⟩
        have sI : Same I' (upd I' Dn (.lst vs)) := fun b o e => by rw [upd_ne (ne_of_none e hI')]; exact e
        refine A' (upd I' Dn (.lst vs)) m' H' (.ref Dn) ⟨E'.same.trans sI, E'.pre, fun b o h1 hT h2 h3 => ?_⟩ (R'.adopt hH' hI' hm') (.lst upd_same (p'.mono sI (Pre.refl _)))
        obtain ⟨q1, q2, q3⟩ := E'.fr b o h1 hT h2 h3
        exact ⟨q1, by rw [upd_ne (ne_of_none h1 hD)]; exact q2, q3⟩
      | some d =>
        obtain ⟨go, yl⟩ := wg d q
        refine .inr ⟨go, fun H2 => ∃ I2 m2 c2 acc2 vs2, Ext I1 m1 H1 I2 m2 H2 ∧ Rel K I2 H2 m2 c2 ∧ Reps K I2 m2 vs2 acc2 ∧ H2 Dn = some (.lst vs2) ∧ I2 Dn = none ∧ Dn ∉ m2 ∧
          After (rD K) K I1 m1 H1 (fun cls dd H' => W cls dd σ H') Q ((compW g ft fe (wipeL l js) w n (i + 1) acc2 c2).bind fun xs c2 => .ok (.lst xs) c2),
          fun H2 ⟨I2, m2, c2, acc2, vs2, e2, r2, pp2, h2, i2, n2, a2⟩ => ⟨n, Nat.lt_succ_self n, I2, m2, c2, acc2, vs2, e2, r2, pp2, h2, i2, n2, a2⟩, fun x H3 y => ?_⟩
        obtain ⟨I3, E3, R3, p3⟩ := yl x H3 y
        have Lw := ((locs_wipe L js).ext E1).ext (E'.trans E3)
        have A3 : After (rD K) K I1 m1 H1 (fun cls dd H' => W cls dd σ H') Q (((g d (wipeL l js) c').nox.bind fun l1 c1 => (ft l1 c1).nox.bind fun k c2 => match k with
          | true => (fe l1 c2).nox.bind fun x c3 => if acc.length < sizeLine then compW g ft fe (wipeL l js) w n (i + 1) (acc ++ [x]) c3 else .stuck
          | false => compW g ft fe (wipeL l js) w n (i + 1) acc c2).bind fun xs c2 => .ok (.lst xs) c2) := A'
        rw [asc] at A3
        refine good x σ H3 _ (rg _ _ _ _ ⟨I3, m', wipeL l js, c', d, R3, Lw, p3, After.mono (After.nox (After.bindAt (rep := rL K) A3 (E'.trans E3))) fun σ4 H4 ⟨I4, m4, c4, l4, E4, R4, L4, A4⟩ => ?_⟩)
        rw [asc] at A4
        have EE := (E'.trans E3).trans E4
        refine ⟨I4, m4, l4, c4, R4, L4, After.mono (After.nox (After.bindAt (rep := rB) A4 EE)) fun b H5 ⟨I5, m5, c5, b5, E5, R5, p5, A5⟩ => ?_⟩
        cases (show b = b5 from p5)
        have F5 := (E3.trans E4).trans E5
        cases b with
        | false =>
          obtain ⟨f1, f2, f3⟩ := F5.fr _ _ hH' ⟨⟨(fun _ z => nomatch z), (fun _ z => nomatch z)⟩, (fun _ z => nomatch z)⟩ hI' hm'
          exact iteF ⟨I5, m5, c5, acc, vs, EE.trans E5, R5, p'.ext F5, f1, f2, f3, A5⟩
        | true =>
          have A6 : After (rD K) K I1 m1 H1 (fun cls dd H' => W cls dd σ H') Q (((fe l4 c5).nox.bind fun x c3 => if acc.length < sizeLine then compW g ft fe (wipeL l js) w n (i + 1) (acc ++ [x]) c3 else .stuck).bind fun xs c2 => .ok (.lst xs) c2) := A5
          rw [asc] at A6
          have L4' : Locs K I4 m4 σ4 l4 := L4
          refine iteT ⟨I5, m5, l4, c5, R5, L4'.ext E5, After.mono (After.nox (After.bindAt (rep := rD K) A6 (EE.trans E5))) fun z H7 ⟨I7, m7, c7, d7, E7, R7, p7, A7⟩ => ?_⟩
          have F7 := F5.trans E7
          obtain ⟨f1, f2, f3⟩ := F7.fr _ _ hH' ⟨⟨(fun _ z => nomatch z), (fun _ z => nomatch z)⟩, (fun _ z => nomatch z)⟩ hI' hm'
          by_cases hz : acc.length < sizeLine
          · have A8 : After (rD K) K I1 m1 H1 (fun cls dd H' => W cls dd σ H') Q ((if acc.length < sizeLine then compW g ft fe (wipeL l js) w n (i + 1) (acc ++ [d7]) c7 else .stuck).bind fun xs c2 => .ok (.lst xs) c2) := A7
            rw [if_pos hz] at A8
            refine ⟨vs, f1, by rw [p'.length]; exact hz, I7, m7, c7, acc ++ [d7], vs ++ [z], ?_, R7.side (.inr f1) f2 f3, (p'.ext F7).append (.cons p7 .nil), upd_same, f2, f3, A8⟩
            have G := (EE.trans E5).trans E7
            refine ⟨G.same, G.pre, fun b o h1 hT h2 h3 => ?_⟩
            obtain ⟨q1, q2, q3⟩ := G.fr b o h1 hT h2 h3
            exact ⟨by rw [upd_ne (ne_of_none h1 hD)]; exact q1, q2, q3⟩
          · have A8 : After (rD K) K I1 m1 H1 (fun cls dd H' => W cls dd σ H') Q ((if acc.length < sizeLine then compW g ft fe (wipeL l js) w n (i + 1) (acc ++ [d7]) c7 else .stuck).bind fun xs c2 => .ok (.lst xs) c2) := A7
            rw [if_neg hz] at A8
            exact A8.elim
end L2.Mi

/-! operations of own classes -/
namespace L2.Mi
open PySem PySem.Spec PyProof.Rows L2
/-- a special method of the class named n -/
structure SpcK (P : Program) (w : World) (K : PySem.W.Frag) (mg : Str → Option Value) (base : Heap) (n mm : Str) (g : List D → Cs → R D) (k : Nat) : Prop where
  ex : ∃ (C f : Addr) (fd : FuncData) (ps : List Str), NamV K n (.ref C) ∧ (PySem.W.findIn K (.ref C) mm = some (some (.ref f)) ∧ PySem.W.isFn K (.ref f) = true ∧ PySem.W.fnIn K f = true ∧ PySem.W.selfFirst K C = true) ∧ GFn P w K mg base k f fd ps g ∧ Binds K fd ps []
section
variable {X : Cx} {W : WX} {e o a b : Expr} {es : List Expr} {fa fb fo : ME} {ga : MA} {ns : List Str} {pos p : Pos} {k : Nat} {tbl : Tbl} {mm : Str} {g0 : D → D → Cs → R D}
/-- the callee runs at a place below the body -/
theorem run_gAt {A' : Around} {pins : List (Addr × Obj)} {σ : St} {H : Hp} {s : Shared} {Q : VK} {us : List Value} {vs : List V} {I : Hp} {m : List Addr} {c : Cs} {ds : List D} {f : Addr} {fd : FuncData} {ps : List Str} {g : List D → Cs → R D} (F : GFn X.prog X.w X.K X.mg X.base k f fd ps g) (hr : Room k A') (hgd : A'.guards = some [])
    (e0 : Env0 X.prog X.w X.K X.mg X.base A' X.stack s H) (hb : Binds X.K fd ps []) (tk : Takes X W) (J : Inv X pins σ H s) (r : Vals vs us) (R : Rel X.K I H m c) (p : Reps X.K I m vs ds) (a : After (rD X.K) X.K I m H (fun cls d H' => W cls d σ H') Q (g ds c)) :
    wpAny (model X.prog X.w) A' (call (.ref f) us) (EP X pins σ Q) X.xe s := by
  have hl : us.length = ps.length := by rw [← r.length, p.length]; exact F.len ds c (after_nonstuck a)
  have hb2 : BindsTo s fd ⟨us, []⟩ (ps.zip us) := by
    have z := hb s us J.kIn (by rw [List.append_nil]; exact hl)
    rw [List.append_nil] at z
    exact z
  refine wpAny_call (codeAny_mono (F.run A' X.stack s H ⟨us, []⟩ us vs Q (fun cls d H' => W cls d σ H') I m c ds hr hgd e0 hb2 r R p a) fun res s' hq => ?_)
  cases res with
  | error e => exact tk e s' (XE.of_call J (fun _ _ _ h => h) hq)
  | ok fl =>
    cases fl with
    | ret u => exact J.after hq
    | next => exact False.elim hq
    | brk => exact False.elim hq
    | cont => exact False.elim hq
/-- .. a special method's call, told of the instance -/
theorem spc_run {pins : List (Addr × Obj)} {σ : St} {H : Hp} {s : Shared} {Q : VK} {I : Hp} {m : List Addr} {c : Cs} {α : Type} {rep : Hp → List Addr → V → α → Prop} {v : V} {u : Value} {d : D} {r : (List D → Cs → R D) → Mi.R α} (hT : ∀ q ∈ tbl, SpcK X.prog X.w X.K X.mg X.base q.1 mm q.2 k)
    (J : Inv X pins σ H s) (R : Rel X.K I H m c) (pd : Rep X.K I m v d) (rv : RelV v u) (A : After rep X.K I m H (fun cls dd H' => W cls dd σ H') Q (viaT tbl d c fun g _ => r g)) :
    ∃ (a C f : Addr) (ox : Obj) (od : Obj) (g : List D → Cs → Mi.R D) (n : Str), u = .ref a ∧ v = .ref a ∧ NamV X.K n (.ref C) ∧ (∃ fs, insOf d c = some (n, fs)) ∧ PySem.W.InstAt s.heap a ox C (some od) ∧ ox.data = .plain ∧ (PySem.W.findIn X.K (.ref C) mm = some (some (.ref f)) ∧ PySem.W.isFn X.K (.ref f) = true ∧ PySem.W.fnIn X.K f = true ∧ PySem.W.selfFirst X.K C = true) ∧ After rep X.K I m H (fun cls dd H' => W cls dd σ H') Q (r g) ∧
      ∀ (A' : Around) (us : List Value) (vs : List V) (ds : List D) (Q2 : VK), Room k A' → A'.guards = some [] → Env0 X.prog X.w X.K X.mg X.base A' X.stack s H → Takes X W → Vals vs us → Reps X.K I m vs ds →
        After (rD X.K) X.K I m H (fun cls d H' => W cls d σ H') Q2 (g ds c) → wpAny (model X.prog X.w) A' (call (.ref f) us) (EP X pins σ Q2) X.xe s := by
  have A0 := A
  unfold viaT at A
  cases q : insOf d c with
  | none => rw [q] at A; exact A.elim
  | some nf =>
    obtain ⟨n, fs⟩ := nf
    rw [q] at A
    have A : After rep X.K I m H (fun cls dd H' => W cls dd σ H') Q (match tbl.lookup n with
      | some g => r g
      | none => .stuck) := A
    cases z : tbl.lookup n with
    | none => rw [z] at A; exact A.elim
    | some g =>
      rw [z] at A
      obtain ⟨a, C, dx, ws, rfl, h1, h2, h3⟩ := ins_at R pd q
      obtain rfl : u = Value.ref a := rv
      obtain ⟨C', f, fd, ps, k1, kk, F, hb⟩ := (hT _ (tbl_mem z)).ex
      cases h1.one k1
      obtain ⟨mA, O, _⟩ := ins_get J.hok h2
      obtain ⟨od, JJ, _⟩ := O.look
      exact ⟨a, C, f, _, od, g, n, rfl, rfl, h1, ⟨fs, rfl⟩, JJ, rfl, kk, A, fun A' us vs ds Q2 hr hgd e0 tk r p a2 => run_gAt F hr hgd e0 hb tk J r R p a2⟩
/-! ### two operands -/
def rX (K : PySem.W.Frag) (W : WX) (σ : St) (g : D → D → Cs → R D) (x y : V) (H : Hp) (Q : VK) : Prop := ∃ I m c d e, Rel K I H m c ∧ Rep K I m x d ∧ Rep K I m y e ∧ After (rD K) K I m H (fun cls dd H' => W cls dd σ H') Q (g d e c)
def OpX (X : Cx) (W : WX) (f : Value → Value → Sem Value) (g : D → D → Cs → R D) : Prop := ∀ (pins : List (Addr × Obj)) (s : Shared) (σ : St) (H : Hp) (x y : V) (v u : Value) (Q : VK), Inv X pins σ H s → RelV x v → RelV y u → rX X.K W σ g x y H Q →
  wpAny (model X.prog X.w) X.A (f v u) (EP X pins σ Q) X.xe s
theorem OpX.of {f : Value → Value → Sem Value} {r : R2} (ho : OpR X f r) (hs : OpS X.K r g0) : OpX X W f g0 := fun pins s σ H x y v u Q J rx ry ⟨I, m, c, d, e, R, p, q, A⟩ => ho pins s σ H x y v u Q J rx ry (hs _ _ _ _ _ _ _ _ _ _ R p q A)
theorem opX_read {σ : St} {H : Hp} {Q : VK} {K : PySem.W.Frag} (h : rdE K W (mOp g0 fa fb) σ H Q) : rdE K W fa σ H fun x H1 => rdE K W fb σ H1 fun y H2 => rX K W σ g0 x y H2 Q := by
  obtain ⟨I, m, l, c, R, L, A⟩ := h
  refine ⟨I, m, l, c, R, L, After.mono (After.bind (rep := rD K) A) fun v1 H1 ⟨I1, m1, c1, d1, E1, R1, p1, A1⟩ => ?_⟩
  refine ⟨I1, m1, l, c1, R1, L.ext E1, After.mono (After.bind (rep := rD K) A1) fun v2 H2 ⟨I2, m2, c2, d2, E2, R2, p2, A2⟩ => ?_⟩
  exact ⟨I2, m2, c2, d1, d2, R2, Rep.ext p1 E2, p2, A2⟩
theorem mt_cmpX {op : CmpOp} (ho : OpX X W (compareOp op) g0) (ha : PE X a (rdE X.K W fa)) (hb : PE X b (rdE X.K W fb)) (hm : behindInMarks op b = false) : PT X (.Compare a [op] [b] pos) (rdT X.K W (mT (mOp g0 fa fb))) := by
  refine ⟨fun pins s σ H Q J h => ?_⟩
  obtain ⟨I, m, l, c, R, L, A⟩ := h
  have h2 : rdE X.K W (mOp g0 fa fb) σ H fun x H' => ∃ k, x = .bl k ∧ Q k H' := ⟨I, m, l, c, R, L, After.mono (After.bind (rep := rD X.K) A) fun v1 H1 ⟨I1, m1, c1, d1, E1, R1, p1, A1⟩ => by
    cases p1 with
    | bl k => exact ⟨k, rfl, A1.here R1 rfl⟩
    | _ => exact A1.elim⟩
  refine wpAny_isTrue_Compare1 (binT ha hb J (opX_read h2) fun v u s2 x y H2 I2 rx ry q => thn (ho pins s2 σ H2 x y v u _ I2 rx ry q) fun c s3 ⟨z, H3, I3, r3, k, e, q3⟩ => ?_) hm
  subst e
  cases r3
  exact wpAny_truthy_bool ⟨H3, I3, q3⟩
/-- x in y, y perhaps an instance -/
def inI (tbl : Tbl) (neg : Bool) (g0 : D → D → Cs → R D) (x y : D) (c : Cs) : R D := match insOf y c with
  | some _ => (viaT tbl y c fun g _ => g [y, x] c).bind fun r c2 => match r with
    | .bl b => .ok (.bl (sgn neg b)) c2
    | _ => .stuck
  | none => g0 x y c
theorem ox_in {neg : Bool} (hT : ∀ q ∈ tbl, SpcK X.prog X.w X.K X.mg X.base q.1 "__contains__" q.2 k) (hr : Room k X.A) (hgd : X.A.guards = some []) (tk : Takes X W) (h0 : OpX X W (compareOp (if neg then .NotIn else .In)) g0) : OpX X W (compareOp (if neg then .NotIn else .In)) (inI tbl neg g0) :=
  fun pins s σ H x y v u Q J rx ry ⟨I, m, c, d, e, R, p, q, A⟩ => by
    unfold inI at A
    cases z : insOf e c with
    | none => rw [z] at A; exact h0 pins s σ H x y v u Q J rx ry ⟨I, m, c, d, e, R, p, q, A⟩
    | some nf =>
      rw [z] at A
      have A : After (rD X.K) X.K I m H (fun cls dd H' => W cls dd σ H') Q ((viaT tbl e c fun g _ => g [e, d] c).bind fun r c2 => match r with
        | .bl b => .ok (.bl (sgn neg b)) c2
        | _ => .stuck) := A
      obtain ⟨a, C, f, ox, od, g, n, rfl, rfl, _, _, JJ, _, kk, A2, run⟩ := spc_run hT J R q ry (After.bind (rep := rD X.K) A)
      obtain ⟨m0, F⟩ := J.fr
      have body : wpAny (model X.prog X.w) X.A (call (.ref f) [.ref a, v]) (fun r s' => wpAny (model X.prog X.w) X.A (truthy r) (fun b => EP X pins σ Q (.bool (sgn neg b))) X.xe s') X.xe s :=
        wpAny_mono (run X.A [.ref a, v] [.ref a, x] [e, d] _ hr hgd J.env0 tk (.cons rfl (.cons rx .nil)) (.cons q (.cons p .nil)) A2) (fun w s' ⟨z, H', J', rz, I1, m1, c1, d1, E1, R1, p1, A3⟩ => by
          cases p1 with
          | bl b =>
            cases (show w = Value.bool b from rz)
            exact wpAny_truthy_bool ⟨.bl (sgn neg b), H', J', rfl, A3.here R1 (.bl _)⟩
          | _ => exact A3.elim) fun _ _ z => z
      cases neg with
      | false => exact PySem.W.in_K F J.ok.mod.kin JJ kk.1 kk.2.1 body
      | true => exact PySem.W.notIn_K F J.ok.mod.kin JJ kk.1 kk.2.1 body
end
end L2.Mi

/-! lists and texts once more: *, join, count, and results that stand in cells -/
namespace L2.Mi
open PySem PySem.Spec PyProof.Rows L2
section
variable {K : PySem.W.Frag} {I H : Hp} {m : List Addr} {c : Cs}
theorem After.cell {W : XK} {Q : VK} {p : Addr} {vs : List V} {ds : List D} (A : After (rD K) K I m H W Q (.ok (.ref c.length) (c ++ [.lst ds]))) (R : Rel K I H m c) (np : H p = none) (r : Reps K I m vs ds) : Q (.ref p) (upd H p (.lst vs)) := by
  obtain ⟨R2, E2⟩ := R.push np r
  refine A _ _ _ _ E2 R2 (Rep.ref ?_)
  rw [← R.len, List.getElem?_append_right (Nat.le_refl _), Nat.sub_self]
  rfl
/-! ### * -/
def repL {α : Type} (xs : List α) (k : Int) : List α := (List.replicate k.toNat xs).flatten
theorem Reps.rep {vs : List V} {ds : List D} (r : Reps K I m vs ds) : ∀ n : Nat, Reps K I m (List.replicate n vs).flatten (List.replicate n ds).flatten
  | 0 => .nil
  | n + 1 => by
    rw [List.replicate_succ, List.replicate_succ, List.flatten_cons, List.flatten_cons]
    exact r.append (Reps.rep r n)
def mulLim (n : Nat) (k : Int) : Prop := n * k.toNat ≤ 100000 ∧ -1000 ≤ k ∧ k ≤ 100000
instance (n : Nat) (k : Int) : Decidable (mulLim n k) := inferInstanceAs (Decidable (n * k.toNat ≤ 100000 ∧ -1000 ≤ k ∧ k ≤ 100000))
def mulT (xs : List D) (k : Int) (c : Cs) : R D := if xs.length ≠ 0 ∧ 2 ≤ k ∧ k ≤ 1000 ∧ xs.length ≤ 1000 then .ok (.tup (repL xs k)) c else .stuck
def mulL (cell : Bool) (x : D) (k : Int) (c : Cs) : R D := match lstC x c with
  | some xs => if mulLim xs.length k then (if cell then .ok (.ref c.length) (c ++ [.lst (repL xs k)]) else .ok (.lst (repL xs k)) c) else .stuck
  | none => .stuck
def mulX (cell : Bool) (x y : D) (c : Cs) : R D := match y with
  | .int k => match x with
    | .int i => mulI (.int i) (.int k) c
    | .str s => if mulLim s.length k then .ok (.str (Txt.mul s k)) c else .stuck
    | .tup xs => mulT xs k c
    | x => mulL cell x k c
  | _ => .stuck
def rMulS : R2 := fun x y H Q => ∃ s k, x = .str s ∧ y = .int k ∧ MulOk s k ∧ Q (.str (Txt.mul s k)) H
theorem op_mulS {X : Cx} : OpR X (binaryOp .Mult) rMulS := by
  intro pins s σ H x y v u Q J rx ry h
  obtain ⟨z, k, rfl, rfl, hz, q⟩ := h
  obtain ⟨t, rfl⟩ := rx
  obtain ⟨t2, rfl⟩ := ry
  exact PySem.SB.mul hz fun t' k' => ⟨.str _, H, J.tok _, ⟨t', rfl⟩, q⟩
theorem mulOk {s : Str} {k : Int} (h : mulLim s.length k) : MulOk s k := by
  obtain ⟨h1, h2, h3⟩ := h
  refine ⟨?_, fun a b => ?_, fun a b => PyProof.Rows.short24 (by omega)⟩
  · rw [Bool.or_eq_false_iff]
    exact ⟨decide_eq_false (by omega), decide_eq_false (by omega)⟩
  · have a1 : 1 ≤ k := by omega
    have hs : s.length ≤ 100000 := by
      have : s.length * 1 ≤ s.length * k.toNat := Nat.mul_le_mul_left _ (by omega)
      omega
    have : (100000 : Int) ≤ (2 ^ 63 - 1) / k := Int.le_ediv_of_mul_le (by omega) (by omega)
    omega
def rMulX (K : PySem.W.Frag) : R2 := fun x y H Q => (rI CMul fun i j => .int (i * j)) x y H Q ∨ rMulS x y H Q ∨ rRepT K x y H Q ∨ rRep x y H Q
theorem op_mulXX {X : Cx} : OpR X (binaryOp .Mult) (rMulX X.K) := op_mul.or (op_mulS.or (op_repT.or op_rep))
theorem os_mulX {cell : Bool} : OpS K (rMulX K) (mulX cell) := fun I H m c v1 v2 d1 d2 W Q R p1 p2 A => by
  have lst : ∀ k : Int, v2 = .int k → After (rD K) K I m H W Q (mulL cell d1 k c) → rMulX K v1 v2 H Q := fun k e A => by
    subst e
    unfold mulL at A
    cases q : lstC d1 c with
    | none => rw [q] at A; exact A.elim
    | some xs =>
      rw [q] at A
      have A : After (rD K) K I m H W Q (if mulLim xs.length k then (if cell = true then .ok (.ref c.length) (c ++ [.lst (repL xs k)]) else .ok (.lst (repL xs k)) c) else .stuck) := A
      by_cases z : mulLim xs.length k
      · rw [if_pos z] at A
        obtain ⟨a1, vs1, rfl, h1, r1⟩ := lstC_at R p1 q
        have z2 := z
        rw [← r1.length] at z2
        obtain ⟨z1, z3, z4⟩ := z2
        have hz : sizeLine = 16777216 := sizeLine_eq
        refine .inr (.inr (.inr ⟨_, _, _, rfl, rfl, h1, by omega, by omega, by omega, fun p np => ?_⟩))
        cases cell with
        | true => exact After.cell (show After (rD K) K I m H W Q (.ok (.ref c.length) (c ++ [.lst (repL xs k)])) from A) R np (r1.rep _)
        | false =>
          have A : After (rD K) K I m H W Q (.ok (.lst (repL xs k)) c) := A
          exact A.new R np (.lst upd_same ((r1.rep _).mono (same_upd R.same np) (Pre.refl _)))
      · rw [if_neg z] at A; exact A.elim
  cases p2 with
  | int k =>
    cases p1 with
    | int i => exact .inl (os_mulI I H m c _ _ _ _ W Q R (.int i) (.int k) A)
    | str s =>
      have A : After (rD K) K I m H W Q (if mulLim s.length k then .ok (.str (Txt.mul s k)) c else .stuck) := A
      by_cases z : mulLim s.length k
      · rw [if_pos z] at A
        exact .inr (.inl ⟨s, k, rfl, rfl, mulOk z, A.here R (.str _)⟩)
      · rw [if_neg z] at A; exact A.elim
    | @tup a vs ds h r =>
      have A : After (rD K) K I m H W Q (if ds.length ≠ 0 ∧ 2 ≤ k ∧ k ≤ 1000 ∧ ds.length ≤ 1000 then .ok (.tup (repL ds k)) c else .stuck) := A
      by_cases z : ds.length ≠ 0 ∧ 2 ≤ k ∧ k ≤ 1000 ∧ ds.length ≤ 1000
      · rw [if_pos z] at A
        obtain ⟨z1, z2, z3, z4⟩ := z
        refine .inr (.inr (.inl ⟨a, k, vs, rfl, rfl, sqT_same R.same h, fun e => ?_, z2, z3, by rw [r.length]; exact z4, fun p np => A.new R np (.tup ?_ ((r.rep _).mono (same_upd R.same np) (Pre.refl _)) (.inl ?_))⟩))
        · have := r.length
          rw [e] at this
          exact z1 this.symm
        · exact .inl (.inl upd_same)
        · exact upd_same
      · rw [if_neg z] at A; exact A.elim
    | lst h r => exact lst k rfl A
    | ref h => exact lst k rfl A
    | _ => exact lst k rfl A
  | _ => exact A.elim
/-! ### sep.join of what stands in a cell too -/
def joinX (x y : D) (c : Cs) : R D := match y with
  | .ref k => match x with
    | .str a => match lstC (.ref k) c with
      | some ds => joinL a ds c
      | none => .stuck
    | _ => .stuck
  | y => joinD x y c
theorem m1_joinX : M1S K (fun x xs H Q => ∃ a p, ∃ ys : List Str, x = .str a ∧ xs = [.ref p] ∧ (SqL K H p (ys.map V.str) ∨ SqT K H p (ys.map V.str)) ∧ (ys.map (·.length)).sum + ys.length * a.length ≤ 16777216 ∧ Q (.str (Txt.join a ys)) H) joinX :=
  fun I H m c v1 v2 d1 d2 W Q R p1 p2 A => by
    have old : After (rD K) K I m H W Q (joinD d1 d2 c) → _ := fun A => m1_join I H m c v1 v2 d1 d2 W Q R p1 p2 A
    cases d2 with
    | ref k =>
      cases p1 with
      | str a =>
        have A : After (rD K) K I m H W Q (match lstC (.ref k) c with
          | some ds => joinL a ds c
          | none => .stuck) := A
        cases e : lstC (.ref k) c with
        | none => rw [e] at A; exact A.elim
        | some ds =>
          rw [e] at A
          obtain ⟨p, vs, rfl, h1, r⟩ := lstC_at R p2 e
          have A : After (rD K) K I m H W Q (joinL a ds c) := A
          unfold joinL at A
          cases q : strsOf ds with
          | none => rw [q] at A; exact A.elim
          | some ys =>
            rw [q] at A
            have A : After (rD K) K I m H W Q (if (ys.map (·.length)).sum + ys.length * a.length ≤ 16777216 then .ok (.str (Txt.join a ys)) c else .stuck) := A
            by_cases hz : (ys.map (·.length)).sum + ys.length * a.length ≤ 16777216
            · rw [if_pos hz] at A
              refine ⟨a, p, ys, rfl, rfl, .inl ?_, hz, A.here R (.str _)⟩
              rw [← strs_reps r q]
              exact SqL.of h1
            · rw [if_neg hz] at A; exact A.elim
      | _ => exact A.elim
    | _ => exact old A
/-! ### s.count(t) -/
/-! ### list(x), the list a cell -/
end
/-! ### a class's constant, isinstance of an own class -/
def CCI (K : PySem.W.Frag) (n f : Str) (i : Int) : Prop := ∃ C mc t, PySem.W.nsIn K mainGlobals n = some (some (.ref C)) ∧ ClX.CRead K C mc ∧ ClX.CVal K C mc f (.int i) (.int i t)
section
variable {X : Cx} {W : WX} {e o : Expr} {es : List Expr} {f n : Str} {fa fo : ME} {ga : MA} {ns : List Str} {pos p p2 : Pos}
theorem me_ccI {i : Int} (T : CCI X.K n f i) (hg : Gl X n) (gx : ∀ n C, PySem.W.nsIn X.K mainGlobals n = some (some (.ref C)) → X.mg n = some (.ref C)) (hd : (n == ("__debug__" : Str)) = false := by decide) (hb : attributeBase (.Name n p) f X.env (eval (.Name n p) X.env) = eval (.Name n p) X.env := by rfl) :
    PE X (.Attribute (.Name n p) f pos) (rdE X.K W (mC (.int i))) := by
  obtain ⟨C, mc, t, h1, h2, h3⟩ := T
  exact PEi (ClX.pe_cval (pe_glob (v := .ref C) hg (gx _ _ h1) rfl hd) hb) fun σ H Q ⟨I, m, l, c, R, L, A⟩ => ⟨C, mc, .int i, _, rfl, h2, h3, A.here R (.int i)⟩
structure IsoK (K : PySem.W.Frag) (n : Str) (ns : List Str) : Prop where
  ex : ∃ C, PySem.W.nsIn K mainGlobals n = some (some (.ref C)) ∧ (∀ m ∈ ns, ∃ D', NamV K m (.ref D') ∧ Cls K D' ∧ PySem.W.findIn K (.ref D') "__class__" = some (some (.builtin "object.__class__")) ∧ PySem.W.specialIn K (.builtin "object.__class__") "__get__" = some (some (.builtin "getset_descriptor.__get__")) ∧
    PySem.W.takesIn K (.builtin "object.__class__") = some true ∧ PySem.W.mroIn K D' (.type "object") = some true ∧ PySem.W.kitOne K (.ref D') (.ref C) = some (m == n)) ∧ ∀ t ∈ tyNames, PySem.W.kitOne K (.type t) (.ref C) = some false
def isoR (n : Str) (ns : List Str) (x : D) (c : Cs) : R D := match insOf x c with
  | some (k, _) => if k ∈ ns then .ok (.bl (k == n)) c else .stuck
  | none => match tyD x c with
    | some _ => .ok (.bl false) c
    | none => .stuck
def mIso (n : Str) (ns : List Str) (a : ME) : ME := fun l c => (a l c).bind fun x c1 => isoR n ns x c1
theorem me_iso {q : Pos} (T : IsoK X.K n ns) (hg : Gl X "isinstance") (hm : X.mg "isinstance" = none) (hgn : Gl X n) (gx : ∀ n C, PySem.W.nsIn X.K mainGlobals n = some (some (.ref C)) → X.mg n = some (.ref C)) (ha : PE X e (rdE X.K W fa)) (hd : (n == ("__debug__" : Str)) = false := by decide)
    (he : starEach [e, .Name n p2] X.env = (false, eval e X.env) :: starEach [.Name n p2] X.env := by rfl) (hpl : (backTo pos (starEach [.Name n p2] X.env)).any (·.1) = false := by rfl) :
    PE X (.Call (.Name "isinstance" p) [e, .Name n p2] [] pos) (rdE X.K W (mIso n ns fa)) := by
  obtain ⟨C, h1, h2, h3⟩ := T.ex
  refine PEi (pe_callB (call_isi (X := X)) hg hm bt_isinstance (pa_cons ha (pa_cons (pe_glob (v := .ref C) hgn (gx _ _ h1) rfl hd) pa_nil) he) (he := he) (hpl := hpl)) fun σ H Q ⟨I, m, l, c, R, L, A⟩ =>
    ⟨I, m, l, c, R, L, After.mono (After.bind (rep := rD X.K) A) fun v1 H1 ⟨I1, m1, c1, d1, E1, R1, p1, A1⟩ => ?_⟩
  have A1 : After (rD X.K) X.K I1 m1 H1 (fun cls dd H' => W cls dd σ H') Q (match insOf d1 c1 with
    | some (k, _) => if k ∈ ns then .ok (.bl (k == n)) c1 else .stuck
    | none => match tyD d1 c1 with
      | some _ => .ok (.bl false) c1
      | none => .stuck) := A1
  cases q : insOf d1 c1 with
  | some nf =>
    obtain ⟨k, fs⟩ := nf
    rw [q] at A1
    have A1 : After (rD X.K) X.K I1 m1 H1 (fun cls dd H' => W cls dd σ H') Q (if k ∈ ns then .ok (.bl (k == n)) c1 else .stuck) := A1
    by_cases hk : k ∈ ns
    · rw [if_pos hk] at A1
      obtain ⟨a, C', dx, ws, rfl, k1, k2, k3⟩ := ins_at R1 p1 q
      obtain ⟨D', j1, j2, j3, j4, j5, j6, j7⟩ := h2 k hk
      cases k1.one j1
      exact ⟨.ref a, .ref C, _, .ref C, _, rfl, .own C, .base (.ins k2 j2 j3 j4 j5 j6), j7, A1.here R1 (.bl _)⟩
    · rw [if_neg hk] at A1; exact A1.elim
  | none =>
    rw [q] at A1
    have A1 : After (rD X.K) X.K I1 m1 H1 (fun cls dd H' => W cls dd σ H') Q (match tyD d1 c1 with
      | some _ => .ok (.bl false) c1
      | none => .stuck) := A1
    cases z : tyD d1 c1 with
    | none => rw [z] at A1; exact A1.elim
    | some t =>
      rw [z] at A1
      exact ⟨v1, .ref C, _, .ref C, _, rfl, .own C, tyD_is R1 p1 z, h3 t (tyD_mem z), A1.here R1 (.bl _)⟩
end
end L2.Mi
namespace L2.Mi
open PySem PySem.Spec PyProof.Rows L2
end L2.Mi

/-! the classmethod of(cls, *rows): return cls(rows); one-operand operations of own classes -/
namespace L2.Mi
open PySem PySem.Spec PyProof.Rows L2
def OfRun (P : Program) (w : World) (K : PySem.W.Frag) (mg : Str → Option Value) (base : Heap) (n : Str) (C f : Addr) (g : List D → Cs → R D) (k : Nat) : Prop :=
  ∀ (A : Around) (outer : List Env) (s : Shared) (H : Hp) (us : List Value) (vs : List V) (Q : VK) (E : XK) (I : Hp) (m : List Addr) (c : Cs) (ds : List D), Room k A → A.guards = some [] → Env0 P w K mg base A outer s H → Vals vs us → Rel K I H m c → Reps K I m vs ds → ds.length ≤ sizeLine →
    After (rD K) K I m H E Q (mkR n g [.tup ds] c) → codeAny (model P w) A (.call (.ref f) ⟨.ref C :: us, []⟩) (CR (CX P w) outer P w H s Q E) s
def ofR (n : Str) (g : List D → Cs → R D) (xs : List D) (c : Cs) : R D := if xs.length ≤ sizeLine then mkR n g [.tup xs] c else .stuck
section
variable {X : Cx} {W : WX} {n : Str} {g : List D → Cs → R D} {k : Nat} {e : Expr} {es : List Expr} {ga : MA} {p0 apos pos : Pos} {pl : Sem Bool}
theorem of_call {pins : List (Addr × Obj)} {σ : St} {H : Hp} {s : Shared} {Q : VK} {q C f : Addr} {us : List Value} {vs : List V} {I : Hp} {m : List Addr} {c : Cs} {ds : List D} (O : OfRun X.prog X.w X.K X.mg X.base n C f g k) (hr : Room k X.A) (hgd : X.A.guards = some []) (tk : Takes X W)
    (J : Inv X ((q, PySem.W.methodObj (.ref f) (.ref C)) :: pins) σ H s) (r : Vals vs us) (R : Rel X.K I H m c) (p : Reps X.K I m vs ds) (a : After (rD X.K) X.K I m H (fun cls dd H' => W cls dd σ H') Q (ofR n g ds c)) : wpAny (model X.prog X.w) X.A (call (.ref q) us) (EP X pins σ Q) X.xe s := by
  unfold ofR at a
  by_cases hz : ds.length ≤ sizeLine
  · rw [if_pos hz] at a
    have z : wpAny (model X.prog X.w) X.A (call (.ref q) us) (EP X ((q, PySem.W.methodObj (.ref f) (.ref C)) :: pins) σ Q) X.xe s := by
      refine wpAny_call (PySem.W.method_call (ClX.pin_at J) (codeAny_mono (O X.A X.stack s H us vs Q (fun cls d H' => W cls d σ H') I m c ds hr hgd J.env0 r R p hz a) fun res s' hq => ?_))
      cases res with
      | error e => exact tk e s' (XE.of_call J (fun _ _ _ h => h) hq)
      | ok fl =>
        cases fl with
        | ret u => exact J.after hq
        | next => exact False.elim hq
        | brk => exact False.elim hq
        | cont => exact False.elim hq
    exact thn z fun _ _ y => ClX.unpinE y
  · rw [if_neg hz] at a; exact a.elim
end
/-! ### one operand -/
section
variable {X : Cx} {W : WX} {a b e : Expr} {fa fb : ME} {ga : MA} {pos p : Pos} {k : Nat} {tbl : Tbl}
/-- x[i] -/
def ixI (tbl : Tbl) (g0 : D → D → Cs → R D) (x y : D) (c : Cs) : R D := match insOf x c with
  | some _ => viaT tbl x c fun g _ => g [x, y] c
  | none => g0 x y c
theorem me_ixI {r : R2} {g0 : D → D → Cs → R D} (hT : ∀ q ∈ tbl, SpcK X.prog X.w X.K X.mg X.base q.1 "__getitem__" q.2 k) (hr : Room (k + 1) X.A) (hgd : X.A.guards = some []) (tk : Takes X W) (ho : IxR X r) (hs : OpS X.K r g0) (ha : PE X a (rdE X.K W fa)) (hb : PE X b (rdE X.K W fb)) (hp : PlainIx b)
    (hsl : ∀ o i, subscripted b true o i = runValue (.builtin "lifetime.subscript" ⟨[o, i], []⟩) := by intro _ _; with_unfolding_all rfl) : PE X (.Subscript a b pos) (rdE X.K W (mOp (ixI tbl g0) fa fb)) := by
  refine ⟨fun pins s σ H Q J h => ?_⟩
  refine Subscript_ (binT ha hb J (opX_read h) fun v u s2 x y H2 J2 rx ry ⟨I, m, c, d, e, R, p, q, A⟩ => ?_)
  unfold ixI at A
  cases z : insOf d c with
  | none => rw [z] at A; exact ho a b pins s2 σ H2 x y v u Q J2 rx ry (hs _ _ _ _ _ _ _ _ _ _ R p q A) (hp _ _)
  | some nf =>
    rw [z] at A
    obtain ⟨ad, C, f, ox, od, g, n, rfl, rfl, _, _, JJ, _, kk, A2, run⟩ := spc_run hT J2 R p rx A
    obtain ⟨m0, F⟩ := J2.fr
    exact PySem.W.sub_K F J2.ok.mod.kin JJ kk.1 kk.2.2.1 kk.2.1 (run X.A.in1 [.ref ad, u] [.ref ad, y] [d, e] Q hr.in1 hgd J2.env0.in1 tk (.cons rfl (.cons ry .nil)) (.cons p (.cons q .nil)) A2) (hsl _ _)
end
end L2.Mi
namespace L2.Mi
open PySem PySem.Spec PyProof.Rows L2
/-! ### x == [], x != [] -/
def rE0 (neg : Bool) (K : PySem.W.Frag) : R2 := fun x y H Q => ∃ a b xs, x = .ref a ∧ y = .ref b ∧ SqL K H a xs ∧ SqL K H b [] ∧ Q (.bl (sgn neg xs.isEmpty)) H
theorem op_e0 {X : Cx} (hu : X.A.units + 64 < cLine) : OpR X (compareOp .Eq) (rE0 false X.K) := by
  intro pins s σ H x y v u Q J rx ry h
  obtain ⟨a, b, xs, rfl, rfl, h1, h2, q⟩ := h
  cases rx; cases ry
  obtain ⟨its, rv, p, hz⟩ := J.list h1
  obtain ⟨its2, rv2, p2, hz2⟩ := J.list h2
  have e2 : its2 = [] := List.length_eq_zero_iff.mp (by rw [← rv2.length]; rfl)
  subst e2
  cases xs with
  | nil =>
    have e1 : its = [] := List.length_eq_zero_iff.mp (by rw [← rv.length]; rfl)
    subst e1
    refine SeqAt.eq_listAt (e := fun _ => true) p.isList p2.isList rfl (by omega) (fun j h1 _ => absurd h1 (Nat.not_lt_zero _)) ⟨.bl true, H, J, rfl, q⟩
  | cons x r =>
    have : its.length ≠ 0 := by rw [← rv.length]; simp
    exact SeqAt.eq_list_lengthsAt p.isList p2.isList (by simp; intro e; exact this (by rw [e]; rfl)) (by omega) ⟨.bl false, H, J, rfl, q⟩
theorem op_ne0 {X : Cx} (hu : X.A.units + 64 < cLine) : OpR X (compareOp .NotEq) (rE0 true X.K) := by
  intro pins s σ H x y v u Q J rx ry h
  obtain ⟨a, b, xs, rfl, rfl, h1, h2, q⟩ := h
  cases rx; cases ry
  obtain ⟨its, rv, p, hz⟩ := J.list h1
  obtain ⟨its2, rv2, p2, hz2⟩ := J.list h2
  have e2 : its2 = [] := List.length_eq_zero_iff.mp (by rw [← rv2.length]; rfl)
  subst e2
  cases xs with
  | nil =>
    have e1 : its = [] := List.length_eq_zero_iff.mp (by rw [← rv.length]; rfl)
    subst e1
    exact SeqAt.RcNeAt.lists (e := fun _ => true) p.isList p2.isList rfl (by omega) (fun j h1 _ => absurd h1 (Nat.not_lt_zero _)) _ _ _ _ ⟨.bl false, H, J, rfl, q⟩
  | cons x r =>
    have : its.length ≠ 0 := by rw [← rv.length]; simp
    exact SeqAt.RcNeAt.lists_lengths p.isList p2.isList (by simp; intro e; exact this (by rw [e]; rfl)) (by omega) _ _ _ _ ⟨.bl true, H, J, rfl, q⟩
def e0 (neg : Bool) (x y : D) (c : Cs) : R D := match y with
  | .lst [] => match lstC x c with
    | some xs => .ok (.bl (sgn neg xs.isEmpty)) c
    | none => .stuck
  | _ => .stuck
theorem os_e0 {K : PySem.W.Frag} {neg : Bool} : OpS K (rE0 neg K) (e0 neg) := fun I H m c v1 v2 d1 d2 W Q R p1 p2 A => by
  cases p2 with
  | @lst b vs ds h r =>
    cases r with
    | cons _ _ => exact A.elim
    | nil =>
      have A : After (rD K) K I m H W Q (match lstC d1 c with
        | some xs => .ok (.bl (sgn neg xs.isEmpty)) c
        | none => .stuck) := A
      cases q : lstC d1 c with
      | none => rw [q] at A; exact A.elim
      | some xs =>
        rw [q] at A
        obtain ⟨a, vs, rfl, h1, r1⟩ := lstC_at R p1 q
        refine ⟨a, b, vs, rfl, rfl, SqL.of h1, SqL.of (R.same _ _ h), ?_⟩
        have e : vs.isEmpty = xs.isEmpty := by cases r1 <;> rfl
        rw [e]
        exact A.here R (.bl _)
  | _ => exact A.elim
end L2.Mi

namespace L2.Mi
open PySem PySem.Spec PyProof.Rows L2

/-! ### what a computation comes to -/
def Ok {α : Type} (r : R α) (Q : α → Cs → Prop) : Prop := ∃ a c, r = .ok a c ∧ Q a c
theorem Ok.bind {α β : Type} {r : R α} {f : α → Cs → R β} {Q : β → Cs → Prop} (h : Ok r fun a c => Ok (f a c) Q) : Ok (r.bind f) Q := by
  obtain ⟨a, c, rfl, h⟩ := h
  exact h
theorem Ok.mono {α : Type} {r : R α} {Q Q' : α → Cs → Prop} (h : Ok r Q) (w : ∀ a c, Q a c → Q' a c) : Ok r Q' := by
  obtain ⟨a, c, e, h⟩ := h
  exact ⟨a, c, e, w a c h⟩
theorem Ok.of {α : Type} {r : R α} {Q : α → Cs → Prop} {a : α} {c : Cs} (e : r = .ok a c) (h : Q a c) : Ok r Q := ⟨a, c, e, h⟩
def OkS (r : RS) (Q : Fl → Cs → Prop) : Prop := ∃ f c, r = .go f c ∧ Q f c
theorem OkS.seq {α : Type} {r : R α} {l : Ls} {f : α → Cs → RS} {Q : Fl → Cs → Prop} (h : Ok r fun a c => OkS (f a c) Q) : OkS (r.seq l f) Q := by
  obtain ⟨a, c, rfl, h⟩ := h
  exact h
theorem OkS.mono {r : RS} {Q Q' : Fl → Cs → Prop} (h : OkS r Q) (w : ∀ a c, Q a c → Q' a c) : OkS r Q' := by
  obtain ⟨a, c, e, h⟩ := h
  exact ⟨a, c, e, w a c h⟩
theorem OkS.next {r : RS} {g : Ls → Cs → RS} {Q : Fl → Cs → Prop} (h : OkS r fun f c => match f with
  | .nx l => OkS (g l c) Q
  | f => Q f c) : OkS (r.next g) Q := by
  obtain ⟨f, c, rfl, h⟩ := h
  cases f with
  | nx l => exact h
  | rt d => exact ⟨_, _, rfl, h⟩
  | bk l => exact ⟨_, _, rfl, h⟩
  | ct l => exact ⟨_, _, rfl, h⟩
/-- a loop, by what holds between its turns -/
theorem OkS.for {g : MG} {f : MS} {Q : Fl → Cs → Prop} (P : List D → Ls → Cs → Prop) (hd : ∀ l c, P [] l c → Q (.nx l) c)
    (ht : ∀ d ds l c, P (d :: ds) l c → Ok (g d l c) fun l1 c1 => OkS (f l1 c1) fun fl c2 => match fl with
      | .nx l2 => P ds l2 c2
      | .ct l2 => P ds l2 c2
      | .bk l2 => Q (.nx l2) c2
      | .rt d => Q (.rt d) c2) : ∀ ds l c, P ds l c → OkS (forD g f ds l c) Q
  | [], l, c, h => ⟨_, _, rfl, hd l c h⟩
  | d :: ds, l, c, h => by
    obtain ⟨l1, c1, e1, fl, c2, e2, q⟩ := ht d ds l c h
    unfold forD
    rw [e1]
    simp only [R.seq_ok]
    rw [e2]
    cases fl with
    | nx l2 => exact OkS.for P hd ht ds l2 c2 q
    | ct l2 => exact OkS.for P hd ht ds l2 c2 q
    | bk l2 => exact ⟨_, _, rfl, q⟩
    | rt d => exact ⟨_, _, rfl, q⟩
theorem Ok.fun {n a : Nat} {b : MS} {ds : List D} {c : Cs} {Q : D → Cs → Prop} (hl : ds.length = a) (h : OkS (b (ds.map some ++ List.replicate (n - a) none) c) fun f c => match f with
  | .rt d => Q d c
  | .nx _ => Q .non c
  | _ => False) : Ok (mFun n a b ds c) Q := by
  obtain ⟨f, c', e, h⟩ := h
  unfold mFun
  rw [if_pos hl, e]
  cases f with
  | nx l => exact ⟨_, _, rfl, h⟩
  | rt d => exact ⟨_, _, rfl, h⟩
  | bk l => exact h.elim
  | ct l => exact h.elim

/-! ### rules, by combinator -/
section
variable {l : Ls} {c : Cs} {Q : D → Cs → Prop} {a b e : ME} {t : MA} {QS : Fl → Cs → Prop}
theorem ok_ret {α : Type} {d : α} {Q : α → Cs → Prop} (h : Q d c) : Ok (.ok d c) Q := ⟨_, _, rfl, h⟩
theorem ok_var {i : Nat} {d : D} (e : l[i]? = some (some d)) (h : Q d c) : Ok (mVar i l c) Q := ⟨d, c, by unfold mVar; rw [e], h⟩
theorem ok_c {d : D} (h : Q d c) : Ok (mC d l c) Q := ⟨d, c, rfl, h⟩
theorem ok_op {g : D → D → Cs → R D} (h : Ok (a l c) fun x c1 => Ok (b l c1) fun y c2 => Ok (g x y c2) Q) : Ok (mOp g a b l c) Q := Ok.bind (h.mono fun _ _ h => Ok.bind h)
theorem ok_un {g : D → Cs → R D} (h : Ok (a l c) fun x c1 => Ok (g x c1) Q) : Ok (mUn g a l c) Q := Ok.bind h
theorem ok_cb {g : List D → Cs → R D} (h : Ok (t l c) fun xs c1 => Ok (g xs c1) Q) : Ok (mCB g t l c) Q := Ok.bind h
theorem ok_anil {Q : List D → Cs → Prop} (h : Q [] c) : Ok (aNil l c) Q := ⟨_, _, rfl, h⟩
theorem ok_acons {Q : List D → Cs → Prop} (h : Ok (a l c) fun x c1 => Ok (t l c1) fun xs c2 => Q (x :: xs) c2) : Ok (aCons a t l c) Q := Ok.bind (h.mono fun _ _ h => Ok.bind (h.mono fun _ _ h => ⟨_, _, rfl, h⟩))
theorem ok_fits {α : Type} {n : Nat} {r : R α} {Q : α → Cs → Prop} (hn : n ≤ sizeLine) (h : Ok r Q) : Ok (fits n r) Q := by
  unfold fits
  rw [if_pos hn]
  exact h
theorem ok_lst (h : Ok (t l c) fun xs c1 => xs.length ≤ sizeLine ∧ Q (.lst xs) c1) : Ok (mLst t l c) Q := Ok.bind (h.mono fun _ _ h => ok_fits h.1 ⟨_, _, rfl, h.2⟩)
theorem ok_tup (h : Ok (t l c) fun xs c1 => xs.length ≤ sizeLine ∧ Q (.tup xs) c1) : Ok (mTup t l c) Q := Ok.bind (h.mono fun _ _ h => ok_fits h.1 ⟨_, _, rfl, h.2⟩)
theorem ok_lstM (h : Ok (t l c) fun xs c1 => xs.length ≤ sizeLine ∧ Q (.ref c1.length) (c1 ++ [.lst xs])) : Ok (mLstM t l c) Q := Ok.bind (h.mono fun _ _ h => ok_fits h.1 ⟨_, _, rfl, h.2⟩)
theorem ok_dict1 {k : Key} (h : Ok (a l c) fun d c1 => Q (.dct [(k, d)]) c1) : Ok (mDict1 k a l c) Q := Ok.bind (h.mono fun _ _ h => ⟨_, _, rfl, h⟩)
theorem ok_and (h : Ok (a l c) fun x c1 => ∃ k, x = .bl k ∧ (k = true → Ok (b l c1) Q) ∧ (k = false → Q (.bl false) c1)) : Ok (mAnd a b l c) Q := Ok.bind (h.mono fun x c1 ⟨k, e, h1, h2⟩ => by
  subst e
  cases k with
  | true => exact h1 rfl
  | false => exact ⟨_, _, rfl, h2 rfl⟩)
theorem ok_or (h : Ok (a l c) fun x c1 => ∃ k, x = .bl k ∧ (k = true → Q (.bl true) c1) ∧ (k = false → Ok (b l c1) Q)) : Ok (mOr a b l c) Q := Ok.bind (h.mono fun x c1 ⟨k, e, h1, h2⟩ => by
  subst e
  cases k with
  | true => exact ⟨_, _, rfl, h1 rfl⟩
  | false => exact h2 rfl)
theorem ok_not (h : Ok (a l c) fun x c1 => ∃ k, x = .bl k ∧ Q (.bl (!k)) c1) : Ok (mNot a l c) Q := Ok.bind (h.mono fun x c1 ⟨k, e, h⟩ => by subst e; exact ⟨_, _, rfl, h⟩)
theorem ok_chain {f g : D → D → Cs → R D} {d : ME} (h : Ok (a l c) fun x c1 => Ok (b l c1) fun y c2 => Ok (f x y c2) fun z c3 => ∃ k, z = .bl k ∧ (k = true → Ok (d l c3) fun w c4 => Ok (g y w c4) Q) ∧ (k = false → Q (.bl false) c3)) : Ok (mChain f g a b d l c) Q :=
  Ok.bind (h.mono fun x c1 h => Ok.bind (h.mono fun y c2 h => Ok.bind (h.mono fun z c3 ⟨k, e, h1, h2⟩ => by
    subst e
    cases k with
    | true => exact Ok.bind (h1 rfl)
    | false => exact ⟨_, _, rfl, h2 rfl⟩)))
theorem ok_t {Q : Bool → Cs → Prop} (h : Ok (a l c) fun x c1 => ∃ k, x = .bl k ∧ Q k c1) : Ok (mT a l c) Q := Ok.bind (h.mono fun x c1 ⟨k, e, h⟩ => by subst e; exact ⟨_, _, rfl, h⟩)
theorem ok_tnot {p : MT} {Q : Bool → Cs → Prop} (h : Ok (p l c) fun k c1 => Q (!k) c1) : Ok (tNotM p l c) Q := Ok.bind (h.mono fun _ _ h => ⟨_, _, rfl, h⟩)
theorem ok_tand {p q : MT} {Q : Bool → Cs → Prop} (h : Ok (p l c) fun k c1 => (k = true → Ok (q l c1) Q) ∧ (k = false → Q false c1)) : Ok (tAndM p q l c) Q := Ok.bind (h.mono fun k c1 ⟨h1, h2⟩ => by
  cases k with
  | true => exact h1 rfl
  | false => exact ⟨_, _, rfl, h2 rfl⟩)
theorem ok_tor {p q : MT} {Q : Bool → Cs → Prop} (h : Ok (p l c) fun k c1 => (k = true → Q true c1) ∧ (k = false → Ok (q l c1) Q)) : Ok (tOrM p q l c) Q := Ok.bind (h.mono fun k c1 ⟨h1, h2⟩ => by
  cases k with
  | true => exact ⟨_, _, rfl, h1 rfl⟩
  | false => exact h2 rfl)
theorem ok_if {p : MT} (h : Ok (p l c) fun k c1 => (k = true → Ok (a l c1) Q) ∧ (k = false → Ok (b l c1) Q)) : Ok (mIf p a b l c) Q := Ok.bind (h.mono fun k c1 ⟨h1, h2⟩ => by
  cases k with
  | true => exact h1 rfl
  | false => exact h2 rfl)
theorem ok_onone {Q : Option Int → Cs → Prop} (h : Q none c) : Ok (oNone l c) Q := ⟨_, _, rfl, h⟩
theorem ok_osome {Q : Option Int → Cs → Prop} (h : Ok (a l c) fun x c1 => ∃ i, x = .int i ∧ Q (some i) c1) : Ok (oSome a l c) Q := Ok.bind (h.mono fun x c1 ⟨k, e, h⟩ => by subst e; exact ⟨_, _, rfl, h⟩)
theorem ok_slice {p q : MO} (h : Ok (a l c) fun x c1 => Ok (p l c1) fun i c2 => Ok (q l c2) fun j c3 => Ok (sliceD x i j c3) Q) : Ok (mSlice a p q l c) Q := Ok.bind (h.mono fun _ _ h => Ok.bind (h.mono fun _ _ h => Ok.bind h))
theorem ok_m1 {g : D → D → Cs → R D} (h : Ok (a l c) fun x c1 => ∃ s, x = .str s ∧ Ok (b l c1) fun y c2 => Ok (g (.str s) y c2) Q) : Ok (mM1 g a b l c) Q := Ok.bind (h.mono fun x c1 ⟨s, e, h⟩ => by subst e; exact Ok.bind h)
theorem ok_frz (h : Ok (a l c) fun x c1 => ∃ k ds, x = .ref k ∧ c1[k]? = some (.lst ds) ∧ Q (.lst ds) (c1.set k (.frz (.lst ds)))) : Ok (mFrz a l c) Q := Ok.bind (h.mono fun x c1 ⟨k, ds, e, e2, h⟩ => by
  subst e
  refine ⟨_, _, ?_, h⟩
  simp only [frzD, e2])
theorem ok_ilst {Q : List D → Cs → Prop} (h : Ok (a l c) fun x c1 => (∃ ds, x = .lst ds ∧ Q ds c1) ∨ ∃ ds, x = .ro ds ∧ Q ds c1) : Ok (iLst a l c) Q := Ok.bind (h.mono fun x c1 h => by
  rcases h with ⟨ds, e, h⟩ | ⟨ds, e, h⟩ <;> (subst e; exact ⟨_, _, rfl, h⟩))
theorem ok_itup {Q : List D → Cs → Prop} (h : Ok (a l c) fun x c1 => ∃ ds, x = .tup ds ∧ Q ds c1) : Ok (iTup' a l c) Q := Ok.bind (h.mono fun x c1 ⟨s, e, h⟩ => by subst e; exact ⟨_, _, rfl, h⟩)
theorem ok_istr {Q : List D → Cs → Prop} (h : Ok (a l c) fun x c1 => ∃ s, x = .str s ∧ Q (chrs s) c1) : Ok (iStr' a l c) Q := Ok.bind (h.mono fun x c1 ⟨s, e, h⟩ => by subst e; exact ⟨_, _, rfl, h⟩)
theorem ok_r1 {Q : List D → Cs → Prop} (h : Ok (t l c) fun xs c1 => ∃ j, xs = [.int j] ∧ small62 j ∧ Q (rangeL 0 j.toNat) c1) : Ok (iR1 t l c) Q := Ok.bind (h.mono fun x c1 ⟨j, e, hj, h⟩ => by subst e; exact ⟨_, _, if_pos hj, h⟩)
theorem ok_r2 {Q : List D → Cs → Prop} (h : Ok (t l c) fun xs c1 => ∃ i j, xs = [.int i, .int j] ∧ small62 i ∧ small62 j ∧ Q (rangeL i (j - i).toNat) c1) : Ok (iR2 t l c) Q := Ok.bind (h.mono fun x c1 ⟨i, j, e, hi, hj, h⟩ => by subst e; exact ⟨_, _, if_pos ⟨hi, hj⟩, h⟩)
theorem ok_intC {C : Int → Int → Prop} [∀ i j, Decidable (C i j)] {g : Int → Int → Int} {i j : Int} (hc : C i j) (h : Q (.int (g i j)) c) : Ok (intC C g (.int i) (.int j) c) Q := ⟨_, _, if_pos hc, h⟩
/-- statements -/
theorem os_nil (h : QS (.nx l) c) : OkS (sNil l c) QS := ⟨_, _, rfl, h⟩
theorem os_brk (h : QS (.bk l) c) : OkS (sBreak l c) QS := ⟨_, _, rfl, h⟩
theorem os_cnt (h : QS (.ct l) c) : OkS (sCont l c) QS := ⟨_, _, rfl, h⟩
theorem os_seq {f g : MS} (h : OkS (f l c) fun fl c1 => match fl with
  | .nx l1 => OkS (g l1 c1) QS
  | fl => QS fl c1) : OkS (sSeq f g l c) QS := OkS.next h
theorem os_expr (h : Ok (a l c) fun _ c1 => QS (.nx l) c1) : OkS (sExpr a l c) QS := OkS.seq (h.mono fun _ _ h => ⟨_, _, rfl, h⟩)
theorem os_ret (h : Ok (a l c) fun d c1 => QS (.rt d) c1) : OkS (sRet a l c) QS := OkS.seq (h.mono fun _ _ h => ⟨_, _, rfl, h⟩)
theorem os_retn (h : QS (.rt .non) c) : OkS (sRetN l c) QS := ⟨_, _, rfl, h⟩
theorem os_if {p : MT} {f g : MS} (h : Ok (p l c) fun k c1 => (k = true → OkS (f l c1) QS) ∧ (k = false → OkS (g l c1) QS)) : OkS (sIf p f g l c) QS := OkS.seq (h.mono fun k c1 ⟨h1, h2⟩ => by
  cases k with
  | true => exact h1 rfl
  | false => exact h2 rfl)
theorem os_set {i : Nat} (h : Ok (a l c) fun d c1 => QS (.nx (l.set i (some d))) c1) : OkS (sSet i a l c) QS := OkS.seq (h.mono fun _ _ h => ⟨_, _, rfl, h⟩)
theorem os_asg {g : MG} (h : Ok (a l c) fun d c1 => Ok (g d l c1) fun l2 c2 => QS (.nx l2) c2) : OkS (sAsg a g l c) QS := OkS.seq (h.mono fun _ _ h => OkS.seq (h.mono fun _ _ h => ⟨_, _, rfl, h⟩))
theorem os_par {js : List Nat} (h : Ok (t l c) fun ds c1 => Ok (gNs js ds l c1) fun l2 c2 => QS (.nx l2) c2) : OkS (sPar js t l c) QS := OkS.seq (h.mono fun _ _ h => OkS.seq (h.mono fun _ _ h => ⟨_, _, rfl, h⟩))
theorem os_for {it : MI} {g : MG} {f : MS} (h : Ok (it l c) fun ds c1 => OkS (forD g f ds l c1) QS) : OkS (sFor it g f l c) QS := OkS.seq h
theorem ok_gn {i : Nat} {d : D} {Q : Ls → Cs → Prop} (h : Q (l.set i (some d)) c) : Ok (gN i d l c) Q := ⟨_, _, rfl, h⟩
/-- a comprehension, by its loop -/
theorem ok_lc {it : MI} {js : List Nat} {g : MG} {p : MT} (h : Ok (it l c) fun ds c1 => Ok (compD g p e (wipeL l js) ds [] c1) fun xs c2 => Q (.lst xs) c2) : Ok (mLc it js g p e l c) Q := Ok.bind (h.mono fun _ _ h => Ok.bind (h.mono fun _ _ h => ⟨_, _, rfl, h⟩))
/-- .. by what holds between its turns -/
theorem comp_ok {g : MG} {p : MT} {lw : Ls} {Q : List D → Cs → Prop} (I : List D → List D → Cs → Prop) (hd : ∀ acc c, I [] acc c → Q acc c)
    (ht : ∀ d ds acc c, I (d :: ds) acc c → Ok (g d lw c) fun l1 c1 => Ok (p l1 c1) fun k c2 => match k with
      | true => Ok (e l1 c2) fun x c3 => acc.length < sizeLine ∧ I ds (acc ++ [x]) c3
      | false => I ds acc c2) : ∀ ds acc c, I ds acc c → Ok (compD g p e lw ds acc c) Q
  | [], acc, c, h => ⟨_, _, rfl, hd acc c h⟩
  | d :: ds, acc, c, h => by
    obtain ⟨l1, c1, e1, k, c2, e2, q⟩ := ht d ds acc c h
    unfold compD
    rw [e1]
    simp only [R.nox_ok, R.bind_ok]
    rw [e2]
    simp only [R.nox_ok, R.bind_ok]
    cases k with
    | true =>
      obtain ⟨x, c3, e3, hz, q⟩ := q
      simp only []
      rw [e3]
      simp only [R.nox_ok, R.bind_ok]
      rw [if_pos hz]
      exact comp_ok I hd ht ds _ _ q
    | false => exact comp_ok I hd ht ds _ _ q
end

/-! ### the box that a law draws from -/
def Bx (c : Cs) (k : Nat) (n : Int) : Prop := ∃ a b z : Int, c[k]? = some (.lst [.int a, .int b, .int z]) ∧ 0 ≤ a ∧ 0 ≤ b ∧ b < 2147483629 ∧ 0 ≤ z ∧ z ≤ n

theorem ok_il {l : Ls} {c : Cs} {a : ME} {Q : List D → Cs → Prop} (h : Ok (a l c) fun x c1 => ∃ ds, x = .lst ds ∧ Q ds c1) : Ok (iLst a l c) Q := ok_ilst (h.mono fun _ _ h => Or.inl h)
theorem os_fcons {g : MG} {f : MS} {d : D} {ds : List D} {l : Ls} {c : Cs} {Q : Fl → Cs → Prop} (h : Ok (g d l c) fun l1 c1 => OkS (f l1 c1) fun fl c2 => match fl with
    | .nx l2 => OkS (forD g f ds l2 c2) Q
    | .ct l2 => OkS (forD g f ds l2 c2) Q
    | .bk l2 => Q (.nx l2) c2
    | .rt d => Q (.rt d) c2) : OkS (forD g f (d :: ds) l c) Q := by
  obtain ⟨l1, c1, e1, fl, c2, e2, q⟩ := h
  unfold forD
  rw [e1]
  simp only [R.seq_ok]
  rw [e2]
  cases fl with
  | nx l2 => exact q
  | ct l2 => exact q
  | bk l2 => exact ⟨_, _, rfl, q⟩
  | rt d => exact ⟨_, _, rfl, q⟩
theorem os_fnil {g : MG} {f : MS} {l : Ls} {c : Cs} {Q : Fl → Cs → Prop} (h : Q (.nx l) c) : OkS (forD g f [] l c) Q := ⟨_, _, rfl, h⟩
theorem rangeL_mem {lo : Int} {n : Nat} {d : D} (h : d ∈ rangeL lo n) : ∃ i : Nat, i < n ∧ d = .int (lo + i) := by
  obtain ⟨i, h1, rfl⟩ := List.mem_map.mp h
  exact ⟨i, List.mem_range.mp h1, rfl⟩
theorem rangeL_len {lo : Int} {n : Nat} : (rangeL lo n).length = n := by simp [rangeL]
/-! ### texts: their lengths, their signs -/
def SB (n : Nat) (s : Str) : Prop := s.length ≤ n ∧ ∀ k ∈ s.cps.toList, k < 1114112
theorem SB.mono {n m : Nat} {s : Str} (h : SB n s) (hm : n ≤ m) : SB m s := ⟨Nat.le_trans h.1 hm, h.2⟩
theorem SB.app {n m : Nat} {s t : Str} (h : SB n s) (g : SB m t) : SB (n + m) (s ++ t) := by
  refine ⟨?_, fun k hk => ?_⟩
  · rw [Str.length_append]
    exact Nat.add_le_add h.1 g.1
  · have e : (s ++ t).cps.toList = s.cps.toList ++ t.cps.toList := Array.toList_append
    rw [e] at hk
    rcases List.mem_append.mp hk with q | q
    · exact h.2 k q
    · exact g.2 k q
theorem SB.one {k : Nat} (h : k < 1114112) : SB 1 ⟨#[k]⟩ := ⟨Nat.le_refl _, fun x hx => by simp at hx; omega⟩
theorem ok_add_str {s t : Str} {c : Cs} {Q : D → Cs → Prop} (h : s.length + t.length ≤ sizeLine) (q : Q (.str (s ++ t)) c) : Ok (addD (.str s) (.str t) c) Q := ⟨_, _, if_pos h, q⟩
theorem ok_add_lst {s t : List D} {c : Cs} {Q : D → Cs → Prop} (h : s.length + t.length ≤ sizeLine) (q : Q (.lst (s ++ t)) c) : Ok (addD (.lst s) (.lst t) c) Q := ⟨_, _, if_pos h, q⟩
theorem ok_item_lst {xs : List D} {i : Int} {c : Cs} {Q : D → Cs → Prop} (h0 : 0 ≤ i) (h : i < xs.length) (q : ∀ d, xs[i.toNat]? = some d → Q d c) : Ok (itemD (.lst xs) (.int i) c) Q := by
  have hl : i.toNat < xs.length := by omega
  refine ⟨xs[i.toNat], c, ?_, q _ (List.getElem?_eq_getElem hl)⟩
  simp [itemD, itL, atI, ixN, h0, h, List.getElem?_eq_getElem hl]
theorem ok_item_mem {xs : List D} {i : Int} {c : Cs} {Q : D → Cs → Prop} (h0 : 0 ≤ i) (h : i < xs.length) (q : ∀ d ∈ xs, Q d c) : Ok (itemD (.lst xs) (.int i) c) Q := ok_item_lst h0 h fun d hd => q d (List.mem_of_getElem? hd)
theorem ok_len_str {s : Str} {c : Cs} {Q : D → Cs → Prop} (h : s.length ≤ sizeLine) (q : Q (.int s.length) c) : Ok (lenD [.str s] c) Q := ⟨_, _, by simp [lenD, lenC, h], q⟩
theorem strs_ones : ∀ ks : List Nat, strsOf (ks.map fun k => .str ⟨#[k]⟩) = some (ks.map fun k => ⟨#[k]⟩)
  | [] => rfl
  | k :: ks => by simp [strsOf, strs_ones ks]
theorem join_ones' (ks : List Nat) : Txt.join ("" : Str) (ks.map fun k => (⟨#[k]⟩ : Str)) = ⟨ks.toArray⟩ := by
  show Builtin.Str.glued _ _ = _
  rw [StrLaws.glued_eq_join]
  exact join_ones ks
section
variable {l : Ls} {c : Cs} {Q : D → Cs → Prop} {a b e : ME} {t tk : MA} {QS : Fl → Cs → Prop}
theorem ok_bm {g : D → List D → Cs → R D} (h : Ok (a l c) fun x c1 => isL x c1 = true ∧ Ok (t l c1) fun xs c2 => Ok (g x xs c2) Q) : Ok (mBM g a t l c) Q := Ok.bind (h.mono fun x c1 ⟨h1, h2⟩ => by
  rw [if_pos h1]
  exact Ok.bind h2)
theorem ok_gs {o i : ME} {d : D} {Q : Ls → Cs → Prop} (h : Ok (o l c) fun x c1 => Ok (i l c1) fun y c2 => Ok (putD x y d c2) fun _ c3 => Q l c3) : Ok (gS o i d l c) Q := Ok.bind (h.mono fun _ _ h => Ok.bind (h.mono fun _ _ h => Ok.bind (h.mono fun _ _ h => ⟨_, _, rfl, h⟩)))
theorem ok_cbd {g : List D → Cs → R D} {n : Nat} {df : List D} (h : Ok (t l c) fun xs c1 => xs.length = n ∧ Ok (g (xs ++ df) c1) Q) : Ok (mCBd g n df t l c) Q := Ok.bind (h.mono fun x c1 ⟨h1, h2⟩ => by
  rw [if_pos h1]
  exact h2)
theorem ok_cbk {g : List D → Cs → R D} {gd : List D → List D → List D} {n j : Nat} (h : Ok (t l c) fun xs c1 => Ok (tk l c1) fun ys c2 => (xs.length = n ∧ ys.length = j) ∧ Ok (g (gd xs ys) c2) Q) : Ok (mCBk g gd n j t tk l c) Q :=
  Ok.bind (h.mono fun x c1 h => Ok.bind (h.mono fun y c2 ⟨h1, h2⟩ => by
    rw [if_pos h1]
    exact h2))
theorem os_ifNm {i : Nat} {h : D → D → Cs → R D} {f g : MS} (q : Ok (a l c) fun x c1 => Ok (b (l.set i (some x)) c1) fun y c2 => Ok (h x y c2) fun z c3 => ∃ k, z = .bl k ∧ (k = true → OkS (f (l.set i (some x)) c3) QS) ∧ (k = false → OkS (g (l.set i (some x)) c3) QS)) :
    OkS (sIfNm i h a b f g l c) QS := OkS.seq (q.mono fun x c1 q => OkS.seq (q.mono fun y c2 q => OkS.seq (q.mono fun z c3 ⟨k, e, h1, h2⟩ => by
  subst e
  cases k with
  | true => exact h1 rfl
  | false => exact h2 rfl)))
theorem isL_ref {k : Nat} {xs : List D} (h : c[k]? = some (.lst xs)) : isL (.ref k) c = true := by
  have e : lstOf (.ref k) c = (match c[k]? with
    | some (.lst xs) => some xs
    | _ => none) := rfl
  unfold isL
  rw [e, h]
  rfl
theorem ok_append {k : Nat} {xs : List D} {y : D} (h : c[k]? = some (.lst xs)) (hz : xs.length < sizeLine) (q : Q .non (c.set k (.lst (xs ++ [y])))) : Ok (appendD (.ref k) [y] c) Q := by
  have e : appendD (.ref k) [y] c = (match c[k]? with
    | some (.lst xs) => if xs.length < sizeLine then .ok .non (c.set k (.lst (xs ++ [y]))) else .stuck
    | _ => .stuck) := rfl
  refine ⟨_, _, ?_, q⟩
  rw [e, h]
  exact if_pos hz
end
end L2.Mi

namespace L2.Mi
open PySem PySem.Spec PyProof.Rows L2
/-! ### how long a shown value is -/
mutual
def wP : PyData → Nat
  | .none => 4
  | .bool _ => 5
  | .int _ => 45
  | .str s => 10 * s.length + 2
  | .list xs => wPs xs + 2
  | .tuple xs => wPs xs + 3
  | .dict kvs => wPk kvs + 2
def wPs : List PyData → Nat
  | [] => 0
  | x :: xs => wP x + 2 + wPs xs
def wPk : List (PyData × PyData) → Nat
  | [] => 0
  | (k, v) :: r => wP k + wP v + 4 + wPk r
end
mutual
def bP : PyData → Bool
  | .none => true
  | .bool _ => true
  | .int i => decide (i.natAbs < 10 ^ 40)
  | .str s => s.cps.toList.all fun k => decide (k < 1114112)
  | .list xs => bPs xs
  | .tuple xs => bPs xs
  | .dict kvs => bPk kvs
def bPs : List PyData → Bool
  | [] => true
  | x :: xs => bP x && bPs xs
def bPk : List (PyData × PyData) → Bool
  | [] => true
  | (k, v) :: r => bP k && bP v && bPk r
end
theorem join_le : ∀ ts : List Str, (Str.join ", " ts).length ≤ piled ts
  | [] => Nat.zero_le _
  | t :: ts => by have := join_length_add (t :: ts) (by simp); omega
theorem textFrom_pile : ∀ (ts : List Str) (k : Nat) (acc : Str), (textFrom k acc ts).length ≤ acc.length + piled ts
  | [], k, acc => by simp [textFrom]
  | t :: ts, k, acc => by
    have ih := textFrom_pile ts (k + 1) (acc ++ (if k > 0 then ", " else "" : String) ++ t)
    have e : (acc ++ (if k > 0 then ", " else "" : String) ++ t).length = acc.length + (if k > 0 then 2 else 0) + t.length := by
      rw [strLen_append, strLen_append]
      split <;> rfl
    rw [e] at ih
    have e3 : textFrom k acc (t :: ts) = textFrom (k + 1) (acc ++ (if k > 0 then ", " else "" : String) ++ t) ts := rfl
    rw [e3, piled_cons]
    have e4 : (if k > 0 then 2 else 0) ≤ 2 := by split <;> omega
    omega
mutual
theorem shown_w : ∀ p : PyData, bP p = true → p.showable = true ∧ p.shown.length ≤ wP p
  | .none, _ => ⟨rfl, by decide +kernel⟩
  | .bool b, _ => ⟨rfl, by cases b <;> decide +kernel⟩
  | .int i, h => by
    have h : i.natAbs < 10 ^ 40 := of_decide_eq_true h
    have h3 : (10 : Nat) ^ 40 < 2 ^ 1920 := by decide +kernel
    refine ⟨?_, ?_⟩
    · show decide (i.natAbs.log2 < 1920) = true
      by_cases h0 : i.natAbs = 0
      · rw [h0]; decide
      · exact decide_eq_true ((Nat.log2_lt h0).mpr (by omega))
    · have hl := int_text_length_le10 (k := 40) (by decide) h
      show (Str.ofString (toString i)).length ≤ 45
      have e : (Str.ofString (toString i)).cps.toList = (toString i).toList.map Char.toNat := by first | exact signs_ofString _ | exact PyProof.Rows.signs_ofString _ | exact PySem.signs_ofString _ | exact PySem.W.signs_ofString _
      have e2 : (Str.ofString (toString i)).length = (Str.ofString (toString i)).cps.toList.length := Array.length_toList.symm
      rw [e2, e, List.length_map, String.length_toList]
      omega
  | .str s, h => by
    refine ⟨rfl, ?_⟩
    have r := StrLaws.reprText_len s fun k hk => by
      have := of_decide_eq_true (List.all_eq_true.mp h k (by simpa using hk))
      omega
    show (reprText s).length ≤ 10 * s.length + 2
    omega
  | .list xs, h => by
    obtain ⟨h1, h2⟩ := shown_ws xs h
    refine ⟨h1, ?_⟩
    show (listText (PyData.shownAll xs)).length ≤ wPs xs + 2
    unfold listText
    rw [strLen_append]
    have q := textFrom_pile (PyData.shownAll xs) 0 "["
    have a : ("[" : Str).length = 1 := rfl
    have b : ("]" : Str).length = 1 := rfl
    omega
  | .tuple xs, h => by
    obtain ⟨h1, h2⟩ := shown_ws xs h
    refine ⟨h1, ?_⟩
    show (tupleText (PyData.shownAll xs)).length ≤ wPs xs + 3
    unfold tupleText
    rw [strLen_append, strLen_append]
    have q := join_le (PyData.shownAll xs)
    have a : ("(" : Str).length = 1 := rfl
    have b : (if (PyData.shownAll xs).length == 1 then ",)" else ")" : String).length ≤ 2 := by split <;> decide
    have b2 : (Str.ofString (if (PyData.shownAll xs).length == 1 then ",)" else ")" : String)).length ≤ 2 := by split <;> decide
    omega
  | .dict kvs, h => by
    obtain ⟨h1, h2⟩ := shown_wk kvs h
    refine ⟨h1, ?_⟩
    show (dictText (PyData.shownKv kvs)).length ≤ wPk kvs + 2
    unfold dictText
    rw [strLen_append, strLen_append]
    have q := join_le (PyData.shownKv kvs)
    have a : ("{" : Str).length = 1 := rfl
    have b : ("}" : Str).length = 1 := rfl
    omega
theorem shown_ws : ∀ ps : List PyData, bPs ps = true → PyData.showableAll ps = true ∧ piled (PyData.shownAll ps) ≤ wPs ps
  | [], _ => ⟨rfl, by decide⟩
  | p :: ps, h => by
    obtain ⟨a, b⟩ := Bool.and_eq_true_iff.mp h
    obtain ⟨h1, h2⟩ := shown_w p a
    obtain ⟨h3, h4⟩ := shown_ws ps b
    refine ⟨by show (PyData.showable p && PyData.showableAll ps) = true; rw [h1, h3]; rfl, ?_⟩
    show piled (p.shown :: PyData.shownAll ps) ≤ wP p + 2 + wPs ps
    rw [piled_cons]
    omega
theorem shown_wk : ∀ ps : List (PyData × PyData), bPk ps = true → PyData.showableKv ps = true ∧ piled (PyData.shownKv ps) ≤ wPk ps
  | [], _ => ⟨rfl, by decide⟩
  | (k, v) :: ps, h => by
    obtain ⟨ab, b⟩ := Bool.and_eq_true_iff.mp h
    obtain ⟨a, a2⟩ := Bool.and_eq_true_iff.mp ab
    obtain ⟨h1, h2⟩ := shown_w k a
    obtain ⟨g1, g2⟩ := shown_w v a2
    obtain ⟨h3, h4⟩ := shown_wk ps b
    refine ⟨by show (PyData.showable k && PyData.showable v && PyData.showableKv ps) = true; rw [h1, g1, h3]; rfl, ?_⟩
    show piled ((k.shown ++ ": " ++ v.shown) :: PyData.shownKv ps) ≤ wP k + wP v + 4 + wPk ps
    rw [piled_cons, strLen_append, strLen_append]
    have e : (Str.ofString ": ").length = 2 := rfl
    omega
end
theorem okR_w {p : PyData} (h1 : bP p = true) (h2 : wP p ≤ 16777216) (h3 : p.depth ≤ 60) : okR p = true := by
  obtain ⟨a, b⟩ := shown_w p h1
  have hz : sizeLine = 16777216 := sizeLine_eq
  simp only [okR, Bool.and_eq_true, decide_eq_true_eq]
  exact ⟨⟨h3, a⟩, by omega⟩
end L2.Mi

/-! plain reasoning about walks of whatever stands there -/
namespace L2.Mi
open PySem PySem.Spec PyProof.Rows L2
theorem wAny_seq {x : D} {c : Cs} {xs : List D} (h : seqOf x c = some xs) : ∃ w, wAny x c = .ok w c ∧ ∀ i, w i c = some xs[i]? := by
  cases x with
  | lst ys => cases h; exact ⟨_, rfl, fun _ => rfl⟩
  | tup ys => cases h; exact ⟨_, rfl, fun _ => rfl⟩
  | ro ys => cases h; exact ⟨_, rfl, fun _ => rfl⟩
  | ref k =>
    have h : (match c[k]? with
      | some (.lst xs) => some xs
      | _ => none) = some xs := h
    cases q : c[k]? with
    | none => rw [q] at h; cases h
    | some y =>
      rw [q] at h
      cases y with
      | lst ys =>
        cases h
        have e : cellL k c = some xs := by unfold cellL; rw [q]
        refine ⟨cellW k, ?_, fun i => ?_⟩
        · show (match cellL k c with
            | some _ => (.ok (cellW k) c : R Wk)
            | none => .stuck) = _
          rw [e]
        · unfold cellW
          rw [e]
      | _ => cases h
  | _ => cases h
theorem compW_pure {g : MG} {t : MT} {e : ME} {lw : Ls} {w : Wk} {c : Cs} {xs : List D} {P : D → Bool} {F : D → D} {lt : D → Ls} (hw : ∀ i, w i c = some xs[i]?) (h : ∀ d ∈ xs, g d lw c = .ok (lt d) c ∧ t (lt d) c = .ok (P d) c ∧ (P d = true → e (lt d) c = .ok (F d) c)) :
    ∀ (k n i : Nat) (acc : List D), xs.length - i = k → k < n → acc.length + k ≤ sizeLine → compW g t e lw w n i acc c = .ok (acc ++ ((xs.drop i).filter P).map F) c
  | 0, 0, i, acc, hk, hn, hl => absurd hn (Nat.lt_irrefl _)
  | 0, n + 1, i, acc, hk, hn, hl => by
    have hi : xs.length ≤ i := by omega
    unfold compW
    rw [hw, List.getElem?_eq_none hi, List.drop_eq_nil_of_le hi]
    simp
  | k + 1, 0, i, acc, hk, hn, hl => absurd hn (by omega)
  | k + 1, n + 1, i, acc, hk, hn, hl => by
    have hi : i < xs.length := by omega
    obtain ⟨h1, h2, h3⟩ := h xs[i] (List.getElem_mem hi)
    unfold compW
    rw [hw, List.getElem?_eq_getElem hi, List.drop_eq_getElem_cons hi]
    simp only []
    rw [h1]
    simp only [R.nox_ok, R.bind_ok]
    rw [h2]
    simp only [R.nox_ok, R.bind_ok]
    have ih := fun acc hl => compW_pure hw h k n (i + 1) acc (by omega) (by omega) hl
    cases q : P xs[i] with
    | true =>
      simp only []
      rw [h3 q]
      simp only [R.nox_ok, R.bind_ok]
      rw [if_pos (by omega), ih _ (by simp; omega), List.filter_cons_of_pos q, List.map_cons, List.append_assoc]
      rfl
    | false =>
      simp only []
      rw [ih _ (by omega), List.filter_cons_of_neg (by rw [q]; exact Bool.false_ne_true)]
theorem lcW_pure {it : MK} {js : List Nat} {g : MG} {t : MT} {e : ME} {l : Ls} {c : Cs} {w : Wk} {xs : List D} {P : D → Bool} {F : D → D} {lt : D → Ls} (hit : it l c = .ok w c) (hw : ∀ i, w i c = some xs[i]?) (hl : xs.length ≤ 1000000)
    (h : ∀ d ∈ xs, g d (wipeL l js) c = .ok (lt d) c ∧ t (lt d) c = .ok (P d) c ∧ (P d = true → e (lt d) c = .ok (F d) c)) : mLcW it js g t e l c = .ok (.lst ((xs.filter P).map F)) c := by
  have hz : sizeLine = 16777216 := sizeLine_eq
  unfold mLcW
  rw [hit]
  simp only [R.bind_ok]
  rw [compW_pure hw h xs.length fuelW 0 [] (by omega) (by unfold fuelW; omega) (by simp; omega)]
  simp
/-- a loop over what stands there and stays so -/
theorem OkS.forW {g : MG} {f : MS} {w : Wk} {xs : List D} {Q : Fl → Cs → Prop} (P : List D → Ls → Cs → Prop) (hw : ∀ ds l c, P ds l c → ∀ i, w i c = some xs[i]?) (hd : ∀ l c, P [] l c → Q (.nx l) c)
    (ht : ∀ d ds l c, P (d :: ds) l c → Ok (g d l c) fun l1 c1 => OkS (f l1 c1) fun fl c2 => match fl with
      | .nx l2 => P ds l2 c2
      | .ct l2 => P ds l2 c2
      | .bk l2 => Q (.nx l2) c2
      | .rt d => Q (.rt d) c2) : ∀ (k n i : Nat) (l : Ls) (c : Cs), xs.length - i = k → k < n → P (xs.drop i) l c → OkS (forW g f w n i l c) Q
  | _, 0, i, l, c, hk, hn, h => absurd hn (by omega)
  | 0, n + 1, i, l, c, hk, hn, h => by
    have hi : xs.length ≤ i := by omega
    have e := hw _ _ _ h i
    rw [List.drop_eq_nil_of_le hi] at h
    unfold Mi.forW
    rw [e, List.getElem?_eq_none hi]
    exact ⟨_, _, rfl, hd _ _ h⟩
  | k + 1, n + 1, i, l, c, hk, hn, h => by
    have hi : i < xs.length := by omega
    have e := hw _ _ _ h i
    rw [List.drop_eq_getElem_cons hi] at h
    unfold Mi.forW
    rw [e, List.getElem?_eq_getElem hi]
    obtain ⟨l1, c1, e1, fl, c2, e2, q⟩ := ht _ _ _ _ h
    simp only []
    rw [e1]
    simp only [R.seq_ok]
    rw [e2]
    cases fl with
    | nx l2 => exact OkS.forW P hw hd ht k n (i + 1) l2 c2 (by omega) (by omega) q
    | ct l2 => exact OkS.forW P hw hd ht k n (i + 1) l2 c2 (by omega) (by omega) q
    | bk l2 => exact ⟨_, _, rfl, q⟩
    | rt d => exact ⟨_, _, rfl, q⟩
theorem ok_kany {a : ME} {l : Ls} {c : Cs} {Q : Wk → Cs → Prop} (h : Ok (a l c) fun x c1 => Ok (wAny x c1) Q) : Ok (kAny a l c) Q := Ok.bind h
theorem os_forW {it : MK} {g : MG} {f : MS} {l : Ls} {c : Cs} {QS : Fl → Cs → Prop} (h : Ok (it l c) fun w c1 => OkS (forW g f w fuelW 0 l c1) QS) : OkS (sForW it g f l c) QS := OkS.seq h
theorem toPyC_lst {n k : Nat} {c : Cs} {xs : List D} (hk : c[k]? = some (.lst xs)) : toPyC (n + 1) c (.ref k) = (mapO (toPyC n c) xs).map .list := by
  conv => lhs; unfold toPyC
  simp only [hk]
theorem wPs_app : ∀ (ps : List PyData) (p : PyData), wPs (ps ++ [p]) = wPs ps + wP p + 2
  | [], p => by simp [wPs]
  | q :: ps, p => by
    have := wPs_app ps p
    simp only [List.cons_append, wPs]
    omega
theorem bPs_app : ∀ (ps : List PyData) (p : PyData), bPs ps = true → bP p = true → bPs (ps ++ [p]) = true
  | [], p, _, h => by simp [bPs, h]
  | q :: ps, p, h, h2 => by
    obtain ⟨a, b⟩ := Bool.and_eq_true_iff.mp h
    have := bPs_app ps p b h2
    simp [bPs, a, this]
theorem bx_app {c : Cs} {k : Nat} {n : Int} (h : Bx c k n) (x : Cs) : Bx (c ++ x) k n := by
  obtain ⟨a, b, z, h, r⟩ := h
  exact ⟨a, b, z, by rw [List.getElem?_append_left (List.getElem?_eq_some_iff.mp h).1]; exact h, r⟩
theorem bx_lt {c : Cs} {k : Nat} {n : Int} (h : Bx c k n) : k < c.length := by
  obtain ⟨a, b, z, h, r⟩ := h
  exact (List.getElem?_eq_some_iff.mp h).1
theorem bx_set {c : Cs} {k j : Nat} {n : Int} (h : Bx c k n) (hj : j ≠ k) (x : Cell) : Bx (c.set j x) k n := by
  obtain ⟨a, b, z, h, r⟩ := h
  exact ⟨a, b, z, by rw [List.getElem?_set_ne hj]; exact h, r⟩
theorem compW_fix {g : MG} {t : MT} {e : ME} {lw : Ls} {ds : List D} : ∀ (k n i : Nat) (acc : List D) (c : Cs), ds.length - i = k → k < n → compW g t e lw (fixW ds) n i acc c = compD g t e lw (ds.drop i) acc c
  | _, 0, i, acc, c, hk, hn => absurd hn (by omega)
  | 0, n + 1, i, acc, c, hk, hn => by
    have hi : ds.length ≤ i := by omega
    unfold compW fixW
    rw [List.getElem?_eq_none hi, List.drop_eq_nil_of_le hi]
    rfl
  | k + 1, n + 1, i, acc, c, hk, hn => by
    have hi : i < ds.length := by omega
    have ih := fun acc c => compW_fix (g := g) (t := t) (e := e) (lw := lw) (ds := ds) k n (i + 1) acc c (by omega) (by omega)
    rw [List.drop_eq_getElem_cons hi]
    unfold compW compD
    rw [show fixW ds i c = some (some ds[i]) by unfold fixW; rw [List.getElem?_eq_getElem hi]]
    simp only [ih] <;> rfl
theorem forW_fix {g : MG} {f : MS} {ds : List D} : ∀ (k n i : Nat) (l : Ls) (c : Cs), ds.length - i = k → k < n → forW g f (fixW ds) n i l c = forD g f (ds.drop i) l c
  | _, 0, i, l, c, hk, hn => absurd hn (by omega)
  | 0, n + 1, i, l, c, hk, hn => by
    have hi : ds.length ≤ i := by omega
    unfold Mi.forW fixW
    rw [List.getElem?_eq_none hi, List.drop_eq_nil_of_le hi]
    rfl
  | k + 1, n + 1, i, l, c, hk, hn => by
    have hi : i < ds.length := by omega
    have ih := fun l c => forW_fix (g := g) (f := f) (ds := ds) k n (i + 1) l c (by omega) (by omega)
    rw [List.drop_eq_getElem_cons hi]
    unfold Mi.forW forD
    rw [show fixW ds i c = some (some ds[i]) by unfold fixW; rw [List.getElem?_eq_getElem hi]]
    simp only [ih] <;> rfl
end L2.Mi

/-! x.translate(table), the table a tracked dict of numbers -/
namespace PySem
open Builtin Builtin.Str
section
variable {prog : Program} {w : World} {A : Around} {E : Value → Shared → Prop} {s : Shared} {d : Addr} {c : Nat} {g : Nat → Nat}
end
def TrAtG (g : Nat → Nat) (x : List Nat) (fast0 : Bool) (s : Shared) (rest : List Nat) (st : List Str × Nat × Bool × List (Nat × Option Nat) × Bool) (s' : Shared) : Prop :=
  ∃ (past : List Nat) (pieces : List Str) (known : List (Nat × Option Nat)) (h' : Heap) (k : Nat), x = past ++ rest ∧ st = (pieces, past.length, fast0, known, false) ∧ pieces.reverse = past.map (fun c => (⟨#[g c]⟩ : Str)) ∧
    (∀ c a, List.lookup c known = some a → a = some (g c)) ∧ s' = { s with heap := h', toks := k } ∧ ∀ b o, s.heap.get? b = some o → h'.get? b = some o
theorem TrAtG.next {g : Nat → Nat} {x : List Nat} {fast0 : Bool} {s : Shared} {rest past : List Nat} {c : Nat} {pieces : List Str} {known : List (Nat × Option Nat)} {h' : Heap} {k : Nat} (h1 : x = past ++ c :: rest)
    (h3 : pieces.reverse = past.map (fun c => (⟨#[g c]⟩ : Str))) (h4 : ∀ c a, List.lookup c known = some a → a = some (g c)) (h6 : ∀ b o, s.heap.get? b = some o → h'.get? b = some o) :
    TrAtG g x fast0 s rest (⟨#[g c]⟩ :: pieces, past.length + 1, fast0, known, false) { s with heap := h', toks := k } := by
  refine ⟨past ++ [c], ⟨#[g c]⟩ :: pieces, known, h', k, ?_, ?_, ?_, h4, rfl, h6⟩
  · rw [h1, List.append_assoc] <;> rfl
  · rw [List.length_append] <;> rfl
  · rw [List.reverse_cons, h3, List.map_append] <;> rfl
end PySem

/-! str.maketrans("01", "10") and x.translate of it -/
namespace PySem
open Builtin Builtin.Str
section
variable {prog : Program} {w : World} {A : Around} {E : Value → Shared → Prop} {s : Shared}
end
end PySem
namespace L2.Mi
open PySem PySem.Spec PyProof.Rows L2 Builtin Builtin.Str
/-- the table of maketrans("01", "10") -/
abbrev tab01 : List (Key × V) := [(.inl 48, .int 49), (.inl 49, .int 48)]
def exch (c : Nat) : Nat := if c = 48 then 49 else if c = 49 then 48 else c
theorem KV.two {t1 t2 : Tok} : KV tab01 [(.inl 48, Value.int 49 t1), (.inl 49, Value.int 48 t2)] := .cons ⟨rfl, ⟨t1, rfl⟩⟩ (.cons ⟨rfl, ⟨t2, rfl⟩⟩ .nil)
end L2.Mi

namespace PySem
open Builtin Builtin.Str
end PySem
namespace L2.Mi
open PySem PySem.Spec PyProof.Rows L2 Builtin Builtin.Str
section
variable {prog : Program} {w : World} {A : Around} {E : Value → Shared → Prop} {s : Shared} {K : PySem.W.Frag}
end
section
variable {X : Cx} {o e : Expr} {es : List Expr} {to : TE} {t : TA} {apos pos : Pos}
end
end L2.Mi

/-! x.translate(str.maketrans("01", "10")) -/
namespace L2.Mi
open PySem PySem.Spec PyProof.Rows L2
section
variable {X : Cx} {W : WX} {o es : Expr} {fa : ME} {p p1 p2 p3 p4 pos : Pos}
end
end L2.Mi

/-! pop, insert, reverse, clear of a cell -/
namespace L2.Mi
open PySem PySem.Spec PyProof.Rows L2
section
variable {K : PySem.W.Frag} {I H : Hp} {m : List Addr} {c : Cs}
theorem Reps.reverse : ∀ {vs : List V} {ds : List D}, Reps K I m vs ds → Reps K I m vs.reverse ds.reverse
  | _, _, .nil => .nil
  | _, _, .cons h t => by
    rw [List.reverse_cons, List.reverse_cons]
    exact Reps.append (Reps.reverse t) (.cons h .nil)
theorem one_of {vs : List V} {d : D} (r : Reps K I m vs [d]) : ∃ v, vs = [v] ∧ Rep K I m v d := by
  cases r with
  | cons h t => cases t; exact ⟨_, rfl, h⟩
end
end L2.Mi

/-! sum, max, min of a list of numbers -/
namespace L2.Mi
open PySem PySem.Spec PyProof.Rows L2
section
variable {K : PySem.W.Frag} {I H : Hp} {m : List Addr} {c : Cs}
def intsOf : List D → Option (List Int)
  | [] => some []
  | .int b :: r => match intsOf r with
    | some bs => some (b :: bs)
    | none => none
  | _ :: _ => none
theorem ints_reps : ∀ {vs : List V} {ds : List D} {bs : List Int}, Reps K I m vs ds → intsOf ds = some bs → vs = bs.map V.int
  | _, _, _, .nil, e => by cases e; rfl
  | _, _, _, .cons (d := d) (ds := ds) h t, e => by
    cases h with
    | int b =>
      unfold intsOf at e
      cases q : intsOf ds with
      | none => rw [q] at e; cases e
      | some bs =>
        rw [q] at e
        cases e
        rw [ints_reps t q]; rfl
    | _ => cases e
theorem intsOf_map (bs : List Int) : intsOf (bs.map D.int) = some bs := by
  induction bs with
  | nil => rfl
  | cons b r ih => show (match intsOf (r.map D.int) with | some bs => some (b :: bs) | none => none) = _; rw [ih]
def onInts (f : List Int → Option Int) (d : D) (c : Cs) : R D := match lstC d c with
  | some ds => match intsOf ds with
    | some ns => match f ns with
      | some k => .ok (.int k) c
      | none => .stuck
    | none => .stuck
  | none => .stuck
theorem cs_ints {r : List V → Hp → VK → Prop} {f : List Int → Option Int} (h : ∀ (H : Hp) (a : Addr) (ns : List Int) (k : Int) (Q : VK), H a = some (.lst (ns.map V.int)) → f ns = some k → Q (.int k) H → r [.ref a] H Q) : CallS K r (on1 (onInts f)) := fun I H m c vs ds W Q R p A => by
  obtain ⟨v, d, rfl, rfl, pd, A⟩ := on1_arg p A
  unfold onInts at A
  cases e : lstC d c with
  | none => rw [e] at A; exact A.elim
  | some xs =>
    rw [e] at A
    have A : After (rD K) K I m H W Q (match intsOf xs with
      | some ns => match f ns with
        | some k => .ok (.int k) c
        | none => .stuck
      | none => .stuck) := A
    obtain ⟨a, ws, rfl, h1, h2⟩ := lstC_at R pd e
    cases z : intsOf xs with
    | none => rw [z] at A; exact A.elim
    | some ns =>
      rw [z] at A
      have A : After (rD K) K I m H W Q (match f ns with
        | some k => .ok (.int k) c
        | none => .stuck) := A
      cases y : f ns with
      | none => rw [y] at A; exact A.elim
      | some k =>
        rw [y] at A
        rw [ints_reps h2 z] at h1
        exact h H a ns k Q h1 y (A.here R (.int k))
end
end L2.Mi
namespace L2.Mi
open PySem
end L2.Mi

/-! a written dict of several keys, a new cell -/
namespace L2.Mi
open PySem PySem.Spec PyProof.Rows L2
def mergeKD (kvs more : List (Key × D)) : List (Key × D) := more.foldl (fun acc kv => putKD acc kv.1 kv.2) kvs
theorem RepK.merge {K : PySem.W.Frag} {I : Hp} {m : List Addr} : ∀ {more : List (Key × V)} {rs : List (Key × D)} {kvs : List (Key × V)} {ds : List (Key × D)}, RepK K I m more rs → RepK K I m kvs ds → RepK K I m (mergeK kvs more) (mergeKD ds rs)
  | _, _, _, _, .nil, r => r
  | _, _, _, _, .cons (k := k) (v := v) (vs := vs) (d := d) (ds := ds) h t, r => by
    have q := RepK.merge t (RepK.put (k := k) h r)
    exact q
end L2.Mi

/-! dict(pairs) -/
namespace L2.Mi
open PySem PySem.Spec PyProof.Rows L2
section
variable {K : PySem.W.Frag} {I H : Hp} {m : List Addr} {c : Cs}
end
end L2.Mi

/-! [*xs, ..] -/
namespace L2.Mi
open PySem PySem.Spec PyProof.Rows L2
section
variable {X : Cx} {W : WX} {e : Expr} {es : List Expr} {fa : ME} {ga : MA} {p : Pos}
def aStar (a : ME) (t : MA) : MA := fun l c => (a l c).bind fun x c1 => match seqOf x c1 with
  | some xs => (t l c1).bind fun ys c2 => .ok (xs ++ ys) c2
  | none => .stuck
theorem ma_star (he : PE X e (rdE X.K W fa)) (hr : PA X es (rdA X.K W ga)) (hs : starEach (.Starred e p :: es) X.env = (true, eval e X.env) :: starEach es X.env := by rfl) : PA X (.Starred e p :: es) (rdA X.K W (aStar fa ga)) :=
  PAi (StX.pa_star he hr hs) fun σ H Q ⟨I, m, l, c, R, L, A⟩ => ⟨I, m, l, c, R, L, After.mono (After.bind (rep := rD X.K) A) fun v1 H1 ⟨I1, m1, c1, d1, E1, R1, p1, A1⟩ => by
    have A1 : After (rA X.K) X.K I1 m1 H1 _ Q (match seqOf d1 c1 with
      | some xs => (ga l c1).bind fun ys c2 => .ok (xs ++ ys) c2
      | none => .stuck) := A1
    cases q : seqOf d1 c1 with
    | none => rw [q] at A1; exact A1.elim
    | some xs =>
      rw [q] at A1
      obtain ⟨a, ys, rfl, h1, h2⟩ := seq_at R1 p1 q
      refine ⟨a, ys, rfl, (by first | exact h1 | exact h1.symm), I1, m1, l, c1, R1, L.ext E1, After.mono (After.bind (rep := rA X.K) A1) fun v2 H2 ⟨I2, m2, c2, d2, E2, R2, p2, A2⟩ => ?_⟩
      exact A2.here R2 (Reps.append (Reps.ext h2 E2) p2)⟩
end
end L2.Mi

/-! range(a, b, c) -/
namespace L2.Mi
open PySem PySem.Spec PyProof.Rows L2
def rangeC (lo s : Int) (n : Nat) : List D := (List.range n).map fun i => .int (lo + (i : Nat) * s)
def r3ok (i j s : Int) : Prop := s ≠ 0 ∧ s.natAbs < 1073741824 ∧ Builtin.Range.small i j s = true ∧ 0 ≤ Builtin.Range.rangeSize i j s
instance (i j s : Int) : Decidable (r3ok i j s) := inferInstanceAs (Decidable (s ≠ 0 ∧ s.natAbs < 1073741824 ∧ Builtin.Range.small i j s = true ∧ 0 ≤ Builtin.Range.rangeSize i j s))
def r3 (i j s : Int) (c : Cs) : R (List D) := if r3ok i j s then .ok (rangeC i s (Builtin.Range.rangeSize i j s).toNat) c else .stuck
end L2.Mi

/-! zip and enumerate over lists, tuples, texts in any mix -/
namespace L2.Mi
open PySem PySem.Spec PyProof.Rows L2

inductive Sr where
  | l (a : Addr)
  | t (a : Addr)
  | s (z : Str)
def Sr.v : Sr → V
  | .l a => .ref a
  | .t a => .ref a
  | .s z => .str z
def Sr.adr : Sr → List Addr
  | .l a => [a]
  | .t a => [a]
  | .s _ => []
def signsV (z : Str) : List V := z.cps.toList.map fun k => .str ⟨#[k]⟩
def Sr.Items (K : PySem.W.Frag) (H : Hp) (vs : List V) : Sr → Prop
  | .l a => SqL K H a vs
  | .t a => SqT K H a vs
  | .s z => vs = signsV z
def Sr.Itr (it : Addr) (i : Nat) (h : Heap) : Sr → Prop
  | .l a => h.IsListIter it a i
  | .t a => h.IsTupleIter it a i
  | .s z => ∃ t, h.IsStrIter it (strIterType z) z t i
theorem Sr.obj {src : Sr} {it : Addr} {i : Nat} {h : Heap} (st : src.Itr it i h) : ∃ o, h.get? it = some o ∧ ∀ v, o.data ≠ .cell v := by
  cases src with
  | l a => obtain ⟨o, h1, h2, h3⟩ := st; exact ⟨o, h1, fun v q => by rw [h3] at q; cases q⟩
  | t a => obtain ⟨o, h1, h2, h3⟩ := st; exact ⟨o, h1, fun v q => by rw [h3] at q; cases q⟩
  | s z => obtain ⟨t, o, h1, h2, h3⟩ := st; exact ⟨o, h1, fun v q => by rw [h3] at q; cases q⟩
theorem Sr.at {src : Sr} {it : Addr} {i : Nat} {h h' : Heap} (st : src.Itr it i h) (k : ∀ o, h.get? it = some o → h'.get? it = some o) : src.Itr it i h' := by
  cases src with
  | l a => obtain ⟨o, h1, h2⟩ := st; exact ⟨o, k o h1, h2⟩
  | t a => obtain ⟨o, h1, h2⟩ := st; exact ⟨o, k o h1, h2⟩
  | s z => obtain ⟨t, o, h1, h2⟩ := st; exact ⟨t, o, k o h1, h2⟩
theorem paired_getR {α β : Type} {R : α → β → Prop} : ∀ {xs : List α} {ys : List β} {j : Nat} {y : β}, Paired R xs ys → ys[j]? = some y → ∃ x, xs[j]? = some x ∧ R x y
  | _, _, _, _, .nil, e => by simp at e
  | _, _, 0, _, .cons h _, e => by simp at e; subst e; exact ⟨_, rfl, h⟩
  | _, _, j + 1, y, .cons _ t, e => by
    obtain ⟨x, h1, h2⟩ := paired_getR (j := j) (y := y) t (by simpa using e)
    exact ⟨x, by simpa using h1, h2⟩
section
variable {X : Cx} {pins : List (Addr × Obj)} {σ : St} {H : Hp} {s : Shared}
theorem Sr.inj {src : Sr} {xs ys : List V} (I : Inv X pins σ H s) (h1 : src.Items X.K H xs) (h2 : src.Items X.K H ys) : xs = ys := by
  cases src with
  | l a => exact I.list_inj h1 h2
  | t a => exact I.tuple_inj h1 h2
  | s z => exact (show xs = signsV z from h1).trans (show ys = signsV z from h2).symm
theorem Sr.lt {src : Sr} {xs : List V} (I : Inv X pins σ H s) (h1 : src.Items X.K H xs) : ∀ a ∈ src.adr, a < s.heap.objs.size := by
  cases src with
  | l a =>
    obtain ⟨its, rv, p, _⟩ := I.list h1
    intro b hb
    rw [List.mem_singleton.mp hb]
    exact p.lt
  | t a =>
    obtain ⟨its, rv, p, _⟩ := I.tuple h1
    intro b hb
    rw [List.mem_singleton.mp hb]
    obtain ⟨o, e, _⟩ := (show s.heap.IsTuple a its.toArray from p)
    exact Heap.lt_size e
  | s z => intro b hb; cases hb
theorem Sr.draws {src : Sr} {it : Addr} {i : Nat} {vs : List V} (I : Inv X pins σ H s) (hc : X.calm = true) (hq : src.Items X.K H vs) (st : src.Itr it i s.heap) (hne : ∀ a ∈ src.adr, a ≠ it) :
    ∃ (P : Nat → Value → Prop) (S : Nat → Heap → Prop), Draws X.prog X.w X.A.in1 it (it :: src.adr) vs.length P S ∧ S i s.heap ∧ (∀ j h, S j h → src.Itr it j h) ∧ ∀ j u, P j u → ∃ x, vs[j]? = some x ∧ RelV x u := by
  have hh : X.A.in1.handled = none := I.ok.hd hc
  cases src with
  | l a =>
    obtain ⟨its, rv, p, hz⟩ := I.list hq
    refine ⟨fun i v => its.toArray[i]? = some v, fun i h => h.IsListIter it a i ∧ h.IsList a its.toArray, by have := Draws.list (prog := X.prog) (w := X.w) hh it a (hne a (by simp [Sr.adr])) its.toArray; rw [List.size_toArray, ← rv.length] at this; exact this, ⟨st, p.isList⟩, fun j h q => q.1, fun j u q => ?_⟩
    have q : its[j]? = some u := by simpa using q
    exact paired_getR rv q
  | t a =>
    obtain ⟨its, rv, p, hz⟩ := I.tuple hq
    refine ⟨fun i v => its.toArray[i]? = some v, fun i h => h.IsTupleIter it a i ∧ h.IsTuple a its.toArray, by have := Draws.tuple (prog := X.prog) (w := X.w) hh it a (hne a (by simp [Sr.adr])) its.toArray; rw [List.size_toArray, ← rv.length] at this; exact this, ⟨st, p⟩, fun j h q => q.1, fun j u q => ?_⟩
    have q : its[j]? = some u := by simpa using q
    exact paired_getR rv q
  | s z =>
    obtain ⟨t, st⟩ := st
    have hv : vs = signsV z := hq
    subst hv
    refine ⟨_, _, by have := Draws.text (prog := X.prog) (w := X.w) hh it z t; rw [show z.cps.size = (signsV z).length by simp [signsV]] at this; exact this, st, fun j h q => ⟨t, q⟩, fun j u q => ?_⟩
    obtain ⟨c, u', hc', rfl⟩ := q
    refine ⟨.str ⟨#[c]⟩, ?_, ⟨_, rfl⟩⟩
    unfold signsV
    rw [List.getElem?_map, Array.getElem?_toList, hc']
    rfl
end

/-! ### zip -/
/-! ### enumerate -/
/-! ### over plain values -/
end L2.Mi

/-! x != y by an own ==; str(x) by an own __str__ -/
namespace L2.Mi
open PySem PySem.Spec PyProof.Rows L2

section
variable {X : Cx} {W : WX} {e o a b : Expr} {es : List Expr} {fa fb fo : ME} {ga : MA} {ns : List Str} {pos p : Pos} {k : Nat} {tbl : Tbl} {mm : Str} {g0 : D → D → Cs → R D}
end
/-- the facts of isinstance with an own class -/
theorem kit_mk {K : PySem.W.Frag} {t : Value} {C : Addr} {b : Bool} (h2 : PySem.W.isClsIn K C = true) (h3 : PySem.W.typeIn K (.ref C) = some (.type "type")) (hne : (t == .ref C) = false) (h4 : PySem.W.subIn K t (.ref C) = some b) : PySem.W.kitOne K t (.ref C) = some b := by
  unfold PySem.W.isClsIn at h2
  unfold PySem.W.kitOne PySem.W.kitCls
  rw [hne]
  show (if ((PySem.W.clsIn K C).isSome && PySem.W.typeIn K (.ref C) == some (.type "type")) = true then PySem.W.subIn K t (.ref C) else none) = some b
  rw [if_pos (by rw [h2, h3]; rfl), h4]
theorem kit_self {K : PySem.W.Frag} {C : Addr} : PySem.W.kitOne K (.ref C) (.ref C) = some true := by
  unfold PySem.W.kitOne
  rw [if_pos (by simp)]
theorem all7 {P : String → Prop} (h1 : P "NoneType") (h2 : P "bool") (h3 : P "int") (h4 : P "str") (h5 : P "list") (h6 : P "tuple") (h7 : P "dict") : ∀ t ∈ tyNames, P t := fun t ht => by
  simp only [tyNames, List.mem_cons, List.not_mem_nil, or_false] at ht
  rcases ht with rfl | rfl | rfl | rfl | rfl | rfl | rfl <;> assumption
end L2.Mi

/-! plain reasoning: cells that only grow, walks over typed lists, own objects -/
namespace L2.Mi
open PySem PySem.Spec PyProof.Rows L2

/-- the cells of c stand at the head of c' -/
def Pfx (c c' : Cs) : Prop := ∃ e, c' = c ++ e
theorem Pfx.refl (c : Cs) : Pfx c c := ⟨[], by simp⟩
theorem Pfx.trans {a b c : Cs} (h : Pfx a b) (g : Pfx b c) : Pfx a c := by
  obtain ⟨e, rfl⟩ := h; obtain ⟨f, rfl⟩ := g
  exact ⟨e ++ f, by simp⟩
theorem Pfx.app {a b : Cs} (h : Pfx a b) (x : Cs) : Pfx a (b ++ x) := h.trans ⟨x, rfl⟩
theorem Pfx.one (c x : Cs) : Pfx c (c ++ x) := ⟨x, rfl⟩
theorem Pfx.get {c c' : Cs} {k : Nat} {x : Cell} (h : Pfx c c') (e : c[k]? = some x) : c'[k]? = some x := by
  obtain ⟨f, rfl⟩ := h
  rw [List.getElem?_append_left (List.getElem?_eq_some_iff.mp e).1]
  exact e
theorem Pfx.at {c c' : Cs} (h : Pfx c c') {k : Nat} (hk : k < c.length) : c'[k]? = c[k]? := by
  obtain ⟨f, rfl⟩ := h
  exact List.getElem?_append_left hk
theorem Pfx.len {c c' : Cs} (h : Pfx c c') : c.length ≤ c'.length := by obtain ⟨f, rfl⟩ := h; simp
theorem Pfx.bx {c c' : Cs} {k : Nat} {n : Int} (h : Pfx c c') (b : Bx c k n) : Bx c' k n := by obtain ⟨f, rfl⟩ := h; exact bx_app b f
/-- a cell above the first ones is set -/
theorem Pfx.set {c c' : Cs} (h : Pfx c c') {k : Nat} (hk : c.length ≤ k) (x : Cell) : Pfx c (c'.set k x) := by
  obtain ⟨f, rfl⟩ := h
  exact ⟨f.set (k - c.length) x, by rw [List.set_append_right _ _ hk]⟩
theorem Ok.nox {α : Type} {r : R α} {Q : α → Cs → Prop} (h : Ok r Q) : Ok r.nox Q := by
  obtain ⟨a, c, rfl, q⟩ := h
  exact ⟨a, c, rfl, q⟩
theorem Ok.eq {α : Type} {r : R α} {d : α} {c : Cs} (h : Ok r fun x c' => x = d ∧ c' = c) : r = .ok d c := by
  obtain ⟨a, c', e, rfl, rfl⟩ := h
  exact e

/-! ### comprehensions over typed lists -/
section
variable {α : Type} {g : MG} {t : MT} {e : ME} {l lw : Ls} {c c0 : Cs} {Q : D → Cs → Prop}
theorem compW_G {w : Wk} {xs : List α} {enc F : α → D} {P : α → Bool} (hw : ∀ c', Pfx c0 c' → ∀ i, i ≤ xs.length → w i c' = some (xs.map enc)[i]?)
    (h : ∀ a ∈ xs, ∀ c', Pfx c0 c' → Ok (g (enc a) lw c') fun l1 c1 => Pfx c0 c1 ∧ Ok (t l1 c1) fun k c2 => k = P a ∧ Pfx c0 c2 ∧ (P a = true → Ok (e l1 c2) fun d c3 => d = F a ∧ Pfx c0 c3)) :
    ∀ (k n i : Nat) (acc : List D) (c : Cs), xs.length - i = k → i ≤ xs.length → k < n → Pfx c0 c → acc.length + k ≤ sizeLine → ∃ c', Pfx c0 c' ∧ compW g t e lw w n i acc c = .ok (acc ++ ((xs.drop i).filter P).map F) c'
  | k, 0, _, _, _, _, _, hn, _, _ => absurd hn (Nat.not_lt_zero _)
  | 0, n + 1, i, acc, c, hk, hi, hn, hp, hl => by
    have hi : i = xs.length := by omega
    refine ⟨c, hp, ?_⟩
    unfold compW
    rw [hw c hp i (by omega), List.getElem?_eq_none (by simp; omega), List.drop_eq_nil_of_le (by omega)]
    simp
  | k + 1, n + 1, i, acc, c, hk, hi, hn, hp, hl => by
    have hi : i < xs.length := by omega
    obtain ⟨l1, c1, e1, p1, kb, c2, e2, hkb, p2, h3⟩ := h xs[i] (List.getElem_mem hi) c hp
    have ih := fun acc c' hp hl => compW_G hw h k n (i + 1) acc c' (by omega) (by omega) (by omega) hp hl
    have hd : xs.drop i = xs[i] :: xs.drop (i + 1) := List.drop_eq_getElem_cons hi
    unfold compW
    rw [hw c hp i (by omega), List.getElem?_map, List.getElem?_eq_getElem hi]
    simp only [Option.map_some, e1, R.nox_ok, R.bind_ok, e2]
    cases q : P xs[i] with
    | true =>
      rw [q] at hkb
      subst hkb
      obtain ⟨d, c3, e3, rfl, p3⟩ := h3 q
      obtain ⟨c', hp', e'⟩ := ih (acc ++ [F xs[i]]) c3 p3 (by simp; omega)
      refine ⟨c', hp', ?_⟩
      simp only [e3, R.nox_ok, R.bind_ok]
      rw [if_pos (by omega), e', hd, List.filter_cons_of_pos q]
      simp
    | false =>
      rw [q] at hkb
      subst hkb
      obtain ⟨c', hp', e'⟩ := ih acc c2 p2 (by omega)
      refine ⟨c', hp', ?_⟩
      simp only []
      rw [e', hd, List.filter_cons_of_neg (by rw [q]; exact Bool.false_ne_true)]
theorem ok_lcG {it : MK} {js : List Nat} (xs : List α) (enc F : α → D) (P : α → Bool) (hl : xs.length ≤ 1000000)
    (hit : Ok (it l c) fun w c1 => Pfx c c1 ∧ ∀ c', Pfx c1 c' → ∀ i, i ≤ xs.length → w i c' = some (xs.map enc)[i]?)
    (h : ∀ a ∈ xs, ∀ c', Pfx c c' → Ok (g (enc a) (wipeL l js) c') fun l1 c1 => Pfx c' c1 ∧ Ok (t l1 c1) fun k c2 => k = P a ∧ Pfx c1 c2 ∧ (P a = true → Ok (e l1 c2) fun d c3 => d = F a ∧ Pfx c2 c3))
    (q : ∀ c', Pfx c c' → Q (.lst ((xs.filter P).map F)) c') : Ok (mLcW it js g t e l c) Q := by
  have hz : sizeLine = 16777216 := sizeLine_eq
  refine Ok.bind (hit.mono fun w c1 ⟨p1, hw⟩ => ?_)
  obtain ⟨c', hp, e'⟩ := compW_G (g := g) (t := t) (e := e) (lw := wipeL l js) (F := F) (P := P) hw (fun a ha c' hp => (h a ha c' (p1.trans hp)).mono fun l1 c2 ⟨p2, h2⟩ => ⟨hp.trans p2, h2.mono fun k c3 ⟨e3, p3, h3⟩ => ⟨e3, (hp.trans p2).trans p3, fun ek => (h3 ek).mono fun d c4 ⟨e4, p4⟩ => ⟨e4, ((hp.trans p2).trans p3).trans p4⟩⟩⟩)
    xs.length fuelW 0 [] c1 (by omega) (by omega) (by unfold fuelW; omega) (Pfx.refl _) (by simp; omega)
  rw [List.drop_zero, List.nil_append] at e'
  exact ⟨_, _, by rw [e']; rfl, q c' (p1.trans hp)⟩
/-- .. nothing is changed -/
theorem ok_lcT {it : MK} {js : List Nat} (xs : List α) (enc F : α → D) (P : α → Bool) (hl : xs.length ≤ 1000000)
    (hit : Ok (it l c) fun w c1 => c1 = c ∧ ∀ i, i ≤ xs.length → w i c = some (xs.map enc)[i]?)
    (h : ∀ a ∈ xs, Ok (g (enc a) (wipeL l js) c) fun l1 c1 => c1 = c ∧ Ok (t l1 c) fun k c2 => k = P a ∧ c2 = c ∧ (P a = true → Ok (e l1 c) fun d c3 => d = F a ∧ c3 = c))
    (q : Q (.lst ((xs.filter P).map F)) c) : Ok (mLcW it js g t e l c) Q := by
  have hz : sizeLine = 16777216 := sizeLine_eq
  refine Ok.bind (hit.mono fun w c1 ⟨p1, hw⟩ => ?_)
  subst p1
  have go : ∀ (k n i : Nat) (acc : List D), xs.length - i = k → i ≤ xs.length → k < n → acc.length + k ≤ sizeLine → compW g t e (wipeL l js) w n i acc c1 = .ok (acc ++ ((xs.drop i).filter P).map F) c1 := by
    intro k
    induction k with
    | zero =>
      intro n i acc hk hi hn hl
      cases n with
      | zero => omega
      | succ n =>
        unfold compW
        rw [hw i (by omega), List.getElem?_eq_none (by simp; omega), List.drop_eq_nil_of_le (by omega)]
        simp
    | succ k ih =>
      intro n i acc hk hi hn hl
      cases n with
      | zero => omega
      | succ n =>
        have hi : i < xs.length := by omega
        obtain ⟨l1, c1', e1, rfl, kb, c2, e2, hkb, rfl, h3⟩ := h xs[i] (List.getElem_mem hi)
        have hd : xs.drop i = xs[i] :: xs.drop (i + 1) := List.drop_eq_getElem_cons hi
        unfold compW
        rw [hw i (by omega), List.getElem?_map, List.getElem?_eq_getElem hi]
        simp only [Option.map_some, e1, R.nox_ok, R.bind_ok, e2]
        cases qq : P xs[i] with
        | true =>
          rw [qq] at hkb
          subst hkb
          obtain ⟨d, c3, e3, rfl, rfl⟩ := h3 qq
          simp only [e3, R.nox_ok, R.bind_ok]
          rw [if_pos (by omega), ih n (i + 1) _ (by omega) (by omega) (by omega) (by simp; omega), hd, List.filter_cons_of_pos qq]
          simp
        | false =>
          rw [qq] at hkb
          subst hkb
          simp only []
          rw [ih n (i + 1) _ (by omega) (by omega) (by omega) (by omega), hd, List.filter_cons_of_neg (by rw [qq]; exact Bool.false_ne_true)]
  exact ⟨_, _, by rw [go xs.length fuelW 0 [] (by omega) (by omega) (by unfold fuelW; omega) (by simp; omega)]; rfl, by simpa using q⟩
theorem filter_all {β : Type} (xs : List β) : xs.filter (fun _ => true) = xs := List.filter_eq_self.mpr fun _ _ => rfl
theorem ok_lcY {it : MK} {js : List Nat} (xs : List α) (enc F : α → D) (hl : xs.length ≤ 1000000)
    (hit : Ok (it l c) fun w c1 => c1 = c ∧ ∀ i, i ≤ xs.length → w i c = some (xs.map enc)[i]?)
    (h : ∀ a ∈ xs, Ok (g (enc a) (wipeL l js) c) fun l1 c1 => c1 = c ∧ Ok (e l1 c) fun d c3 => d = F a ∧ c3 = c)
    (q : Q (.lst (xs.map F)) c) : Ok (mLcW it js g tYesM e l c) Q :=
  ok_lcT xs enc F (fun _ => true) hl hit (fun a ha => (h a ha).mono fun l1 c1 ⟨e1, h1⟩ => ⟨e1, ⟨true, c, rfl, rfl, rfl, fun _ => h1⟩⟩) (by rw [filter_all]; exact q)
/-- a list of items told beforehand, as a walk -/
theorem mLc_fix {it : MI} {js : List Nat} {ds : List D} (hit : it l c = .ok ds c) (hl : ds.length ≤ 1000000) : mLc it js g t e l c = mLcW (kFix it) js g t e l c := by
  unfold mLc mLcW kFix
  rw [hit]
  simp only [R.bind_ok]
  rw [compW_fix ds.length fuelW 0 [] c (by omega) (by unfold fuelW; omega), List.drop_zero]
theorem ok_mlc {it : MI} {js : List Nat} {ds : List D} (hit : it l c = .ok ds c) (hl : ds.length ≤ 1000000) (h : Ok (mLcW (kFix it) js g t e l c) Q) : Ok (mLc it js g t e l c) Q := by rw [mLc_fix hit hl]; exact h
theorem ok_kfix {it : MI} {ds : List D} {QW : Wk → Cs → Prop} (hit : it l c = .ok ds c) (q : QW (fixW ds) c) : Ok (kFix it l c) QW := ⟨_, _, by unfold kFix; rw [hit]; rfl, q⟩
/-- what is walked where nothing can change -/
def treeSeq : D → Option (List D)
  | .lst ds => some ds
  | .ro ds => some ds
  | .tup ds => some ds
  | .str s => some (chrs s)
  | _ => none
theorem wAny_tree {x : D} {ds : List D} (h : treeSeq x = some ds) : wAny x c = .ok (fixW ds) c := by
  cases x <;> first | (cases h; rfl) | cases h
theorem ok_ktree {a : ME} {xs : List α} {enc : α → D} (h : Ok (a l c) fun x c1 => c1 = c ∧ treeSeq x = some (xs.map enc)) : Ok (kAny a l c) fun w c1 => c1 = c ∧ ∀ i, i ≤ xs.length → w i c = some (xs.map enc)[i]? :=
  Ok.bind (h.mono fun x c1 ⟨e, ht⟩ => by subst e; exact ⟨_, _, wAny_tree ht, rfl, fun _ _ => rfl⟩)
theorem ok_ktreeG {a : ME} {xs : List α} {enc : α → D} (h : Ok (a l c) fun x c1 => Pfx c c1 ∧ treeSeq x = some (xs.map enc)) : Ok (kAny a l c) fun w c1 => Pfx c c1 ∧ ∀ c', Pfx c1 c' → ∀ i, i ≤ xs.length → w i c' = some (xs.map enc)[i]? :=
  Ok.bind (h.mono fun x c1 ⟨e, ht⟩ => ⟨_, _, wAny_tree ht, e, fun _ _ _ _ => rfl⟩)
theorem ok_kseq {a : ME} {xs : List α} {enc : α → D} (h : Ok (a l c) fun x c1 => c1 = c ∧ seqOf x c = some (xs.map enc)) : Ok (kAny a l c) fun w c1 => c1 = c ∧ ∀ i, i ≤ xs.length → w i c = some (xs.map enc)[i]? :=
  Ok.bind (h.mono fun x c1 ⟨e, ht⟩ => by subst e; obtain ⟨w, h1, h2⟩ := wAny_seq ht; exact ⟨_, _, h1, rfl, fun i _ => h2 i⟩)
theorem rangeL0 (n : Nat) : rangeL 0 n = (List.range n).map fun i => D.int (i : Nat) := by
  unfold rangeL
  refine List.map_congr_left fun i _ => ?_
  rw [Int.zero_add]
theorem small_nat {n : Nat} (h : n ≤ 1000000) : small62 (n : Int) := by
  have e : (2 : Int) ^ 62 = 4611686018427387904 := by decide
  unfold small62
  rw [e]
  omega
theorem r1_eq {t : MA} {n : Nat} (h : Ok (t l c) fun xs c1 => c1 = c ∧ xs = [.int (n : Int)]) (hn : n ≤ 1000000) : iR1 t l c = .ok ((List.range n).map fun i => D.int (i : Nat)) c := by
  have h2 : Ok (iR1 t l c) fun ds c1 => ds = rangeL 0 n ∧ c1 = c := ok_r1 (h.mono fun xs c1 ⟨e1, e2⟩ => ⟨n, e2, small_nat hn, by rw [Int.toNat_natCast], e1⟩)
  rw [h2.eq, rangeL0]
theorem ok_kr1 {t : MA} {n : Nat} {QW : Wk → Cs → Prop} (h : Ok (t l c) fun xs c1 => c1 = c ∧ xs = [.int (n : Int)]) (hn : n ≤ 1000000) (q : QW (fixW ((List.range n).map fun i => D.int (i : Nat))) c) : Ok (kFix (iR1 t) l c) QW :=
  ok_kfix (r1_eq h hn) q
/-- [e for i in range(n)] -/
theorem ok_lcR {m : MA} {js : List Nat} (n : Nat) (F : Nat → D) (hn : n ≤ 1000000) (hm : Ok (m l c) fun xs c1 => c1 = c ∧ xs = [.int (n : Int)])
    (h : ∀ i, i < n → Ok (g (.int (i : Nat)) (wipeL l js) c) fun l1 c1 => c1 = c ∧ Ok (e l1 c) fun d c3 => d = F i ∧ c3 = c)
    (q : Q (.lst ((List.range n).map F)) c) : Ok (mLc (iR1 m) js g tYesM e l c) Q :=
  ok_mlc (r1_eq hm hn) (by simp; exact hn) (ok_lcY (List.range n) (fun i => D.int (i : Nat)) F (by simp; exact hn) (ok_kr1 hm hn ⟨rfl, fun _ _ => rfl⟩) (fun a ha => h a (List.mem_range.mp ha)) q)
end

/-! ### loops over typed lists -/
section
variable {α : Type} {g : MG} {f : MS} {l : Ls} {c : Cs} {QS : Fl → Cs → Prop}
theorem forD_T {xs : List α} {enc : α → D} (P : List α → Ls → Cs → Prop) (hd : ∀ l c, P [] l c → QS (.nx l) c)
    (ht : ∀ x rest l c, P (x :: rest) l c → Ok (g (enc x) l c) fun l1 c1 => OkS (f l1 c1) fun fl c2 => match fl with
      | .nx l2 => P rest l2 c2
      | .ct l2 => P rest l2 c2
      | .bk l2 => QS (.nx l2) c2
      | .rt d => QS (.rt d) c2) : ∀ (xs : List α) l c, P xs l c → OkS (forD g f (xs.map enc) l c) QS := fun xs l c h =>
  OkS.for (fun ds l c => ∃ ys : List α, ds = ys.map enc ∧ P ys l c) (fun l c ⟨ys, e, p⟩ => by
      cases ys with
      | nil => exact hd l c p
      | cons y ys => simp at e) (fun d ds l c ⟨ys, e, p⟩ => by
      cases ys with
      | nil => simp at e
      | cons y ys =>
        simp only [List.map_cons, List.cons.injEq] at e
        obtain ⟨rfl, rfl⟩ := e
        refine (ht y ys l c p).mono fun l1 c1 h1 => h1.mono fun fl c2 h2 => ?_
        cases fl with
        | nx l2 => exact ⟨ys, rfl, h2⟩
        | ct l2 => exact ⟨ys, rfl, h2⟩
        | bk l2 => exact h2
        | rt d => exact h2) _ _ _ ⟨xs, rfl, h⟩
theorem os_forX {a : ME} (xs : List α) (enc : α → D) (P : List α → Ls → Cs → Prop) (hl : xs.length ≤ 1000000) (ha : Ok (a l c) fun x c1 => treeSeq x = some (xs.map enc) ∧ P xs l c1)
    (hd : ∀ l c, P [] l c → QS (.nx l) c)
    (ht : ∀ x rest l c, P (x :: rest) l c → Ok (g (enc x) l c) fun l1 c1 => OkS (f l1 c1) fun fl c2 => match fl with
      | .nx l2 => P rest l2 c2
      | .ct l2 => P rest l2 c2
      | .bk l2 => QS (.nx l2) c2
      | .rt d => QS (.rt d) c2) : OkS (sForW (kAny a) g f l c) QS := by
  refine os_forW (ok_kany (ha.mono fun x c1 ⟨h1, h2⟩ => ⟨_, _, wAny_tree h1, ?_⟩))
  show OkS (forW g f (fixW (xs.map enc)) fuelW 0 l c1) QS
  rw [forW_fix _ _ _ _ _ rfl (by rw [List.length_map]; unfold fuelW; omega), List.drop_zero]
  exact forD_T (xs := xs) P hd ht xs l c1 h2
theorem os_forY {it : MI} (xs : List α) (enc : α → D) (P : List α → Ls → Cs → Prop) (ha : Ok (it l c) fun ds c1 => ds = xs.map enc ∧ P xs l c1)
    (hd : ∀ l c, P [] l c → QS (.nx l) c)
    (ht : ∀ x rest l c, P (x :: rest) l c → Ok (g (enc x) l c) fun l1 c1 => OkS (f l1 c1) fun fl c2 => match fl with
      | .nx l2 => P rest l2 c2
      | .ct l2 => P rest l2 c2
      | .bk l2 => QS (.nx l2) c2
      | .rt d => QS (.rt d) c2) : OkS (sFor it g f l c) QS :=
  os_for (ha.mono fun ds c1 ⟨h1, h2⟩ => by subst h1; exact forD_T (xs := xs) P hd ht xs l c1 h2)
theorem os_forR {m : MA} (n : Nat) (P : List Nat → Ls → Cs → Prop) (hn : n ≤ 1000000) (hm : Ok (m l c) fun xs c1 => c1 = c ∧ xs = [.int (n : Int)]) (h0 : P (List.range n) l c)
    (hd : ∀ l c, P [] l c → QS (.nx l) c)
    (ht : ∀ x rest l c, P (x :: rest) l c → Ok (g (.int (x : Nat)) l c) fun l1 c1 => OkS (f l1 c1) fun fl c2 => match fl with
      | .nx l2 => P rest l2 c2
      | .ct l2 => P rest l2 c2
      | .bk l2 => QS (.nx l2) c2
      | .rt d => QS (.rt d) c2) : OkS (sFor (iR1 m) g f l c) QS :=
  os_forY (List.range n) (fun i => D.int (i : Nat)) P (Ok.of (r1_eq hm hn) ⟨rfl, h0⟩) hd ht
end

/-! ### zip, enumerate over trees -/
section
variable {l : Ls} {c : Cs}
end

section
variable {it : MI} {iw : MK} {js : List Nat} {g : MG} {t : MT} {e : ME} {f : MS} {l : Ls} {c : Cs} {Q : D → Cs → Prop} {QS : Fl → Cs → Prop}
theorem at_mul {x y : D} (h : Ok (mulI x y c) Q) : Ok (mulI x y c) Q := h
theorem at_mod {x y : D} (h : Ok (modI x y c) Q) : Ok (modI x y c) Q := h
theorem at_div {x y : D} (h : Ok (divI x y c) Q) : Ok (divI x y c) Q := h
theorem at_pow {x y : D} (h : Ok (powI x y c) Q) : Ok (powI x y c) Q := h
theorem at_lc (h : Ok (mLc it js g t e l c) Q) : Ok (mLc it js g t e l c) Q := h
theorem at_lcW (h : Ok (mLcW iw js g t e l c) Q) : Ok (mLcW iw js g t e l c) Q := h
theorem at_for (h : OkS (sFor it g f l c) QS) : OkS (sFor it g f l c) QS := h
theorem at_forW (h : OkS (sForW iw g f l c) QS) : OkS (sForW iw g f l c) QS := h
end
/-! ### own objects -/
section
variable {o a : ME} {t : MA} {l : Ls} {c : Cs} {Q : D → Cs → Prop} {n mm : Str} {g : List D → Cs → R D} {g0 : D → D → Cs → R D} {x y : D} {fs : List (Str × D)}
theorem viaT_eq {α : Type} {r : (List D → Cs → R D) → List (Str × D) → R α} (h : insOf x c = some (n, fs)) : viaT [(n, g)] x c r = r g fs := by
  unfold viaT
  rw [h]
  simp [List.lookup]
theorem ok_prop (h : Ok (o l c) fun x c1 => (∃ fs, insOf x c1 = some (n, fs)) ∧ Ok (g [x] c1) Q) : Ok (mProp [(n, g)] o l c) Q :=
  Ok.bind (h.mono fun x c1 ⟨⟨fs, h1⟩, h2⟩ => by rw [viaT_eq h1]; exact h2.nox)
theorem ok_meth (h : Ok (o l c) fun x c1 => (∃ fs, insOf x c1 = some (n, fs) ∧ fs.lookup mm = none) ∧ Ok (t l c1) fun xs c2 => Ok (g (x :: xs) c2) Q) : Ok (mMeth [(n, g)] mm o t l c) Q :=
  Ok.bind (h.mono fun x c1 ⟨⟨fs, h1, h3⟩, h2⟩ => by rw [viaT_eq h1, h3]; exact Ok.bind h2)
theorem ok_fld {f : Str} (h : Ok (o l c) fun x c1 => ∃ fs d, insOf x c1 = some (n, fs) ∧ fs.lookup f = some d ∧ Q d c1) : Ok (mFld [n] f o l c) Q :=
  Ok.bind (h.mono fun x c1 ⟨fs, d, h1, h2, q⟩ => ⟨d, c1, by simp [fldR, h1, fldO, h2], q⟩)
theorem ok_inI {neg : Bool} (h : insOf y c = some (n, fs)) (q : Ok (g [y, x] c) fun r c2 => ∃ b, r = .bl b ∧ Q (.bl (sgn neg b)) c2) : Ok (inI [(n, g)] neg g0 x y c) Q := by
  unfold inI
  rw [h]
  simp only []
  rw [viaT_eq h]
  exact Ok.bind (q.mono fun r c2 ⟨b, e, q⟩ => by subst e; exact ⟨_, _, rfl, q⟩)
theorem ok_ixI (h : insOf x c = some (n, fs)) (q : Ok (g [x, y] c) Q) : Ok (ixI [(n, g)] g0 x y c) Q := by
  unfold ixI
  rw [h]
  simp only []
  rw [viaT_eq h]
  exact q
theorem ok_iso1 {ns : List Str} {k : Str} (h : Ok (a l c) fun x c1 => ∃ fs, insOf x c1 = some (k, fs) ∧ k ∈ ns ∧ Q (.bl (k == n)) c1) : Ok (mIso n ns a l c) Q :=
  Ok.bind (h.mono fun x c1 ⟨fs, h1, h2, q⟩ => ⟨_, _, by unfold isoR; rw [h1]; exact if_pos h2, q⟩)
theorem ok_star {Q : List D → Cs → Prop} (h : Ok (a l c) fun x c1 => ∃ xs, seqOf x c1 = some xs ∧ Ok (t l c1) fun ys c2 => Q (xs ++ ys) c2) : Ok (aStar a t l c) Q :=
  Ok.bind (h.mono fun x c1 ⟨xs, e, q⟩ => by
    rw [e]
    exact Ok.bind (q.mono fun ys c2 q => ⟨_, _, rfl, q⟩))
end
end L2.Mi

/-! a, b, .. = a list -/
namespace L2.Mi
open PySem PySem.Spec PyProof.Rows L2
end L2.Mi

namespace L2.Mi
open PySem PySem.Spec PyProof.Rows L2
/-! comprehensions whose list is changed later: cells -/
end L2.Mi
namespace PySem
section
variable {prog : Program} {w : World} {A : Around} {E : Value → Shared → Prop} {s : Shared} {l : Addr} {xs : Array (Int × Tok)}
theorem iter_intTuple {Q : Value → Shared → Prop} (hl : s.heap.IsTuple l (intItems xs))
    (h : ∀ s₂ : Shared, s₂ = { s with heap := s.heap.push { cls := .type "tuple_iterator", data := .fields #[.ref l, .int 0 0] } } →
      (s₂.heap.IsTupleIter s.heap.objs.size l 0 ∧ s₂.heap.IsTuple l (intItems xs)) → (∀ b ∈ [s.heap.objs.size, l], b < s₂.heap.objs.size) → l ≠ s.heap.objs.size → Q (.ref s.heap.objs.size) s₂) :
    wpAny (model prog w) A (pyIter (.ref l)) Q E s := by
  have hlt : l < s.heap.objs.size := by obtain ⟨_, e, _⟩ := hl; exact Heap.lt_size e
  refine wpAny_pyIter_tuple hl (h _ rfl ⟨⟨_, Heap.get?_push_size _ rfl, rfl, rfl⟩, hl.push _⟩ (fun b hb => ?_) (Nat.ne_of_lt hlt))
  show b < (s.heap.push _).objs.size
  rw [Heap.size_push]
  rcases List.mem_cons.mp hb with rfl | hb
  · exact Nat.lt_succ_self _
  · rcases List.mem_cons.mp hb with rfl | hb
    · exact Nat.lt_succ_of_lt hlt
    · cases hb
theorem old_keptT {h' : Heap} (hk : ∀ b o, b ∉ [s.heap.objs.size] → (s.heap.push { cls := .type "tuple_iterator", data := .fields #[.ref l, .int 0 0] }).get? b = some o → h'.get? b = some o) :
    ∀ b o, s.heap.get? b = some o → h'.get? b = some o := fun b o e => by
  refine hk b o (fun hm => ?_) (Heap.get?_push_of_some _ e)
  rcases List.mem_cons.mp hm with e1 | hm
  · exact absurd (e1 ▸ Heap.lt_size e) (Nat.lt_irrefl _)
  · cases hm
theorem min_intTuple {Q : Value → Shared → Prop} (hh : A.handled = none) (hl : s.heap.IsTuple l (intItems xs)) (hne : 0 < xs.size)
    (h : ∀ v h' tk, (intItems xs)[argBest (fun i j => decide (numAt xs i < numAt xs j)) (xs.size - 1)]? = some v → (∀ b o, s.heap.get? b = some o → h'.get? b = some o) → Q v { s with heap := h', toks := tk }) :
    wpAny (model prog w) A (call (.builtin "min") [.ref l]) Q E s := by
  refine call_min_walk (iter_intTuple hl fun s₂ e st hfp hlI => ?_)
  subst e
  refine ⟨_, _, _, _, _, _, _, rfl, Walks.tuple (A := A.in1) hh _ l hlI (intItems xs), st, hfp, by simpa [intItems] using hne, CmpOf.ints_lt (numAt xs) (fun _ _ => intItems_at), fun v h' tk hP hk => ?_⟩
  exact h v h' tk (by simpa [intItems] using hP) (old_keptT hk)
end
end PySem
namespace L2.Mi
open PySem PySem.Spec PyProof.Rows L2
section
variable {prog : Program} {w : World} {A : Around} {E : Value → Shared → Prop} {s : Shared} {l : Addr} {its : List Value} {ns : List Int} {Q : Value → Shared → Prop}
theorem minT_raw (hh : A.handled = none) (hl : s.heap.IsTuple l its.toArray) (hi : IntsAre its ns) (hne : 0 < ns.length)
    (h : ∀ h' tk M t', (∀ b o, s.heap.get? b = some o → h'.get? b = some o) → M ∈ ns → (∀ a, a ∈ ns → M ≤ a) → Q (.int M t') { s with heap := h', toks := tk }) : wpAny (model prog w) A (call (.builtin "min") [.ref l]) Q E s := by
  obtain ⟨xs, e⟩ := hi.allInts.items
  have hn : numsOf (intItems xs).toList = ns := by rw [← e]; exact hi.numsOf
  rw [nums_intItems] at hn
  subst hn
  rw [e] at hl
  have hsz : 0 < xs.size := by simpa using hne
  refine PySem.min_intTuple hh hl hsz fun v h' tk hv hk => ?_
  obtain ⟨t, rfl⟩ := intItems_at hv
  obtain ⟨h1, h2⟩ := argBest_lt (numAt xs) (xs.size - 1)
  refine h h' tk _ t hk ?_ fun a ha => ?_
  · rw [numAt_eq]; exact PySem.getD_mem (by rw [List.length_map, Array.length_toList]; omega)
  · obtain ⟨j, hj, rfl⟩ := mem_getD ha
    rw [List.length_map, Array.length_toList] at hj
    rw [← numAt_eq]; exact h2 j (by omega)
end
section
variable {X : Cx}
def SqY (K : PySem.W.Frag) (H : Hp) (a : Addr) (ns : List Int) : Prop := SqL K H a (ns.map V.int) ∨ SqT K H a (ns.map V.int)
def rMinY (K : PySem.W.Frag) : List V → Hp → VK → Prop := fun vs H Q => ∃ (a : Addr) (ns : List Int), vs = [V.ref a] ∧ SqY K H a ns ∧ 0 < ns.length ∧ ∀ m, m ∈ ns → (∀ y, y ∈ ns → m ≤ y) → Q (.int m) H
theorem cr_minY (hc : X.calm = true) : CallR X (.builtin "min") (rMinY X.K) := by
  intro pins s σ H vs us Q I r h
  obtain ⟨a, ns, rfl, hs | hs, hne, q⟩ := h
  · exact cr_min hc _ _ _ _ _ _ _ I r ⟨a, ns, rfl, hs, hne, q⟩
  · obtain ⟨its, rv, hl, _⟩ := I.tuple hs
    rw [Vals.ref1 r]
    exact minT_raw (I.ok.hd hc) hl rv.ints hne fun h' tk m t' hk h1 h2 => ⟨.int _, H, I.kept hk, ⟨_, rfl⟩, q m h1 h2⟩
end
section
variable {K : PySem.W.Frag}
def onIntsY (f : List Int → Option Int) (d : D) (c : Cs) : R D := match d with
  | .tup ds => match intsOf ds with
    | some ns => match f ns with
      | some k => .ok (.int k) c
      | none => .stuck
    | none => .stuck
  | d => onInts f d c
theorem cs_intsY {r : List V → Hp → VK → Prop} {f : List Int → Option Int} (h : ∀ (H : Hp) (a : Addr) (ns : List Int) (k : Int) (Q : VK), SqY K H a ns → f ns = some k → Q (.int k) H → r [.ref a] H Q) : CallS K r (on1 (onIntsY f)) := fun I H m c vs ds W Q R p A => by
  have p' := p
  have A0 := A
  obtain ⟨v, d, rfl, rfl, pd, A⟩ := on1_arg p A
  cases d with
  | tup xs =>
    have A : After (rD K) K I m H W Q (match intsOf xs with
      | some ns => match f ns with
        | some k => .ok (.int k) c
        | none => .stuck
      | none => .stuck) := A
    cases pd with
    | @tup a ws _ h1 h2 =>
      cases z : intsOf xs with
      | none => rw [z] at A; exact A.elim
      | some ns =>
        rw [z] at A
        have A : After (rD K) K I m H W Q (match f ns with
          | some k => .ok (.int k) c
          | none => .stuck) := A
        cases y : f ns with
        | none => rw [y] at A; exact A.elim
        | some k =>
          rw [y] at A
          have h1' : SqT K H a (ns.map V.int) := by
            have := sqT_same R.same h1
            rw [ints_reps h2 z] at this
            exact this
          exact h H a ns k Q (.inr h1') y (A.here R (.int k))
  | _ => exact cs_ints (K := K) (r := r) (f := f) (fun H a ns k Q e1 e2 q => h H a ns k Q (.inl (SqL.of e1)) e2 q) I H m c _ _ W Q R p' A0
def minY : List D → Cs → R D := on1 (onIntsY fun ns => ns.min?)
theorem cs_minY : CallS K (rMinY K) minY := cs_intsY fun H a ns k Q h e q => by
  obtain ⟨h1, h2⟩ := List.min?_eq_some_iff.mp e
  refine ⟨a, ns, rfl, h, List.length_pos_of_mem h1, fun m hm hb => ?_⟩
  have : m = k := Int.le_antisymm (hb k h1) (h2 m hm)
  rw [this]; exact q
end
end L2.Mi

/-! plain reasoning where exceptions are raised -/
namespace L2.Mi
open PySem PySem.Spec PyProof.Rows L2
def Xo {α : Type} (r : R α) (Q : α → Cs → Prop) (X : Ex → Cs → Prop) : Prop := match r with
  | .stuck => False
  | .ok a c => Q a c
  | .exc x c => X x c
def XS (r : RS) (Q : Fl → Cs → Prop) (X : Ex → Cs → Prop) : Prop := match r with
  | .stuck => False
  | .go f c => Q f c
  | .exc x _ c => X x c
section
variable {α β : Type} {X : Ex → Cs → Prop}
theorem OkS.xs {r : RS} {Q : Fl → Cs → Prop} (h : OkS r Q) : XS r Q X := by
  obtain ⟨a, c, rfl, h⟩ := h
  exact h
theorem Xo.bind {r : R α} {f : α → Cs → R β} {Q : β → Cs → Prop} (h : Xo r (fun a c => Xo (f a c) Q X) X) : Xo (r.bind f) Q X := by
  cases r <;> exact h
theorem Xo.mono {r : R α} {Q Q' : α → Cs → Prop} {X' : Ex → Cs → Prop} (h : Xo r Q X) (w : ∀ a c, Q a c → Q' a c) (wx : ∀ x c, X x c → X' x c) : Xo r Q' X' := by
  cases r with
  | stuck => exact h
  | ok a c => exact w a c h
  | exc x c => exact wx x c h
theorem Xo.of {r : R α} {Q : α → Cs → Prop} {a : α} {c : Cs} (e : r = .ok a c) (h : Q a c) : Xo r Q X := by rw [e]; exact h
theorem XS.seq {r : R α} {l : Ls} {f : α → Cs → RS} {Q : Fl → Cs → Prop} (h : Xo r (fun a c => XS (f a c) Q X) X) : XS (r.seq l f) Q X := by
  cases r <;> exact h
theorem XS.mono {r : RS} {Q Q' : Fl → Cs → Prop} {X' : Ex → Cs → Prop} (h : XS r Q X) (w : ∀ a c, Q a c → Q' a c) (wx : ∀ x c, X x c → X' x c) : XS r Q' X' := by
  cases r with
  | stuck => exact h
  | go a c => exact w a c h
  | exc x l c => exact wx x c h
theorem XS.next {r : RS} {g : Ls → Cs → RS} {Q : Fl → Cs → Prop} (h : XS r (fun f c => match f with
  | .nx l => XS (g l c) Q X
  | f => Q f c) X) : XS (r.next g) Q X := by
  cases r with
  | stuck => exact h
  | exc x l c => exact h
  | go f c => cases f <;> exact h
theorem Xo.fun {n a : Nat} {b : MS} {ds : List D} {c : Cs} {Q : D → Cs → Prop} (hl : ds.length = a) (h : XS (b (ds.map some ++ List.replicate (n - a) none) c) (fun f c => match f with
  | .rt d => Q d c
  | .nx _ => Q .non c
  | _ => False) X) : Xo (mFun n a b ds c) Q X := by
  unfold mFun
  rw [if_pos hl]
  revert h
  generalize b (ds.map some ++ List.replicate (n - a) none) c = r
  intro h
  cases r with
  | stuck => exact h
  | exc x l c => exact h
  | go f c => cases f <;> first | exact h | exact h.elim
end
section
variable {l : Ls} {c : Cs} {Q : D → Cs → Prop} {a b e o : ME} {t : MA} {QS : Fl → Cs → Prop} {X : Ex → Cs → Prop} {f g : MS}
end
end L2.Mi

/-! list(text) -/
namespace L2.Mi
open PySem PySem.Spec PyProof.Rows L2
section
variable {K : PySem.W.Frag} {I : Hp} {m : List Addr}
end
end L2.Mi

/-! x in xs, of data of any depth; slices of tuples -/
namespace L2.Mi
open PySem PySem.Spec PyProof.Rows L2
def seqP : PyData → Option (List PyData)
  | .list xs => some xs
  | .tuple xs => some xs
  | _ => none
def inOk (a : PyData) (xs : List PyData) : Bool := PyData.canLayAll0 xs && a.canLay0 && decide (a.depth ≤ 60)
def rInDx (neg : Bool) (K : PySem.W.Frag) : R2 := fun x y H Q => ∃ d e xs, Dx K H x d ∧ Dx K H y e ∧ seqP e = some xs ∧ inOk d xs = true ∧ Q (.bl (sgn neg (xs.any fun z => PyData.eqv z d))) H
theorem op_inDx {X : Cx} (hu : X.A.units + 64 < cLine) : OpR X (compareOp .In) (rInDx false X.K) := by
  intro pins s σ H x y v u Q I rx ry h
  obtain ⟨d, e, xs, hd, he, hs, ho, q⟩ := h
  obtain ⟨as, r1⟩ := (Dx.rx I hd rx).reads
  obtain ⟨bs, r2⟩ := (Dx.rx I he ry).reads
  simp only [inOk, Bool.and_eq_true, decide_eq_true_eq] at ho
  have hm : min (PyData.depthAll xs) d.depth ≤ 60 := Nat.le_trans (Nat.min_le_right _ _) ho.2
  cases e with
  | list ys =>
    cases hs
    exact SeqAt.in_list_reads r2 r1 ho.1.1 ho.1.2 (by omega) ⟨.bl _, H, I, rfl, q⟩
  | tuple ys =>
    cases hs
    exact SeqAt.in_tuple_reads r2 r1 ho.1.1 ho.1.2 (by omega) ⟨.bl _, H, I, rfl, q⟩
  | _ => cases hs
theorem op_notinDx {X : Cx} (hu : X.A.units + 64 < cLine) : OpR X (compareOp .NotIn) (rInDx true X.K) := by
  intro pins s σ H x y v u Q I rx ry h
  obtain ⟨d, e, xs, hd, he, hs, ho, q⟩ := h
  obtain ⟨as, r1⟩ := (Dx.rx I hd rx).reads
  obtain ⟨bs, r2⟩ := (Dx.rx I he ry).reads
  simp only [inOk, Bool.and_eq_true, decide_eq_true_eq] at ho
  have hm : min (PyData.depthAll xs) d.depth ≤ 60 := Nat.le_trans (Nat.min_le_right _ _) ho.2
  cases e with
  | list ys =>
    cases hs
    exact SeqAt.notIn_list_reads r2 r1 ho.1.1 ho.1.2 (by omega) ⟨.bl _, H, I, rfl, q⟩
  | tuple ys =>
    cases hs
    exact SeqAt.notIn_tuple_reads r2 r1 ho.1.1 ho.1.2 (by omega) ⟨.bl _, H, I, rfl, q⟩
  | _ => cases hs
def inQ (neg : Bool) (d e : D) (c : Cs) : R D := match toPyC 30 c d with
  | some a => match toPyC 30 c e with
    | some b => match seqP b with
      | some xs => if inOk a xs = true then .ok (.bl (sgn neg (xs.any fun z => PyData.eqv z a))) c else .stuck
      | none => .stuck
    | none => .stuck
  | none => .stuck
def inY (neg : Bool) (d e : D) (c : Cs) : R D := match inX neg d e c with
  | .stuck => inQ neg d e c
  | r => r
def rInY (K : PySem.W.Frag) (neg : Bool) : R2 := fun x y H Q => rInA K neg x y H Q ∨ rInDx neg K x y H Q
theorem op_inY {X : Cx} (hu : X.A.units + 64 < cLine) : OpR X (compareOp .In) (rInY X.K false) := op_inA.or (op_inDx hu)
theorem op_notinY {X : Cx} (hu : X.A.units + 64 < cLine) : OpR X (compareOp .NotIn) (rInY X.K true) := op_notinA.or (op_notinDx hu)
theorem os_inY {K : PySem.W.Frag} {neg : Bool} : OpS K (rInY K neg) (inY neg) := fun I H m c v1 v2 d1 d2 W Q R p1 p2 A => by
  unfold inY at A
  cases e : inX neg d1 d2 c with
  | ok a c' => rw [e] at A; exact .inl (os_inX I H m c v1 v2 d1 d2 W Q R p1 p2 (by rw [e]; exact A))
  | exc x c' => rw [e] at A; exact .inl (os_inX I H m c v1 v2 d1 d2 W Q R p1 p2 (by rw [e]; exact A))
  | stuck =>
    rw [e] at A
    have A : After (rD K) K I m H W Q (inQ neg d1 d2 c) := A
    unfold inQ at A
    cases q1 : toPyC 30 c d1 with
    | none => rw [q1] at A; exact A.elim
    | some a =>
      cases q2 : toPyC 30 c d2 with
      | none => rw [q1, q2] at A; exact A.elim
      | some b =>
        rw [q1, q2] at A
        cases q3 : seqP b with
        | none => simp only [q3] at A; exact A.elim
        | some xs =>
          simp only [q3] at A
          by_cases ho : inOk a xs = true
          · rw [if_pos ho] at A
            exact .inr ⟨a, b, xs, dx_of R 30 _ _ _ p1 q1, dx_of R 30 _ _ _ p2 q2, q3, ho, A.here R (.bl _)⟩
          · rw [if_neg ho] at A
            exact A.elim
def sliceY (d : D) (lo hi : Option Int) (c : Cs) : R D := match d with
  | .tup ds => if HT.sIx ds.length 0 lo = 0 ∧ HT.sIx ds.length ds.length hi = ds.length then .stuck else .ok (.tup (cutD ds lo hi)) c
  | d => sliceD d lo hi c
def mSliceY (a : ME) (lo hi : MO) : ME := fun l c => (a l c).bind fun x c1 => (lo l c1).bind fun i c2 => (hi l c2).bind fun j c3 => sliceY x i j c3
theorem me_sliceY {X : Cx} {W : WX} {e : Expr} {lo hi : Option Expr} {f : ME} {fl fh : MO} {p2 pos : Pos} (he : PE X e (rdE X.K W f)) (hl : PO X lo (rdO X.K W fl)) (hh : PO X hi (rdO X.K W fh)) :
    PE X (.Subscript e (.Slice lo hi none p2) pos) (rdE X.K W (mSliceY f fl fh)) := PEi (pe_slice (r := fun x lo hi H Q => rSlA X.K x lo hi H Q ∨ rSlT X.K x lo hi H Q) ((sl_list.or sl_str).or sl_tup) he hl hh) fun σ H Q ⟨I, m, l, c, R, L, A⟩ => by
  refine ⟨I, m, l, c, R, L, After.mono (After.bind (rep := rD X.K) A) fun v1 H1 ⟨I1, m1, c1, d1, E1, R1, p1, A1⟩ => ?_⟩
  refine ⟨I1, m1, l, c1, R1, L.ext E1, After.mono (After.bind (rep := rO) A1) fun v2 H2 ⟨I2, m2, c2, d2, E2, R2, p2, A2⟩ => ?_⟩
  refine ⟨I2, m2, l, c2, R2, (L.ext E1).ext E2, After.mono (After.bind (rep := rO) A2) fun v3 H3 ⟨I3, m3, c3, d3, E3, R3, p3, A3⟩ => ?_⟩
  cases (show v2 = d2 from p2)
  cases (show v3 = d3 from p3)
  have p := Rep.ext (Rep.ext p1 E2) E3
  have new : ∀ {a : Addr} {vs : List V} {ds : List D}, v1 = .ref a → SqL X.K H3 a vs → Reps X.K I3 m3 vs ds → After (rD X.K) X.K I3 m3 H3 (fun cls dd H' => W cls dd σ H') Q (.ok (.lst (cutD ds v2 v3)) c3) → rSlA X.K v1 v2 v3 H3 Q := fun {a vs ds} e h r A =>
    .inl ⟨a, vs, e, h, fun q nq => A.new R3 nq (.lst upd_same ((cut_reps v2 v3 r).mono (same_upd R3.same nq) (Pre.refl _)))⟩
  cases p with
  | lst h r => exact .inl (new rfl (SqL.of (R3.same _ _ h)) r A3)
  | @tup a vs ds h r =>
    have A4 : After (rD X.K) X.K I3 m3 H3 (fun cls dd H' => W cls dd σ H') Q (if HT.sIx ds.length 0 v2 = 0 ∧ HT.sIx ds.length ds.length v3 = ds.length then .stuck else .ok (.tup (cutD ds v2 v3)) c3) := A3
    by_cases hw : HT.sIx ds.length 0 v2 = 0 ∧ HT.sIx ds.length ds.length v3 = ds.length
    · rw [if_pos hw] at A4
      exact A4.elim
    · rw [if_neg hw] at A4
      refine .inr ⟨a, vs, rfl, sqT_same R3.same h, by rw [r.length]; exact hw, fun q nq => A4.new R3 nq (.tup (SqT.of upd_same) ((cut_reps v2 v3 r).mono (same_upd R3.same nq) (Pre.refl _)) (.inl upd_same))⟩
  | str s =>
    obtain ⟨z, A4⟩ := After.fits (show After (rD X.K) X.K I3 m3 H3 (fun cls dd H' => W cls dd σ H') Q (fits s.length (.ok (.str (cutS s v2 v3)) c3)) from A3)
    exact .inl (.inr ⟨s, rfl, z, A4.here R3 (.str _)⟩)
  | @ref k a h =>
    have A4 : After (rD X.K) X.K I3 m3 H3 (fun cls dd H' => W cls dd σ H') Q (match c3[k]? with
      | some (.lst ds) => .ok (.lst (cutD ds v2 v3)) c3
      | _ => .stuck) := A3
    cases q : c3[k]? with
    | none => rw [q] at A4; exact A4.elim
    | some x =>
      rw [q] at A4
      cases x with
      | lst ds =>
        obtain ⟨_, vs, h1, h2⟩ := R3.cell k a _ h q
        exact .inl (new rfl (SqL.of h1) h2 A4)
      | _ => exact A4.elim
  | _ => exact A3.elim

end L2.Mi

/-! sep.join(elt for x in list) where the element reads captured names -/
namespace L2.Gx
open PySem PySem.Spec PyProof.Rows L2
section
variable {X : Cx} {pins : List (Addr × Obj)} {σ : L2.St} {H : Hp} {s : Shared}
end
section
variable {X : Cx}
end
/-! ### the captured names -/
section
variable {X : Cx} {pins : List (Addr × Obj)} {σ : L2.St} {H1 : Hp} {s1 s₂ : Shared} {P : Addr} {scope : Scope} {cenv : Env}
end
end L2.Gx

/-! joins of generators over rows, as computations -/
namespace L2.Mi
open PySem PySem.Spec PyProof.Rows L2
section
variable {X : Cx} {W : WX}
/-- what is asked of a generator's scope, before anything runs -/
def genOk (sc scope : Scope) : Bool := scope.names.all fun y => !(y.2 == NameKind.cell) && (!(y.2 == NameKind.free) || sc.names.lookup y.1 == some NameKind.cell || sc.names.lookup y.1 == some NameKind.free)
structure GenK (env : Env) (scope : Scope) (x : Str) : Prop where
  kind : scope.kind = .function
  co : scope.isCoroutine = false
  dot : scope.names.lookup (".0" : Str) = some NameKind.local
  loc : scope.names.lookup x = some .local
  ok : genOk env.scope scope = true
theorem GenK.gen {scope : Scope} {x : Str} (G : GenK X.env scope x) (ok : X.Ok) : GxR.GenS X.env scope x := by
  have h := List.all_eq_true.mp G.ok
  refine ⟨G.kind, G.co, fun y hy e => ?_, G.dot, G.loc, fun y hy e => ?_⟩
  · have q := h y hy
    rw [e] at q
    cases q
  · have q := h y hy
    rw [e] at q
    have q : (X.env.scope.names.lookup y.1 == some NameKind.cell || X.env.scope.names.lookup y.1 == some NameKind.free) = true := q
    rcases Bool.or_eq_true_iff.mp q with q | q
    · exact ok.has y.1 (.inl (beq_iff_eq.mp q))
    · exact ok.has y.1 (.inr (beq_iff_eq.mp q))
end
end L2.Mi

/-! sorted of ints; joins of self.f[j][i] for i in a list -/
namespace L2.Mi
open PySem PySem.Spec PyProof.Rows L2
section
variable {K : PySem.W.Frag} {I : Hp} {m : List Addr}
end
/-! ### self.f[j][i] for i in a list -/
section
variable {X : Cx} {W : WX}
end
end L2.Mi

/-! comprehensions of two clauses -/
namespace L2.Mi
open PySem PySem.Spec PyProof.Rows L2
theorem Locs.mono {K : PySem.W.Frag} {I I1 : Hp} {m m1 : List Addr} {σ : St} {ls : Ls} (l : Locs K I m σ ls) (s : Same I I1) (p : Pre m m1) : Locs K I1 m1 σ ls :=
  ⟨l.len, fun i d h => let ⟨v, h1, h2⟩ := l.at_ i d h; ⟨v, h1, h2.mono s p⟩⟩
end L2.Mi

/-! expressions over a caught exception's field, in its own suite -/
namespace L2.Mi
open PySem PySem.Spec PyProof.Rows L2
section
variable {X : Cx} {W : WX} {e b : Expr} {rest : List Expr} {i : Nat} {a : Addr} {cls : Value} {d : Option Addr} {A B : Ex → ME} {pos p p2 : Pos} {n : Str} {ns : List Str}
end
end L2.Mi

/-! d[key] of a dict: a cell, or one that never changes -/
namespace L2.Mi
open PySem PySem.Spec PyProof.Rows L2
def getK (ds : List (Key × D)) (k : Key) : Option D := (ds.find? fun kv => decide (kv.1 = k)).map (·.2)
theorem RepK.get {K : PySem.W.Frag} {I : Hp} {m : List Addr} {k : Key} {d : D} : ∀ {vs : List (Key × V)} {ds : List (Key × D)}, RepK K I m vs ds → getK ds k = some d → ∃ v, valV vs k = some v ∧ Rep K I m v d
  | _, _, .nil, e => by cases e
  | _, _, .cons (k := k1) h t, e => by
    unfold getK at e
    unfold valV
    rw [List.find?_cons] at e ⊢
    by_cases hk : k1 = k
    · simp only [hk, decide_true] at e ⊢
      cases e
      exact ⟨_, rfl, h⟩
    · simp only [hk, decide_false] at e ⊢
      exact RepK.get t e
theorem u1 {A : Around} {k : Nat} (hr : Room k A) : A.units + 1 < cLine := by have := hr.un; omega
section
variable {X : Cx} {W : WX} {o i : Expr} {fo fi : ME} {pos : Pos}
end
end L2.Mi

/-! xs[lo:hi:step] of a list: a new list -/
namespace L2.Mi
open PySem PySem.Spec PyProof.Rows L2
def cut3 {α : Type} (xs : List α) (lo hi st : Option Int) : List α := (sliceRange (sliceBounds lo hi st xs.length).1 (sliceBounds lo hi st xs.length).2.1 (sliceBounds lo hi st xs.length).2.2).filterMap (xs[·]?)
theorem pick3 (its : List Value) (lo hi st : Option Int) : slicePick its.toArray lo hi st = (cut3 its lo hi st).toArray := by
  unfold slicePick cut3
  rw [List.size_toArray]
  congr 1
  refine congrArg (fun f => List.filterMap f _) (funext fun i => ?_)
  simp
theorem vals_pick {xs : List V} {its : List Value} (r : Vals xs its) : ∀ idx : List Nat, Vals (idx.filterMap (xs[·]?)) (idx.filterMap (its[·]?))
  | [] => .nil
  | i :: idx => by
    cases q : xs[i]? with
    | none =>
      rw [List.filterMap_cons_none q, List.filterMap_cons_none (r.none_of q)]
      exact vals_pick r idx
    | some x =>
      obtain ⟨u, q2, q3⟩ := r.get q
      rw [List.filterMap_cons_some q, List.filterMap_cons_some q2]
      exact .cons q3 (vals_pick r idx)
theorem reps_pick {K : PySem.W.Frag} {I : Hp} {m : List Addr} {vs : List V} {ds : List D} (r : Reps K I m vs ds) : ∀ idx : List Nat, Reps K I m (idx.filterMap (vs[·]?)) (idx.filterMap (ds[·]?))
  | [] => .nil
  | i :: idx => by
    cases q : ds[i]? with
    | none =>
      have q2 : vs[i]? = none := List.getElem?_eq_none_iff.mpr (by rw [r.length]; exact List.getElem?_eq_none_iff.mp q)
      rw [List.filterMap_cons_none q, List.filterMap_cons_none q2]
      exact reps_pick r idx
    | some x =>
      obtain ⟨u, q2, q3⟩ := r.get q
      rw [List.filterMap_cons_some q, List.filterMap_cons_some q2]
      exact .cons q3 (reps_pick r idx)
def tSl3 (K : PySem.W.Frag) (te : TE) (tl th tk : TO) : TE := fun σ H Q => te σ H fun x H1 => tl σ H1 fun l H2 => th σ H2 fun u H3 => tk σ H3 fun k H4 => ∃ a xs, x = .ref a ∧ SqL K H4 a xs ∧ k ≠ some 0 ∧ (cut3 xs l u k).length ≤ sizeLine ∧ ∀ p, H4 p = none → Q (.ref p) (upd H4 p (.lst (cut3 xs l u k)))
section
variable {X : Cx} {W : WX} {e : Expr} {lo hi st : Option Expr} {te : TE} {tl th tk : TO} {p2 pos : Pos}
theorem pe_slice3 {s0 : Expr} {ops : Value → Value → List Value} (hsl : ∀ ov iv, subscripted (.Slice lo hi (some s0) p2) false ov iv = operate (ops ov iv) (getItem ov iv)) (he : PE X e te) (hl : PO X lo tl) (hu : PO X hi th) (hk : PO X (some s0) tk) : PE X (.Subscript e (.Slice lo hi (some s0) p2) pos) (tSl3 X.K te tl th tk) := by
  refine ⟨fun pins s σ H Q I h => ?_⟩
  refine Subscript_ (thn (he.run pins s σ H _ I h) fun v s1 ⟨x, H1, I1, r1, q1⟩ => ?_)
  refine wpAny_Slice (thn (hl.run pins s1 σ H1 _ I1 q1) fun vl s2 ⟨l, H2, I2, pl, q2⟩ => thn (hu.run pins s2 σ H2 _ I2 q2) fun vu s3 ⟨u, H3, I3, pu, q3⟩ => thn (hk.run pins s3 σ H3 _ I3 q3) fun vk s4 ⟨k, H4, I4, pk, a, xs, ex, hx, k0, hz, q⟩ => ?_)
  subst ex
  obtain rfl : v = Value.ref a := r1
  have I5 : Inv X pins σ H4 { s4 with heap := s4.heap.push { cls := .type "slice", data := .fields #[vl, vu, vk] } } := I4.kept (t' := s4.toks) fun b ob q => Heap.get?_push_of_some _ q
  obtain ⟨its, r, ht, hz2⟩ := I5.list hx
  show wpAny (model X.prog X.w) X.A (subscriptTail e (.Slice lo hi (some s0) p2) (.ref a) (.ref s4.heap.objs.size)) (EP X pins σ Q) X.xe { s4 with heap := s4.heap.push { cls := .type "slice", data := .fields #[vl, vu, vk] } }
  refine tail_any (ops := ops (.ref a) (.ref s4.heap.objs.size)) (T := "list") ht.isList.typeIs slot_list_getitem.lookup ?_ (hsl _ _)
  have hlen := r.length
  refine wpAny_getItem_list_slice ht.isList (Heap.IsSliceOf.new ..) pl pu pk k0 ?_ (by rw [List.size_toArray]; omega)
  rw [pick3]
  have rr : Vals (cut3 xs l u k) (cut3 its l u k) := by
    unfold cut3
    rw [hlen]
    exact vals_pick r _
  refine ⟨.ref (s4.heap.push { cls := .type "slice", data := .fields #[vl, vu, vk] }).objs.size, _, I5.laid (t' := s4.toks) (o := .lst (cut3 xs l u k)) (fun b ob q => Heap.get?_push_of_some _ q) (Nat.le_refl _) ?_, rfl, q _ (I5.hok.fresh (Nat.le_refl _))⟩
  exact ⟨hz, _, 0, rr, Heap.get?_push_size _ rfl⟩
def sl3 (x : D) (i j k : Option Int) (c : Cs) : R D := match lstC x c with
  | some ds => if k ≠ some 0 ∧ (cut3 ds i j k).length ≤ sizeLine then .ok (.lst (cut3 ds i j k)) c else .stuck
  | none => .stuck
def mSl3 (a : ME) (lo hi st : MO) : ME := fun l c => (a l c).bind fun x c1 => (lo l c1).bind fun i c2 => (hi l c2).bind fun j c3 => (st l c3).bind fun k c4 => sl3 x i j k c4
theorem me_slice3 {s0 : Expr} {ops : Value → Value → List Value} {f : ME} {fl fh fk : MO} (hsl : ∀ ov iv, subscripted (.Slice lo hi (some s0) p2) false ov iv = operate (ops ov iv) (getItem ov iv)) (he : PE X e (rdE X.K W f)) (hl : PO X lo (rdO X.K W fl)) (hh : PO X hi (rdO X.K W fh)) (hk : PO X (some s0) (rdO X.K W fk)) :
    PE X (.Subscript e (.Slice lo hi (some s0) p2) pos) (rdE X.K W (mSl3 f fl fh fk)) := PEi (pe_slice3 hsl he hl hh hk) fun σ H Q ⟨I, m, l, c, R, L, A⟩ => by
  refine ⟨I, m, l, c, R, L, After.mono (After.bind (rep := rD X.K) A) fun v1 H1 ⟨I1, m1, c1, d1, E1, R1, p1, A1⟩ => ?_⟩
  refine ⟨I1, m1, l, c1, R1, L.ext E1, After.mono (After.bind (rep := rO) A1) fun v2 H2 ⟨I2, m2, c2, d2, E2, R2, p2, A2⟩ => ?_⟩
  refine ⟨I2, m2, l, c2, R2, (L.ext E1).ext E2, After.mono (After.bind (rep := rO) A2) fun v3 H3 ⟨I3, m3, c3, d3, E3, R3, p3, A3⟩ => ?_⟩
  refine ⟨I3, m3, l, c3, R3, ((L.ext E1).ext E2).ext E3, After.mono (After.bind (rep := rO) A3) fun v4 H4 ⟨I4, m4, c4, d4, E4, R4, p4, A4⟩ => ?_⟩
  cases (show v2 = d2 from p2)
  cases (show v3 = d3 from p3)
  cases (show v4 = d4 from p4)
  have p := Rep.ext (Rep.ext (Rep.ext p1 E2) E3) E4
  have A4 : After (rD X.K) X.K I4 m4 H4 (fun cls dd H' => W cls dd σ H') Q (match lstC d1 c4 with
    | some ds => if v4 ≠ some 0 ∧ (cut3 ds v2 v3 v4).length ≤ sizeLine then .ok (.lst (cut3 ds v2 v3 v4)) c4 else .stuck
    | none => .stuck) := A4
  cases q : lstC d1 c4 with
  | none => rw [q] at A4; exact A4.elim
  | some ds =>
    rw [q] at A4
    have A4 : After (rD X.K) X.K I4 m4 H4 (fun cls dd H' => W cls dd σ H') Q (if v4 ≠ some 0 ∧ (cut3 ds v2 v3 v4).length ≤ sizeLine then .ok (.lst (cut3 ds v2 v3 v4)) c4 else .stuck) := A4
    by_cases hz : v4 ≠ some 0 ∧ (cut3 ds v2 v3 v4).length ≤ sizeLine
    · rw [if_pos hz] at A4
      obtain ⟨a, vs, rfl, h1, h2⟩ := lstC_at R4 p q
      have hl2 := h2.length
      have rr : Reps X.K I4 m4 (cut3 vs v2 v3 v4) (cut3 ds v2 v3 v4) := by
        unfold cut3
        rw [hl2]
        exact reps_pick h2 _
      refine ⟨a, vs, rfl, SqL.of h1, hz.1, by rw [rr.length]; exact hz.2, fun q nq => A4.new R4 nq (.lst upd_same (rr.mono (same_upd R4.same nq) (Pre.refl _)))⟩
    · rw [if_neg hz] at A4; exact A4.elim
end
theorem cut3_rev {α : Type} (xs : List α) : cut3 xs none none (some (-1)) = xs.reverse := by
  unfold cut3
  rw [PySem.W.krv_bounds]
  show (sliceRange ((xs.length : Int) - 1) (-1) (-1)).filterMap (xs[·]?) = _
  rw [PySem.W.krv_sliceRange, PySem.W.krv_range, List.filterMap_reverse]
  congr 1
  have := PySem.W.krv_all xs.toArray
  rw [List.size_toArray] at this
  refine Eq.trans (congrArg (fun f => List.filterMap f _) (funext fun i => ?_)) this
  simp
end L2.Mi

/-! x += e, x -= e of numbers and texts -/
namespace L2.Mi
open PySem PySem.Spec PyProof.Rows L2
def augA : D → D → Cs → R D
  | .int i, .int j, c => .ok (.int (i + j)) c
  | .str s, .str t, c => fits (s.length + t.length) (.ok (.str (s ++ t)) c)
  | _, _, _ => .stuck
def rAugA : R2 := fun x y H Q => (∃ i j, x = .int i ∧ y = .int j ∧ Q (.int (i + j)) H) ∨ ∃ i j, x = .str i ∧ y = .str j ∧ i.length + j.length ≤ sizeLine ∧ Q (.str (i ++ j)) H
theorem ip_augA {X : Cx} : PIp X .Add rAugA := fun pins s σ H x y v u Q I rx ry h => by
  rcases h with h | h
  · exact ip_add pins s σ H x y v u Q I rx ry h
  · exact iop_add_str pins s σ H x y v u Q I rx ry h
theorem os_augA {K : PySem.W.Frag} : OpS K rAugA augA := fun I H m c v1 v2 d1 d2 W Q R p1 p2 A => by
  cases p1 with
  | int i =>
    cases p2 with
    | int j => exact .inl ⟨i, j, rfl, rfl, After.here A R (.int _)⟩
    | _ => exact A.elim
  | str i =>
    cases p2 with
    | str j =>
      obtain ⟨z, A2⟩ := After.fits (show After (rD K) K I m H W Q (fits (i.length + j.length) (.ok (.str (i ++ j)) c)) from A)
      exact .inr ⟨i, j, rfl, rfl, z, A2.here R (.str _)⟩
    | _ => exact A.elim
  | _ => cases p2 <;> exact A.elim
def sAug (i : Nat) (g : D → D → Cs → R D) (a : ME) : MS := fun l c => match l[i]? with
  | some (some x) => (a l c).seq l fun y c1 => (g x y c1).seq l fun z c2 => .go (.nx (l.set i (some z))) c2
  | _ => .stuck
theorem ms_aug {X : Cx} {W : WX} {i : Nat} {x : Str} {e : Expr} {fe : ME} {op : Operator} {ti : TIp} {g : D → D → Cs → R D} {pos pos' : Pos} (hN : X.N.Nodup) (hi : X.N[i]? = some x) (hx : Loc X.env.scope x) (ho : PIp X op ti) (hs : OpS X.K ti g) (he : PE X e (rdE X.K W fe))
    (hf : X.fn x = true ∨ X.env.scope.names.lookup x = some .local := by first | exact .inl rfl | exact .inr rfl | assumption) : PS X (.AugAssign (.Name x pos') op e pos) (rdS X.K W (sAug i g fe)) :=
  PSi (ps_aug hN hi hx he ho hf) fun D σ H ⟨I, m, l, c, R, L, A⟩ => by
    have A : AfterS X.K I m H W D (match l[i]? with
      | some (some x) => (fe l c).seq l fun y c1 => (g x y c1).seq l fun z c2 => .go (.nx (l.set i (some z))) c2
      | _ => .stuck) := A
    cases q : l[i]? with
    | none => rw [q] at A; exact A.elim
    | some o =>
      cases o with
      | none => rw [q] at A; exact A.elim
      | some d =>
        rw [q] at A
        obtain ⟨v, h1, h2⟩ := L.at_ i d q
        refine ⟨v, h1, ⟨I, m, l, c, R, L, After.mono (AfterS.seq (rep := rD X.K) L A) fun v1 H1 ⟨I1, m1, c1, d1, E1, R1, p1, A1⟩ => ?_⟩⟩
        exact hs _ _ _ _ _ _ _ _ _ _ R1 (h2.ext E1) p1 (After.mono (AfterS.seq (rep := rD X.K) (L.ext E1) A1) fun v2 H2 ⟨I2, m2, c2, d2, E2, R2, p2, A2⟩ => A2 I2 m2 H2 _ (Ext.refl _ _ _) R2 (((L.ext E1).ext E2).set i p2))
end L2.Mi

/-! xs.extend(ys) -/
namespace L2.Mi
open PySem PySem.Spec PyProof.Rows L2
end L2.Mi

/-! {k: v for x in xs if ..}: a new cell -/
namespace L2.Mi
open PySem PySem.Spec PyProof.Rows L2
section
variable {X : Cx} {fa : ME}
end
end L2.Mi

/-! the signs of a shown value -/
namespace L2.Mi
open PySem PySem.Spec PyProof.Rows L2 PySem.StrLaws PySem.Builtin.Str
def CpOk (s : Str) : Prop := ∀ k ∈ s.cps.toList, k < 1114112
theorem cpok_app {a b : Str} (ha : CpOk a) (hb : CpOk b) : CpOk (a ++ b) := fun k hk => by
  rcases mem_cps_append.mp hk with h | h
  · exact ha k h
  · exact hb k h
theorem char_cp (c : Char) : c.toNat < 1114112 := by
  have := c.valid
  unfold UInt32.isValidChar Nat.isValidChar at this
  show c.val.toNat < 1114112
  omega
theorem cpok_of (s : String) : CpOk (Str.ofString s) := fun k hk => by
  rw [signs_ofString] at hk
  obtain ⟨c, _, rfl⟩ := List.mem_map.mp hk
  exact char_cp c
theorem hex_cp {n : Nat} {l : List Char} : ∀ k ∈ List.replicate n 48 ++ l.map Char.toNat, k < 1114112 := fun k hk => by
  rcases List.mem_append.mp hk with h | h
  · rw [(List.mem_replicate.mp h).2]; decide
  · obtain ⟨c, _, rfl⟩ := List.mem_map.mp h
    exact char_cp c
theorem two_cp {a b : Nat} (ha : a < 1114112) (hb : b < 1114112) : ∀ k ∈ [a, b], k < 1114112 := fun k hk => by
  simp only [List.mem_cons, List.not_mem_nil, or_false] at hk
  rcases hk with rfl | rfl
  · exact ha
  · exact hb
theorem reprChar_cp {q c : Nat} (hc : c < 1114112) : ∀ k ∈ reprChar q c, k < 1114112 := by
  have ap : ∀ {a b : Nat} {l : List Nat}, a < 1114112 → b < 1114112 → (∀ k ∈ l, k < 1114112) → ∀ k ∈ [a, b] ++ l, k < 1114112 := fun ha hb hl k hk => by
    rcases List.mem_append.mp hk with h | h
    · exact two_cp ha hb k h
    · exact hl k h
  unfold reprChar
  dsimp only
  repeat' split
  · exact two_cp (by decide) hc
  · exact two_cp (by decide) (by decide)
  · exact two_cp (by decide) (by decide)
  · exact two_cp (by decide) (by decide)
  · intro k hk; rw [List.mem_singleton.mp hk]; exact hc
  · exact ap (by decide) (by decide) hex_cp
  · exact ap (by decide) (by decide) hex_cp
  · exact ap (by decide) (by decide) hex_cp
theorem foldl_repr_cp {q : Nat} : ∀ (l : List Nat) (acc : Array Nat), (∀ c ∈ l, c < 1114112) → (∀ k ∈ acc.toList, k < 1114112) → ∀ k ∈ (l.foldl (fun out c => out ++ (reprChar q c).toArray) acc).toList, k < 1114112
  | [], acc, _, h => h
  | c :: r, acc, h, ha => by
    simp only [List.foldl_cons]
    refine foldl_repr_cp r _ (fun d hd => h d (List.mem_cons_of_mem _ hd)) fun k hk => ?_
    rw [Array.toList_append] at hk
    rcases List.mem_append.mp hk with z | z
    · exact ha k z
    · exact reprChar_cp (h c List.mem_cons_self) k z
theorem reprText_cp {x : Str} (hx : CpOk x) : CpOk (reprText x) := fun k hk => by
  have hq : reprQuote x < 1114112 := by unfold reprQuote; split <;> decide
  have hk : k ∈ ((x.cps.foldl (fun out c => out ++ (reprChar (reprQuote x) c).toArray) #[reprQuote x]).push (reprQuote x)).toList := hk
  rw [Array.toList_push, ← Array.foldl_toList] at hk
  rcases List.mem_append.mp hk with z | z
  · refine foldl_repr_cp _ _ hx (fun k hk => ?_) k z
    rw [show (#[reprQuote x] : Array Nat).toList = [reprQuote x] from rfl, List.mem_singleton] at hk
    rw [hk]; exact hq
  · rw [List.mem_singleton.mp z]; exact hq
theorem textFrom_cp : ∀ (ts : List Str) (k : Nat) (acc : Str), CpOk acc → (∀ t ∈ ts, CpOk t) → CpOk (textFrom k acc ts)
  | [], _, _, h, _ => h
  | t :: ts, k, acc, h, h2 => textFrom_cp ts (k + 1) _ (cpok_app (cpok_app h (by split <;> exact cpok_of _)) (h2 t List.mem_cons_self)) fun u hu => h2 u (List.mem_cons_of_mem _ hu)
theorem join_cp {sep : Str} {ts : List Str} (hs : CpOk sep) (h : ∀ t ∈ ts, CpOk t) : CpOk (Str.join sep ts) := fun k hk => by
  rcases (mem_join sep k ts).mp hk with ⟨t, ht, hk⟩ | ⟨_, hk⟩
  · exact h t ht k hk
  · exact hs k hk
mutual
theorem shown_cp : ∀ p : PyData, bP p = true → CpOk p.shown
  | .none, _ => cpok_of _
  | .bool b, _ => by cases b <;> exact cpok_of _
  | .int i, _ => cpok_of _
  | .str s, h => reprText_cp fun k hk => of_decide_eq_true (List.all_eq_true.mp (show (s.cps.toList.all fun k => decide (k < 1114112)) = true from h) k hk)
  | .list xs, h => cpok_app (textFrom_cp _ _ _ (cpok_of _) (shownAll_cp xs h)) (cpok_of _)
  | .tuple xs, h => cpok_app (cpok_app (cpok_of _) (join_cp (cpok_of _) (shownAll_cp xs h))) (by split <;> exact cpok_of _)
  | .dict kvs, h => cpok_app (cpok_app (cpok_of _) (join_cp (cpok_of _) (shownKv_cp kvs h))) (cpok_of _)
theorem shownAll_cp : ∀ ps : List PyData, bPs ps = true → ∀ t ∈ PyData.shownAll ps, CpOk t
  | [], _, t, ht => nomatch ht
  | p :: ps, h, t, ht => by
    simp only [bPs, Bool.and_eq_true] at h
    rcases List.mem_cons.mp ht with rfl | ht
    · exact shown_cp p h.1
    · exact shownAll_cp ps h.2 t ht
theorem shownKv_cp : ∀ ps : List (PyData × PyData), bPk ps = true → ∀ t ∈ PyData.shownKv ps, CpOk t
  | [], _, t, ht => nomatch ht
  | (k, v) :: ps, h, t, ht => by
    simp only [bPk, Bool.and_eq_true] at h
    rcases List.mem_cons.mp ht with rfl | ht
    · exact cpok_app (cpok_app (shown_cp k h.1.1) (cpok_of _)) (shown_cp v h.1.2)
    · exact shownKv_cp ps h.2 t ht
end
end L2.Mi

namespace L2.Mi
open PySem PySem.Spec PyProof.Rows L2
/-! plain reasoning, third part: what the walker uses -/
theorem ok_sl3 {a : ME} {lo hi st : MO} {l : Ls} {c : Cs} {Q : D → Cs → Prop} (h : Ok (a l c) fun x c1 => Ok (lo l c1) fun i c2 => Ok (hi l c2) fun j c3 => Ok (st l c3) fun k c4 => Ok (sl3 x i j k c4) Q) : Ok (mSl3 a lo hi st l c) Q :=
  Ok.bind (h.mono fun _ _ h => Ok.bind (h.mono fun _ _ h => Ok.bind (h.mono fun _ _ h => Ok.bind h)))
theorem ok_slY {a : ME} {lo hi : MO} {l : Ls} {c : Cs} {Q : D → Cs → Prop} (h : Ok (a l c) fun x c1 => Ok (lo l c1) fun i c2 => Ok (hi l c2) fun j c3 => Ok (sliceY x i j c3) Q) : Ok (mSliceY a lo hi l c) Q :=
  Ok.bind (h.mono fun _ _ h => Ok.bind (h.mono fun _ _ h => Ok.bind h))
theorem ok_len_map {α : Type} {f : α → D} {xs : List α} {c : Cs} {Q : D → Cs → Prop} (q : Q (.int xs.length) c) : Ok (lenD [.lst (xs.map f)] c) Q :=
  Ok.of (show lenD [.lst (xs.map f)] c = .ok (.int xs.length) c by
    show R.ok (D.int ((xs.map f).length : Nat)) c = _
    rw [List.length_map]) q
section
variable {α : Type} {g : MG} {t : MT} {a e : ME} {js : List Nat} {l : Ls} {c : Cs} {Q : D → Cs → Prop}
end
end L2.Mi

/-! lambdas of one parameter that their bodies do not read, handed to a def that calls them -/
namespace LamY
open PySem PySem.Spec PyProof.Rows L2 LamX
/-- one parameter; captured names and globals -/
structure LamS1 (sc scope : Scope) (par : Str) : Prop where
  kind : scope.kind = .function
  co : scope.isCoroutine = false
  gen : scope.isGenerator = false
  parl : scope.names.lookup par = some .local
  own : ∀ y ∈ scope.names, (y.2 = .local → y.1 = par) ∧ y.2 ≠ .cell
  free : ∀ y ∈ scope.names, y.2 = .free → sc.names.lookup y.1 = some .cell ∨ sc.names.lookup y.1 = some .free
theorem LamS1.has {X : Cx} {scope : Scope} {par : Str} (L : LamS1 X.env.scope scope par) (ok : X.Ok) : ∀ y ∈ scope.names, y.2 = .free → ∃ c, X.env.cells.lookup y.1 = some c := fun y hy e => by
  rcases L.free y hy e with k | k
  · exact ok.has _ (.inl k)
  · exact ok.has _ (.inr k)
section
variable {X : Cx} {pins : List (Addr × Obj)} {σ : L2.St} {H HZ : Hp} {s s1 : Shared}
end
end LamY
namespace L2.Mi
open PySem PySem.Spec PyProof.Rows L2 LamX LamY
section
variable {K : PySem.W.Frag} {I H H1 : Hp} {m : List Addr} {c : Cs}
theorem Locs.up {I' : Hp} {m' : List Addr} {σ : St} {l : Ls} (L : Locs K I m σ l) (s : Same I I') (p : Pre m m') : Locs K I' m' σ l := ⟨L.len, fun i d h => let ⟨v, h1, h2⟩ := L.at_ i d h; ⟨v, h1, h2.mono s p⟩⟩
end
/-- a def that calls the lambda it gets -/
structure LamFn (P : Program) (w : World) (K : PySem.W.Frag) (mg : Str → Option Value) (base : Heap) (k : Nat) (f : Addr) (x : Str) (st : Stmt) (N : List Str) (a : Str) (b : ME → MS) : Prop where
  run : ∀ (cdv : Value) (A : Around) (outer : List Env) (s : Shared) (H : Hp) (E : XK), Room k (A.deeper (envOfC x (defScope st) s.heap.objs.size f cdv)) → A.guards = some [] → ∀ act : ME,
    (∀ (W : WX) (pn : List (Addr × Obj)) (xe : Value → Shared → Prop), Takes ((cxOf (CX P w) P w K mg base N x (defScope st) f cdv A outer s H E).tr pn xe) W → ∀ p1 p2 j p3,
      PE ((cxOf (CX P w) P w K mg base N x (defScope st) f cdv A outer s H E).tr pn xe) (.Call (.Name a p1) [.Constant (.int 0) j p3] [] p2) (rdE K W act)) →
    PSs (cxOf (CX P w) P w K mg base N x (defScope st) f cdv A outer s H E) (defBody st) (rdS K (fun cls d _ H' => E cls d H') (b act))
theorem LamFn.mono {P : Program} {w : World} {K : PySem.W.Frag} {mg : Str → Option Value} {base : Heap} {j k : Nat} {f : Addr} {x : Str} {st : Stmt} {N : List Str} {a : Str} {b : ME → MS} (F : LamFn P w K mg base j f x st N a b) (h : j ≤ k) : LamFn P w K mg base k f x st N a b :=
  ⟨fun cdv A outer s H E hr => F.run cdv A outer s H E (hr.mono h)⟩
/-! the outcome does not lie on the locals -/
end L2.Mi

/-! (a dict,) == (a text,) -/
namespace L2.Mi
open PySem PySem.Spec PyProof.Rows L2 PySem.SeqAt PySem.AutoSeq1
section
variable {K : PySem.W.Frag}
end
/-! slices of tuples, the whole too -/
end L2.Mi

/-! own == within an except suite -/
namespace L2.Mi
open PySem PySem.Spec PyProof.Rows L2
theorem _root_.L2H.RoomH.units {k : Nat} {A : Around} (r : L2H.RoomH k A) : A.units + 64 < cLine := by have := r.un; omega
/-- the def at f does what g says, also where an exception is handled; it raises none -/
structure HFn (P : Program) (w : World) (K : PySem.W.Frag) (mg : Str → Option Value) (base : Heap) (k : Nat) (f : Addr) (fd : FuncData) (ps : List Str) (g : List D → Cs → R D) : Prop where
  len : ∀ ds c, g ds c ≠ .stuck → ds.length = ps.length
  run : ∀ (A : Around) (outer : List Env) (s : Shared) (H : Hp) (args : Args) (us : List Value) (vs : List V) (Q : VK) (E : XK) (I : Hp) (m : List Addr) (c : Cs) (ds : List D) (q : Addr × Obj), L2H.RoomH k A → L2H.PinOk outer H s q → A.guards = some [] → Env0 P w K mg base A outer s H →
    BindsTo s fd args (ps.zip us) → Vals vs us → Rel K I H m c → Reps K I m vs ds → After (rD K) K I m H E Q (g ds c) → codeAny (model P w) A (.call (.ref f) args) (CR (CX P w) outer P w H s Q E) s
theorem HFn.mono {P : Program} {w : World} {K : PySem.W.Frag} {mg : Str → Option Value} {base : Heap} {j k : Nat} {f : Addr} {fd : FuncData} {ps : List Str} {g : List D → Cs → R D} (F : HFn P w K mg base j f fd ps g) (h : j ≤ k) : HFn P w K mg base k f fd ps g :=
  ⟨F.len, fun A outer s H args us vs Q E I m c ds q hr => F.run A outer s H args us vs Q E I m c ds q (hr.mono h)⟩
section
variable {X : Cx} {W : WX} {k : Nat} {tbl : Tbl} {mm : Str} {g0 : D → D → Cs → R D}
end
end L2.Mi

/-! plain reasoning, fourth part: comprehensions of two clauses -/
namespace L2.Mi
open PySem PySem.Spec PyProof.Rows L2
section
variable {α β : Type} {g g1 : MG} {t t1 : MT} {e : ME} {it it1 : MK} {js js1 : List Nat} {l lw : Ls} {c : Cs} {Q : D → Cs → Prop}
/-- a range's walk -/
theorem ok_kr {m : MA} {n : Nat} (h : Ok (m l c) fun xs c1 => c1 = c ∧ xs = [.int (n : Int)]) (hn : n ≤ 1000000) : Ok (kFix (iR1 m) l c) fun w c1 => c1 = c ∧ ∀ i, i ≤ (List.range n).length → w i c = some ((List.range n).map fun i => D.int (i : Nat))[i]? :=
  ok_kr1 h hn ⟨rfl, fun _ _ => rfl⟩
end
end L2.Mi

/-! for .. else -/
namespace L2.Mi
open PySem PySem.Spec PyProof.Rows L2
/-- while, by a measure -/
theorem os_while {t : MT} {f : MS} {Q : Fl → Cs → Prop} (P : Nat → Ls → Cs → Prop)
    (h : ∀ k l c, P k l c → Ok (t l c) fun b c1 => (b = true → OkS (f l c1) fun fl c2 => match fl with
      | .nx l2 => ∃ j, j < k ∧ P j l2 c2
      | .ct l2 => ∃ j, j < k ∧ P j l2 c2
      | .bk l2 => Q (.nx l2) c2
      | .rt d => Q (.rt d) c2) ∧ (b = false → Q (.nx l) c1)) : ∀ (n k : Nat) (l : Ls) (c : Cs), k < n → P k l c → OkS (whileD t f n l c) Q
  | 0, k, l, c, hn, p => absurd hn (by omega)
  | n + 1, k, l, c, hn, p => by
    obtain ⟨b, c1, e1, h1, h2⟩ := h k l c p
    unfold whileD
    rw [e1]
    simp only [R.seq_ok]
    cases b with
    | false => exact ⟨_, _, rfl, h2 rfl⟩
    | true =>
      obtain ⟨fl, c2, e2, q⟩ := h1 rfl
      simp only [e2]
      cases fl with
      | nx l2 =>
        obtain ⟨j, hj, pj⟩ := q
        exact os_while P h n j l2 c2 (by omega) pj
      | ct l2 =>
        obtain ⟨j, hj, pj⟩ := q
        exact os_while P h n j l2 c2 (by omega) pj
      | bk l2 => exact ⟨_, _, rfl, q⟩
      | rt d => exact ⟨_, _, rfl, q⟩
end L2.Mi

/-! an instance called -/
namespace L2.Mi
open PySem PySem.Spec PyProof.Rows L2 StX
section
variable {X : Cx} {W : WX} {fe e : Expr} {es : List Expr} {fo : ME} {ga : MA} {pos : Pos} {k : Nat} {tbl : Tbl}
end
end L2.Mi

namespace ScI
open PySem PySem.Spec PyProof.Rows L2 PpSet
section
variable {X : Cx}
end
end ScI
namespace ScI
open PySem
open Sem (wp)
open AutoSeq1 (wpAny_loadPart')
section
variable {prog : Program} {w : World} {A : Around} {E : Value → Shared → Prop} {s : Shared}
end
end ScI
namespace L2.Mi
open PySem PySem.Spec PyProof.Rows L2 PpSet ScI
/-! ### the members of a list of whole numbers, ascending -/
/-! ### whole numbers in a list, a tuple, a cell -/
section
variable {X : Cx} {W : WX}
/-! sorted(e) -/
/-! len(set(e)) -/
end
/-! sorted({x for x in e}) -/
section
variable {X : Cx} {W : WX}
end
end L2.Mi

/-! x == y, x != y by an own == where y may be an instance of another class -/
namespace L2.Mi
open PySem PySem.Spec PyProof.Rows L2
section
variable {X : Cx} {W : WX} {k : Nat} {tbl : Tbl} {g0 : D → D → Cs → R D} {ns : List Str}
end
/-! plain -/
section
variable {c : Cs} {x y : D} {Q : D → Cs → Prop} {n : Str} {g : List D → Cs → R D} {g0 : D → D → Cs → R D} {fs : List (Str × D)} {ns : List Str}
end
end L2.Mi

/-! zip(*rows) over texts of one length, as many as eight -/
namespace L2.Mi
open PySem PySem.Spec PyProof.Rows L2

abbrev IsTup (h : Heap) (T : Addr) (xs : Array Value) : Prop := h.get? T = some { cls := .type "tuple", data := .seq xs }
/-- text iterators: each stands where it stands -/
def ItsAt (h : Heap) (its : List Addr) (zs : List Str) (f : Nat → Nat) : Prop :=
  ∀ (j : Nat) (it : Addr) (z : Str), its[j]? = some it → zs[j]? = some z → ∃ t, h.IsStrIter it (strIterType z) z t (f j)
section
variable {M : Model} {A : Around} {E : Value → Shared → Prop} {β : Type}
end

section
variable {prog : Program} {w : World} {A : Around} {E : Value → Shared → Prop}
theorem IsStrIter_at {h h' : Heap} {it : Addr} {ty : String} {z : Str} {t : Tok} {i : Nat} (st : h.IsStrIter it ty z t i) (k : ∀ o, h.get? it = some o → h'.get? it = some o) : h'.IsStrIter it ty z t i := by
  obtain ⟨o, h1, h2⟩ := st; exact ⟨o, k o h1, h2⟩
theorem ItsAt.at {h h' : Heap} {its : List Addr} {zs : List Str} {f : Nat → Nat} (st : ItsAt h its zs f) (k : ∀ it ∈ its, ∀ o, h.get? it = some o → h'.get? it = some o) : ItsAt h' its zs f := fun j it z e1 e2 => by
  obtain ⟨t, st⟩ := st j it z e1 e2
  exact ⟨t, IsStrIter_at st (k it (List.mem_of_getElem? e1))⟩
end
/-! ### the walk -/
/-! ### over plain values -/
/-! ### list(d) of a dict: its keys -/
end L2.Mi

/-! zip of three over lists, tuples, texts in any mix; the target is a tuple -/
namespace L2.Mi
open PySem PySem.Spec PyProof.Rows L2
end L2.Mi

/-! [f, g, ..][i](x, ..): a def chosen by index -/
namespace L2.Mi
open PySem PySem.Spec PyProof.Rows L2
section
variable {X : Cx} {W : WX} {e : Expr} {es : List Expr} {fe : Expr} {fi : ME} {ga gt : MA} {pos : Pos}
end
/-! ### three names as a comprehension's target -/
end L2.Mi

/-! lambdas that are kept in a list and called by a comprehension -/
namespace LamZ
open PySem PySem.Spec PyProof.Rows L2 LamX LamY
section
variable {X : Cx} {pins : List (Addr × Obj)} {σ : L2.St} {H HZ : Hp} {s s1 : Shared}
end
end LamZ
namespace LamZ
open PySem PySem.Spec PyProof.Rows L2 LamX LamY
section
variable {X : Cx} {pins : List (Addr × Obj)} {σ : L2.St} {elt tg iter : Expr} {ifs : List Expr} {scope : Scope} {own : List (Str × Nat)} {pos : Pos} {g : TG} {tt : TT} {te : TE} {Q : VK}
end
end LamZ
namespace L2.Mi
open PySem PySem.Spec PyProof.Rows L2 LamX LamY LamZ
/-! a def whose text does not lie on the frame's ghosts -/
end L2.Mi

/-! dicts whose keys are (text, number): made, written, walked by items() -/
namespace L2.Mi
open PySem PySem.Spec PyProof.Rows L2
def keyT (d : D) : Option (List Key) := match d with
  | .tup [.str s, .int i] => some [.inr s, .inl i]
  | _ => none
theorem keyT_inv {d : D} {k : List Key} (h : keyT d = some k) : ∃ s i, d = .tup [.str s, .int i] ∧ k = [.inr s, .inl i] := by
  unfold keyT at h
  split at h
  · cases h; exact ⟨_, _, rfl, rfl⟩
  · cases h
theorem rep_keyT {K : PySem.W.Frag} {I : Hp} {m : List Addr} {v : V} {d : D} {k : List Key} (p : Rep K I m v d) (h : keyT d = some k) : ∃ b, v = .ref b ∧ I b = some (.tup (k.map kV)) := by
  obtain ⟨s, i, rfl, rfl⟩ := keyT_inv h
  cases p with
  | @tup a vs _ hs r x =>
    rcases x with x | x
    · refine ⟨a, rfl, ?_⟩
      rw [x]
      cases r with
      | cons h1 t => cases t with
        | cons h2 t2 => cases t2; cases h1; cases h2; rfl
    · exact absurd rfl (x s i)
def putKT (kvs : List (List Key × D)) (k : List Key) (d : D) : List (List Key × D) :=
  if (kvs.any fun kv => decide (kv.1 = k)) = true then kvs.map (fun kv => if kv.1 = k then (kv.1, d) else kv) else kvs ++ [(k, d)]
section
variable {K : PySem.W.Frag} {I : Hp} {m : List Addr}
theorem RepT.nil : RepT K I m [] [] := ⟨rfl, .nil⟩
theorem RepT.cons {k : List Key} {v : V} {d : D} {vs : List (List Key × V)} {ds : List (List Key × D)} (h : Rep K I m v d) (t : RepT K I m vs ds) : RepT K I m ((k, v) :: vs) ((k, d) :: ds) := ⟨by simp [t.1], .cons h t.2⟩
theorem RepT.inv {x : List Key × V} {vs : List (List Key × V)} {y : List Key × D} {ds : List (List Key × D)} (r : RepT K I m (x :: vs) (y :: ds)) : x.1 = y.1 ∧ Rep K I m x.2 y.2 ∧ RepT K I m vs ds := by
  obtain ⟨r1, r2⟩ := r
  simp only [List.map_cons, List.cons.injEq] at r1
  cases r2 with
  | cons h t => exact ⟨r1.1, h, r1.2, t⟩
theorem RepT.length {vs : List (List Key × V)} {ds : List (List Key × D)} (r : RepT K I m vs ds) : vs.length = ds.length := by simpa using congrArg List.length r.1
theorem RepT.ind {P : List (List Key × V) → List (List Key × D) → Prop} (h0 : P [] []) (hc : ∀ (k : List Key) (v : V) (d : D) (vs : List (List Key × V)) (ds : List (List Key × D)), Rep K I m v d → RepT K I m vs ds → P vs ds → P ((k, v) :: vs) ((k, d) :: ds)) :
    ∀ {vs : List (List Key × V)} {ds : List (List Key × D)}, RepT K I m vs ds → P vs ds := by
  intro vs
  induction vs with
  | nil => intro ds r; cases ds with
    | nil => exact h0
    | cons y ds => have := r.length; simp at this
  | cons x vs ih => intro ds r; cases ds with
    | nil => have := r.length; simp at this
    | cons y ds =>
      obtain ⟨k, v⟩ := x
      obtain ⟨k', d⟩ := y
      obtain ⟨e, h, t⟩ := r.inv
      obtain rfl : k = k' := e
      exact hc k v d vs ds h t (ih t)
theorem RepT.any {k : List Key} {vs : List (List Key × V)} {ds : List (List Key × D)} (r : RepT K I m vs ds) : (vs.any fun kv => decide (kv.1 = k)) = (ds.any fun kv => decide (kv.1 = k)) :=
  RepT.ind (P := fun vs ds => (vs.any fun kv => decide (kv.1 = k)) = (ds.any fun kv => decide (kv.1 = k))) rfl (fun k' v d vs ds _ _ ih => by simp only [List.any_cons, ih]) r
theorem RepT.put {k : List Key} {v : V} {d : D} (p : Rep K I m v d) {vs : List (List Key × V)} {ds : List (List Key × D)} (r : RepT K I m vs ds) : RepT K I m (putK vs k v) (putKT ds k d) := by
  have app : RepT K I m (vs ++ [(k, v)]) (ds ++ [(k, d)]) :=
    RepT.ind (P := fun vs ds => RepT K I m (vs ++ [(k, v)]) (ds ++ [(k, d)])) (.cons p .nil) (fun k' v' d' vs ds h _ ih => .cons h ih) r
  have mp : RepT K I m (vs.map fun kv => if kv.1 = k then (kv.1, v) else kv) (ds.map fun kv => if kv.1 = k then (kv.1, d) else kv) :=
    RepT.ind (P := fun vs ds => RepT K I m (vs.map fun kv => if kv.1 = k then (kv.1, v) else kv) (ds.map fun kv => if kv.1 = k then (kv.1, d) else kv)) .nil (fun k' v' d' vs ds h _ ih => by
      simp only [List.map_cons]
      by_cases e : k' = k
      · rw [if_pos e, if_pos e]; exact .cons p ih
      · rw [if_neg e, if_neg e]; exact .cons h ih) r
  unfold putK putKT
  rw [r.any]
  by_cases h : (ds.any fun kv => decide (kv.1 = k)) = true
  · rw [if_pos h, if_pos h]; exact mp
  · rw [if_neg h, if_neg h]; exact app
def getKT (ds : List (List Key × D)) (k : List Key) : Option D := (ds.find? fun kv => decide (kv.1 = k)).map (·.2)
theorem RepT.get {k : List Key} {d : D} {vs : List (List Key × V)} {ds : List (List Key × D)} (r : RepT K I m vs ds) : getKT ds k = some d → ∃ v, valV vs k = some v ∧ Rep K I m v d :=
  RepT.ind (P := fun vs ds => getKT ds k = some d → ∃ v, valV vs k = some v ∧ Rep K I m v d) (fun e => by cases e) (fun k1 v d' vs ds h t ih e => by
    unfold getKT at e
    unfold valV
    rw [List.find?_cons] at e ⊢
    by_cases hk : k1 = k
    · simp only [hk, decide_true] at e ⊢
      cases e
      exact ⟨_, rfl, h⟩
    · simp only [hk, decide_false] at e ⊢
      exact ih e) r
theorem RepT.at_ {vs : List (List Key × V)} {ds : List (List Key × D)} (r : RepT K I m vs ds) : ∀ {i : Nat} {k : List Key} {d : D}, ds[i]? = some (k, d) → ∃ v, vs[i]? = some (k, v) ∧ Rep K I m v d :=
  RepT.ind (P := fun vs ds => ∀ {i : Nat} {k : List Key} {d : D}, ds[i]? = some (k, d) → ∃ v, vs[i]? = some (k, v) ∧ Rep K I m v d) (fun e => by simp at e) (fun k' v d' vs ds h t ih => by
    intro i k d e
    cases i with
    | zero => simp at e; obtain ⟨rfl, rfl⟩ := e; exact ⟨v, rfl, h⟩
    | succ i => exact ih (by simpa using e)) r
end
section
variable {K : PySem.W.Frag} {I H : Hp} {m : List Addr} {c : Cs}
theorem Rel.putT (r : Rel K I H m c) {k : Nat} {a : Addr} {vs : List (List Key × V)} {ds ds0 : List (List Key × D)} (hm : m[k]? = some a) (hc : c[k]? = some (.dT ds0)) (q : RepT K I m vs ds) : Rel K I (upd H a (.dT vs)) m (c.set k (.dT ds)) ∧ Ext I m H I m (upd H a (.dT vs)) := by
  obtain ⟨n1, ws, n2, n3⟩ := r.cell k a _ hm hc
  refine ⟨⟨fun b o e => ?_, by simp [r.len], r.nd, fun j b x h1 h2 => ?_, r.tabs.upH (nt_some n2 ⟨(fun _ z => nomatch z), (fun _ z => nomatch z)⟩)⟩, Same.refl I, Pre.refl m, fun b o h1 hT h2 h3 => ⟨?_, h2, h3⟩⟩
  · rw [upd_ne (ne_of_none e n1)]
    exact r.same _ _ e
  · by_cases hj : k = j
    · subst hj
      rw [List.getElem?_set_self (List.getElem?_eq_some_iff.mp hc).1] at h2
      rw [hm] at h1
      cases h1; cases h2
      exact ⟨n1, vs, upd_same, q⟩
    · rw [List.getElem?_set_ne hj] at h2
      have nb : b ≠ a := fun e => hj (r.nd k j a hm (e ▸ h1))
      have q := r.cell j b x h1 h2
      cases x with
      | lst es =>
        obtain ⟨q1, ws, q2, q3⟩ := q
        exact ⟨q1, ws, by rw [upd_ne nb]; exact q2, q3⟩
      | dct es =>
        obtain ⟨q1, ws, q2, q3⟩ := q
        exact ⟨q1, ws, by rw [upd_ne nb]; exact q2, q3⟩
      | dT es =>
        obtain ⟨q1, ws, q2, q3⟩ := q
        exact ⟨q1, ws, by rw [upd_ne nb]; exact q2, q3⟩
      | dTz es => exact q
      | ins C es =>
        obtain ⟨q1, dx, ws, q2, q3, q4, q5, q6⟩ := q
        exact ⟨q1, dx, ws, q2, q3, by rw [upd_ne (ne_of q4 n2 (by intro z; cases z))]; exact q4, q5.imp fun _ z => ⟨z.1, by rw [upd_ne nb]; exact z.2⟩, q6⟩
      | frz d => exact q
  · rw [upd_ne (fun (e : b = a) => h3 (by rw [e]; exact List.mem_of_getElem? hm))]
    exact h1
end
section
variable {X : Cx} {W : WX} {pos : Pos}
/-- d[t] = v at a dict's cell -/
def putTR (x y d : D) (c : Cs) : R Unit := match x, keyT y with
  | .ref k, some kk => match c[k]? with
    | some (.dT kvs) => if kvs.length < 1000 then .ok () (c.set k (.dT (putKT kvs kk d))) else .stuck
    | _ => .stuck
  | _, _ => .stuck
def gST (o i : ME) : MG := fun d l c => (o l c).bind fun x c1 => (i l c1).bind fun y c2 => (putTR x y d c2).bind fun _ c3 => .ok l c3
theorem mg_subT {tg : Expr} {fo fi : ME} (h : PG X tg (gSub (rdE X.K W fo) (rdE X.K W fi) rSetD)) : PG X tg (rdG X.K W (gST fo fi)) :=
  PGi h fun v σ H Q ⟨I, m, l, c, d, R, L, p, A⟩ => by
    refine ⟨I, m, l, c, R, L, After.mono (After.bind (rep := rD X.K) A) fun v1 H1 ⟨I1, m1, c1, d1, E1, R1, p1, A1⟩ => ?_⟩
    refine ⟨I1, m1, l, c1, R1, L.ext E1, After.mono (After.bind (rep := rD X.K) A1) fun v2 H2 ⟨I2, m2, c2, d2, E2, R2, p2, A2⟩ => ?_⟩
    have pd := Rep.ext (Rep.ext p E1) E2
    have L2 := (L.ext E1).ext E2
    have q1 := Rep.ext p1 E2
    cases q1 with
    | @ref k a hk =>
      have A3 : After (rL X.K) X.K I2 m2 H2 (fun cls dd H' => W cls dd σ H') Q ((match keyT d2 with
        | some kk => match c2[k]? with
          | some (.dT kvs) => if kvs.length < 1000 then .ok () (c2.set k (.dT (putKT kvs kk d))) else .stuck
          | _ => .stuck
        | none => .stuck : Mi.R Unit).bind fun _ c3 => .ok l c3) := by
        have A2 : After (rL X.K) X.K I2 m2 H2 (fun cls dd H' => W cls dd σ H') Q ((putTR (.ref k) d2 d c2).bind fun _ c3 => .ok l c3) := A2
        unfold putTR at A2
        cases qk : keyT d2 with
        | none => rw [qk] at A2; exact A2
        | some kk => rw [qk] at A2; exact A2
      cases qk : keyT d2 with
      | none => rw [qk] at A3; exact A3.elim
      | some kk =>
        rw [qk] at A3
        obtain ⟨b, rfl, hb⟩ := rep_keyT p2 qk
        have A3 : After (rL X.K) X.K I2 m2 H2 (fun cls dd H' => W cls dd σ H') Q ((match c2[k]? with
          | some (.dT kvs) => if kvs.length < 1000 then .ok () (c2.set k (.dT (putKT kvs kk d))) else .stuck
          | _ => .stuck : Mi.R Unit).bind fun _ c3 => .ok l c3) := A3
        cases q : c2[k]? with
        | none => rw [q] at A3; exact A3.elim
        | some x =>
          rw [q] at A3
          cases x with
          | dT ds =>
            obtain ⟨n1, vs, h1, h2⟩ := R2.cell k a _ hk q
            have A4 : After (rL X.K) X.K I2 m2 H2 (fun cls dd H' => W cls dd σ H') Q ((if ds.length < 1000 then .ok () (c2.set k (.dT (putKT ds kk d))) else .stuck : Mi.R Unit).bind fun _ c3 => .ok l c3) := A3
            by_cases hz : ds.length < 1000
            · rw [if_pos hz] at A4
              refine ⟨a, _, rfl, DPut.t h1 (R2.same _ _ hb) (by rw [h2.length, sizeLine_eq]; omega), ?_⟩
              obtain ⟨R3, E3⟩ := R2.putT hk q (h2.put pd)
              exact A4 I2 m2 _ σ E3 R3 (L2.ext E3)
            · rw [if_neg hz] at A4; exact A4.elim
          | _ => exact A3.elim
    | _ => exact A2.elim
theorem ok_gST {o i : ME} {d : D} {l : Ls} {c : Cs} {Q : Ls → Cs → Prop} (h : Ok (o l c) fun x c1 => Ok (i l c1) fun y c2 => Ok (putTR x y d c2) fun _ c3 => Q l c3) : Ok (gST o i d l c) Q :=
  Ok.bind (h.mono fun _ _ h => Ok.bind (h.mono fun _ _ h => Ok.bind (h.mono fun _ _ h => ⟨_, _, rfl, h⟩)))
theorem putTR_at {k : Nat} {s : Str} {i : Int} {d : D} {c : Cs} {kvs : List (List Key × D)} (hk : c[k]? = some (.dT kvs)) (hl : kvs.length < 1000) : putTR (.ref k) (.tup [.str s, .int i]) d c = .ok () (c.set k (.dT (putKT kvs [.inr s, .inl i] d))) := by
  unfold putTR
  simp only [keyT, hk]
  rw [if_pos hl]
end
end L2.Mi

/-! items() of a dict whose keys are tuples: the dict is locked for good -/
namespace L2.Mi
open PySem PySem.Spec PyProof.Rows L2
section
variable {P : Program} {w : World} {K : PySem.W.Frag} {d : Addr} {o : Obj} {es : Array DictEntry} {ep : Nat}
end
end L2.Mi

/-! dicts with tuple keys: d[t], t in d, len(d), {t: v}, dict(pairs) -/
namespace L2.Mi
open PySem PySem.Spec PyProof.Rows L2
def dctT (x : D) (c : Cs) : Option (List (List Key × D)) := match x with
  | .ref k => match c[k]? with
    | some (.dT ds) => some ds
    | some (.dTz ds) => some ds
    | _ => none
  | _ => none
theorem dctT_at {K : PySem.W.Frag} {I H : Hp} {m : List Addr} {c : Cs} {v : V} {x : D} {ds : List (List Key × D)} (R : Rel K I H m c) (p : Rep K I m v x) (e : dctT x c = some ds) : ∃ a vs, v = .ref a ∧ Rd H a (.dT vs) ∧ RepT K I m vs ds := by
  cases p with
  | @ref k a hk =>
    unfold dctT at e
    cases q : c[k]? with
    | none => simp only [q] at e; cases e
    | some y =>
      simp only [q] at e
      have hc := R.cell k a y hk q
      cases y with
      | dT es => cases e; obtain ⟨_, vs, h1, h2⟩ := hc; exact ⟨a, vs, rfl, .inl h1, h2⟩
      | dTz es => cases e; obtain ⟨o, vs, h1, h2⟩ := hc; exact ⟨a, vs, rfl, .inr ⟨o, R.same _ _ h1⟩, h2⟩
      | _ => cases e
  | _ => cases e
theorem RepT.val {K : PySem.W.Frag} {I : Hp} {m : List Addr} {k : List Key} {vs : List (List Key × V)} {ds : List (List Key × D)} (r : RepT K I m vs ds) : (valV vs k).isSome = (getKT ds k).isSome :=
  RepT.ind (P := fun vs ds => (valV vs k).isSome = (getKT ds k).isSome) rfl (fun k1 v d' vs ds h t ih => by
    unfold getKT valV at ih ⊢
    rw [List.find?_cons, List.find?_cons]
    by_cases hk : k1 = k
    · simp only [hk, decide_true]; rfl
    · simp only [hk, decide_false]; exact ih) r
def dgetTI (x y : D) (c : Cs) : R D := match keyT y, dctT x c with
  | some k, some ds => match getKT ds k with
    | some d => .ok d c
    | none => .stuck
  | _, _ => .stuck
def dinT (neg : Bool) (y x : D) (c : Cs) : R D := match keyT y, dctT x c with
  | some k, some ds => .ok (.bl (sgn neg (getKT ds k).isSome)) c
  | _, _ => .stuck
section
variable {X : Cx} {W : WX} {o i : Expr} {fo fi : ME} {pos : Pos}
theorem me_dgetT (hu : X.A.units + 1 < cLine) (ho : PE X o (rdE X.K W fo)) (hi : PE X i (rdE X.K W fi)) (hs : NoSl i) : PE X (.Subscript o i pos) (rdE X.K W (mOp dgetTI fo fi)) :=
  PEi (pe_dget hu ho hi hs) fun σ H Q ⟨I, m, l, c, R, L, A⟩ => ⟨I, m, l, c, R, L, After.mono (After.bind (rep := rD X.K) A) fun v1 H1 ⟨I1, m1, c1, d1, E1, R1, p1, A1⟩ =>
    ⟨I1, m1, l, c1, R1, L.ext E1, After.mono (After.bind (rep := rD X.K) A1) fun v2 H2 ⟨I2, m2, c2, d2, E2, R2, p2, A2⟩ => by
      have p1 := Rep.ext p1 E2
      have A2 : After (rD X.K) X.K I2 m2 H2 (fun cls dd H' => W cls dd σ H') Q (match keyT d2, dctT d1 c2 with
        | some k, some ds => match getKT ds k with
          | some d => .ok d c2
          | none => .stuck
        | _, _ => .stuck) := A2
      cases qk : keyT d2 with
      | none => rw [qk] at A2; exact A2.elim
      | some k =>
        rw [qk] at A2
        cases qd : dctT d1 c2 with
        | none => rw [qd] at A2; exact A2.elim
        | some ds =>
          rw [qd] at A2
          have A2 : After (rD X.K) X.K I2 m2 H2 (fun cls dd H' => W cls dd σ H') Q (match getKT ds k with
            | some d => .ok d c2
            | none => .stuck) := A2
          cases qg : getKT ds k with
          | none => rw [qg] at A2; exact A2.elim
          | some d =>
            rw [qg] at A2
            obtain ⟨b, rfl, hb⟩ := rep_keyT p2 qk
            obtain ⟨a, vs, rfl, h1, h2⟩ := dctT_at R2 p1 qd
            obtain ⟨v, g1, g2⟩ := h2.get qg
            exact ⟨a, v, rfl, .inr ⟨vs, k, b, h1, rfl, R2.same _ _ hb, g1.symm⟩, A2.here R2 g2⟩⟩⟩
theorem din_read {neg : Bool} {σ : St} {H : Hp} {Q : VK} (h : rdE X.K W (mOp (dinT neg) fi fo) σ H Q) : (rdE X.K W fi) σ H fun y H1 => (rdE X.K W fo) σ H1 fun x H2 => ∃ a o, x = .ref a ∧ DGet H2 a y o ∧ Q (.bl (sgn neg o.isSome)) H2 := by
  obtain ⟨I, m, l, c, R, L, A⟩ := h
  refine ⟨I, m, l, c, R, L, After.mono (After.bind (rep := rD X.K) A) fun v1 H1 ⟨I1, m1, c1, d1, E1, R1, p1, A1⟩ => ⟨I1, m1, l, c1, R1, L.ext E1, After.mono (After.bind (rep := rD X.K) A1) fun v2 H2 ⟨I2, m2, c2, d2, E2, R2, p2, A2⟩ => ?_⟩⟩
  have p1 := Rep.ext p1 E2
  have A2 : After (rD X.K) X.K I2 m2 H2 (fun cls dd H' => W cls dd σ H') Q (match keyT d1, dctT d2 c2 with
    | some k, some ds => .ok (.bl (sgn neg (getKT ds k).isSome)) c2
    | _, _ => .stuck) := A2
  cases qk : keyT d1 with
  | none => rw [qk] at A2; exact A2.elim
  | some k =>
    rw [qk] at A2
    cases qd : dctT d2 c2 with
    | none => rw [qd] at A2; exact A2.elim
    | some ds =>
      rw [qd] at A2
      have A2 : After (rD X.K) X.K I2 m2 H2 (fun cls dd H' => W cls dd σ H') Q (.ok (.bl (sgn neg (getKT ds k).isSome)) c2) := A2
      obtain ⟨b, rfl, hb⟩ := rep_keyT p1 qk
      obtain ⟨a, vs, rfl, h1, h2⟩ := dctT_at R2 p2 qd
      refine ⟨a, valV vs k, rfl, .inr ⟨vs, k, b, h1, rfl, R2.same _ _ hb, rfl⟩, A2.here R2 ?_⟩
      rw [h2.val]
      exact .bl _
end
/-- {t: v} -/
def tDT1 (tk tv : TE) : TE := fun σ H Q => ∀ p, H p = none → tPairs [(tk, tv)] σ (upd H p (.dT [])) fun ps H2 => H2 p = some (.dT []) ∧ ∃ b k y, ps = [(V.ref b, y)] ∧ H2 b = some (.tup (k.map kV)) ∧ Q (.ref p) (upd H2 p (.dT [(k, y)]))
theorem pe_dT1 {X : Cx} {ek ev : Expr} {tk tv : TE} {pos : Pos} (hu : X.A.units + 1 < cLine) (hk : PE X ek tk) (hv : PE X ev tv) : PE X (.Dict [some ek] [ev] pos) (tDT1 tk tv) := by
  refine ⟨fun pins s σ H Q I q => ?_⟩
  have hn := I.hok.fresh (Nat.le_refl s.heap.objs.size)
  have I1 := I.laid (a := s.heap.objs.size) (o := .dT []) (h' := s.heap.push { cls := .type "dict", data := .dict #[] }) (t' := s.toks) (fun _ _ q => Heap.get?_push_of_some _ q) (Nat.le_refl _) (dt_empty s.heap I.big)
  rw [arm_eval_Dict, zip_pairTrees [some ek] [ev] X.env pos rfl rfl, dictDisplay_pairs (pairTrees [some ek] [ev] X.env pos) (by simp [pairTrees]) (by simp [pairTrees])]
  refine wpAny_bind (wpAny_standAt (wpAny_bind (wpAny_subDictH (knd := tupleKind (mixKind X.prog X.w)) (show X.A.units < cLine by omega) (by simp [pairTrees]) (thn ((pps_cons hk hv pps_nil).run pins _ σ _ _ I1 (q _ hn)) fun ws s2 ⟨ps, H2, I2, rel, e, b, k, y, ep, hb, q2⟩ => ?_))))
  subst ep
  obtain ⟨z, hd, xs0, r0, dd⟩ := dt_of I2.hok e
  cases r0
  obtain ⟨w1, rfl⟩ : ∃ w1, ws = [w1] := by
    cases rel with
    | cons h t => cases t; exact ⟨_, rfl⟩
  obtain ⟨u1, u2⟩ := w1
  obtain ⟨ru, rv⟩ : RelV (.ref b) u1 ∧ RelV y u2 := by
    cases rel with
    | cons h t => exact h
  obtain rfl : u1 = Value.ref b := ru
  refine ⟨[(k, b, u2)], ⟨rfl, rfl, key_of I2.hok hb, trivial⟩, dd, fun h' tk dd' hs => wpAny_pure ⟨.ref s.heap.objs.size, _, ?_, rfl, q2⟩⟩
  have e1 : storedAllH ([] : List (List Key × Addr × Value)) [(k, b, u2)] = [(k, b, u2)] := rfl
  rw [e1] at dd'
  obtain ⟨o, es, ep, ho, hx, hdt, he, his, hnd⟩ := dd'
  have nb : b ≠ s.heap.objs.size := ne_of hb e (by intro z; cases z)
  exact d_write (t' := tk) I2 (by rw [e]; exact True.intro) hs ⟨o, ho⟩ ⟨by show 1 ≤ sizeLine; rw [sizeLine_eq]; omega, hd, [(k, b, u2)], .cons ⟨rfl, by rw [upd_ne nb]; exact hb, rv⟩ .nil, o, es, ep, ho, hx, hdt, he, hnd⟩
def mDictT1 (a b : ME) : ME := fun l c => (a l c).bind fun x c1 => (b l c1).bind fun y c2 => match keyT x with
  | some k => .ok (.ref c2.length) (c2 ++ [.dT [(k, y)]])
  | none => .stuck
theorem me_dictT1 {X : Cx} {W : WX} {ek ev : Expr} {fa fb : ME} {pos : Pos} (hu : X.A.units + 1 < cLine) (hk : PE X ek (rdE X.K W fa)) (hv : PE X ev (rdE X.K W fb)) : PE X (.Dict [some ek] [ev] pos) (rdE X.K W (mDictT1 fa fb)) :=
  PEi (pe_dT1 hu hk hv) fun σ H Q ⟨I, m, l, c, R, L, A⟩ => by
    intro p np
    have nI := R.same.free np
    have nm := R.fresh np
    have E0 : Ext I m H I m (upd H p (.dT [])) := ⟨Same.refl I, Pre.refl m, fun b o h1 hT h2 h3 => ⟨by rw [upd_ne (ne_of_none h1 np)]; exact h1, h2, h3⟩⟩
    have R0 : Rel X.K I (upd H p (.dT [])) m c := R.sideO (fun x z => by rw [np] at z; cases z) (fun o z => by rw [np] at z; cases z) nI nm
    show (rdE X.K W fa) σ (upd H p (.dT [])) fun x H1 => (rdE X.K W fb) σ H1 fun y H2 => H2 p = some (.dT []) ∧ ∃ b k y', [(x, y)] = [(V.ref b, y')] ∧ H2 b = some (.tup (k.map kV)) ∧ Q (.ref p) (upd H2 p (.dT [(k, y')]))
    refine ⟨I, m, l, c, R0, L, After.mono (After.bindAt (rep := rD X.K) A E0) fun v1 H1 ⟨I1, m1, c1, d1, E1, R1, p1, A1⟩ => ⟨I1, m1, l, c1, R1, L.ext E1, After.mono (After.bindAt (rep := rD X.K) A1 (E0.trans E1)) fun v2 H2 ⟨I2, m2, c2, d2, E2, R2, p2, A2⟩ => ?_⟩⟩
    have F := E1.trans E2
    obtain ⟨f1, f2, f3⟩ := F.fr p _ upd_same ⟨⟨(fun _ z => nomatch z), (fun _ z => nomatch z)⟩, (fun _ z => nomatch z)⟩ nI nm
    have A2 : After (rD X.K) X.K I m H (fun cls dd H' => W cls dd σ H') Q (match keyT d1 with
      | some k => .ok (.ref c2.length) (c2 ++ [.dT [(k, d2)]])
      | none => .stuck) := A2
    cases qk : keyT d1 with
    | none => rw [qk] at A2; exact A2.elim
    | some k =>
      rw [qk] at A2
      obtain ⟨b, rfl, hb⟩ := rep_keyT (Rep.ext p1 E2) qk
      refine ⟨f1, b, k, v2, rfl, R2.same _ _ hb, ?_⟩
      have p2 : Rep X.K I2 m2 v2 d2 := p2
      have R3 : Rel X.K I2 (upd H2 p (.dT [(k, v2)])) m2 c2 := R2.sideO (fun x z => by rw [f1] at z; cases z) (fun o z => by rw [f1] at z; cases z; exact ⟨(fun _ q => nomatch q), (fun _ q => nomatch q)⟩) f2 f3
      have R4 : Rel X.K I2 (upd H2 p (.dT [(k, v2)])) (m2 ++ [p]) (c2 ++ [.dT [(k, d2)]]) := R3.adoptC f3 f2 (fun x z => by rw [upd_same] at z; cases z) (fun o z => by rw [upd_same] at z; cases z; exact ⟨(fun _ q => nomatch q), (fun _ q => nomatch q)⟩) ⟨f2, [(k, v2)], upd_same, .cons (p2.mono (Same.refl _) (pre_app _ _)) .nil⟩
      refine A2 _ _ _ _ ⟨(E0.trans F).same, (E0.trans F).pre.trans (pre_app _ _), fun b o h1 hT h2 h3 => ?_⟩ R4 (.ref ?_)
      · obtain ⟨q1, q2, q3⟩ := (E0.trans F).fr b o h1 hT h2 h3
        have nb : b ≠ p := ne_of_none h1 np
        refine ⟨by rw [upd_ne nb]; exact q1, q2, fun z => ?_⟩
        rcases List.mem_append.mp z with z | z
        · exact q3 z
        · simp only [List.mem_singleton] at z; exact nb z
      · rw [← R2.len, List.getElem?_append_right (Nat.le_refl _), Nat.sub_self]
        rfl
/-- dict(pairs) -/
def mergeT (kvs more : List (List Key × V)) : List (List Key × V) := more.foldl (fun acc kv => putK acc kv.1 kv.2) kvs
def mergeTD (kvs more : List (List Key × D)) : List (List Key × D) := more.foldl (fun acc kv => putKT acc kv.1 kv.2) kvs
theorem RepT.merge {K : PySem.W.Frag} {I : Hp} {m : List Addr} {more : List (List Key × V)} {md : List (List Key × D)} (r : RepT K I m more md) : ∀ {kvs : List (List Key × V)} {ks : List (List Key × D)}, RepT K I m kvs ks → RepT K I m (mergeT kvs more) (mergeTD ks md) :=
  RepT.ind (P := fun more md => ∀ {kvs : List (List Key × V)} {ks : List (List Key × D)}, RepT K I m kvs ks → RepT K I m (mergeT kvs more) (mergeTD ks md)) (fun q => q) (fun k v d vs ds h t ih => by
    intro kvs ks q
    exact ih (q.put h)) r
theorem KT.mergeAll {H : Hp} : ∀ {more : List (List Key × V)} {ps : List (List Key × Addr × Value)} {kvs : List (List Key × V)} {xs : List (List Key × Addr × Value)}, KT H more ps → KT H kvs xs → KT H (mergeT kvs more) (storedAllH xs ps) := by
  intro more ps kvs xs r
  induction r generalizing kvs xs with
  | nil => intro q; exact q
  | @cons p q ps qs h t ih =>
    intro r0
    obtain ⟨h1, h2, h3⟩ := h
    have e := r0.put p.1 h2 h3
    rw [h1] at e
    have := ih e
    unfold mergeT storedAllH at this ⊢
    rw [List.foldl_cons, List.foldl_cons, h1]
    exact this
theorem length_mergeT : ∀ (more kvs : List (List Key × V)), (mergeT kvs more).length ≤ kvs.length + more.length
  | [], kvs => by show kvs.length ≤ kvs.length + 0; omega
  | p :: r, kvs => by
    have h1 := length_mergeT r (putK kvs p.1 p.2)
    have h2 := length_putK kvs p.1 p.2
    show (mergeT (putK kvs p.1 p.2) r).length ≤ _
    rw [List.length_cons]; omega
def rDictT (K : PySem.W.Frag) : List V → Hp → VK → Prop := fun xs H Q => ∃ (a : Addr) (ps : List Addr) (kvs : List (List Key × V)), xs = [.ref a] ∧ SqL K H a (ps.map V.ref) ∧ Paired (fun p (kv : List Key × V) => ∃ b, SqT K H p [.ref b, kv.2] ∧ H b = some (.tup (kv.1.map kV))) ps kvs ∧
    ∀ p, H p = none → Q (.ref p) (upd H p (.dT (mergeT [] kvs)))
theorem pairsT_of {X : Cx} {pins : List (Addr × Obj)} {σ : St} {H : Hp} {s : Shared} (I : Inv X pins σ H s) : ∀ {ps : List Addr} {kvs : List (List Key × V)}, Paired (fun p (kv : List Key × V) => ∃ b, SqT X.K H p [.ref b, kv.2] ∧ H b = some (.tup (kv.1.map kV))) ps kvs →
    ∃ prs : List (List Key × Addr × Value), KT H kvs prs ∧ prs.length = ps.length ∧ ∀ (j : Nat) (q : List Key × Addr × Value), prs[j]? = some q → ∃ b, ps[j]? = some b ∧ PyProof.Rows.IsTup s.heap b #[.ref q.2.1, q.2.2]
  | _, _, .nil => ⟨[], .nil, rfl, fun j q e => by simp at e⟩
  | _, _, .cons (a := p) (b := kv) h t => by
    obtain ⟨prs, r, hl, hp⟩ := pairsT_of I t
    obtain ⟨b, hq, hb⟩ := h
    obtain ⟨its, rv, ht, _⟩ := I.tuple hq
    obtain ⟨u, y, ei, ru, ry⟩ := vals2 rv
    subst ei
    obtain rfl : u = Value.ref b := ru
    refine ⟨(kv.1, b, y) :: prs, .cons ⟨rfl, hb, ry⟩ r, by rw [List.length_cons, List.length_cons, hl], fun j q e => ?_⟩
    cases j with
    | zero =>
      have e' : (kv.1, b, y) = q := Option.some.inj e
      subst e'
      exact ⟨p, rfl, ht⟩
    | succ j =>
      obtain ⟨b', e1, e2⟩ := hp j q (by simpa using e)
      exact ⟨b', by simpa using e1, e2⟩
theorem kt_is {P : Program} {w : World} {H : Hp} {h : Heap} (ok : HOk P w H h) : ∀ {l : List (List Key × V)} {m : List (List Key × Addr × Value)}, KT H l m → ∀ x ∈ m, (tupleKind (mixKind P w)).is h x.1 x.2.1 := by
  intro l m q
  induction q with
  | nil => intro x hx; exact nomatch hx
  | @cons p q ps qs hq t ih =>
    intro x hx
    rcases List.mem_cons.mp hx with e | hx
    · subst e
      exact key_of ok (by rw [← hq.1]; exact hq.2.1)
    · exact ih x hx
theorem call_dictT {X : Cx} (hcalm : X.calm = true) (hu : X.A.units + 2 < cLine) : CallR X (.type "dict") (rDictT X.K) := by
  intro pins s σ H xs us Q I r q
  obtain ⟨a, ps, kvs, ex, hq, hp, q⟩ := q
  subst ex
  obtain ⟨u, eu, rx⟩ := vals1 r
  subst eu
  cases rx
  obtain ⟨its, rv, pl, hz⟩ := I.list hq
  have ei := refs_at rv
  subst ei
  rw [List.length_map] at hz
  obtain ⟨prs, rel, hl, hpr⟩ := pairsT_of I hp
  obtain ⟨o, n, ho, hc, hd, hdat⟩ := pl
  have is0 := kt_is I.hok rel
  refine PySem.call_dict_pairsH (knd := tupleKind (mixKind X.prog X.w)) (ps := prs) (PairArg.list a (ps.map Value.ref).toArray (fun j => ps.getD j 0) (prs.map fun x => (Value.ref x.2.1, x.2.2))) (I.ok.hd hcalm) (show X.A.in1.in1.units < cLine from by show X.A.units + 1 + 1 < cLine; omega)
    ⟨⟨o, n, ho, hc, hd, hdat⟩, by simp [hl], fun j k v e => ?_⟩ ⟨by simp, fun i key v e => ?_⟩ (fun h' hk x hx => ?_) (by rw [List.length_map, hl]; exact hz) fun h' tk hd' k => ?_
  · rw [List.getElem?_map] at e
    obtain ⟨x, hx, ex⟩ := Option.map_eq_some_iff.mp e
    cases ex
    obtain ⟨b, e1, e2⟩ := hpr j x hx
    have eb : ps.getD j 0 = b := by rw [List.getD_eq_getElem?_getD, e1]; rfl
    refine ⟨by simp [e1, eb], .inl ?_⟩
    show s.heap.IsTuple (ps.getD j 0) _
    rw [eb]
    exact e2
  · have e : (prs.map fun x => (Value.ref x.2.1, x.2.2))[i]? = some (key, v) := e
    rw [List.getElem?_map] at e
    obtain ⟨x, hx, ex⟩ := Option.map_eq_some_iff.mp e
    cases ex
    exact ⟨x.1, x.2.1, hx, rfl⟩
  · obtain ⟨o1, i1, n1, g1, g2, g3, g4⟩ := is0 x hx
    exact ⟨o1, i1, n1, hk _ _ (Nat.ne_of_lt (Heap.lt_size g1)) (by simp) g1, g2, g3, g4⟩
  · have hm : (s.heap.objs.size == sysModules) = false := beq_eq_false_iff_ne.mpr (Nat.ne_of_gt I.big)
    have hlen : (mergeT [] kvs).length ≤ sizeLine := by
      refine Nat.le_trans (length_mergeT kvs []) ?_
      rw [List.length_nil, Nat.zero_add, Paired.length rel, hl]
      exact hz
    obtain ⟨o2, es, ep, ho2, hx2, hdt2, he2, his2, hn2⟩ := hd'
    have nH : ∀ b ob, H b = some ob → b ≠ s.heap.objs.size := fun b ob e => Nat.ne_of_lt (I.hok.lt e)
    refine ⟨.ref s.heap.objs.size, upd H s.heap.objs.size (.dT (mergeT [] kvs)), I.laid (t' := tk) (fun b ob e => k b ob (by simp) e) (Nat.le_refl _) ⟨hlen, hm, storedAllH [] prs, ?_, o2, es, ep, ho2, hx2, hdt2, he2, hn2⟩, rfl, q _ (I.hok.fresh (Nat.le_refl _))⟩
    exact (KT.mergeAll rel .nil).keeps fun b ys e => by rw [upd_ne (nH b _ e)]; exact e
def pairsT : List D → Option (List (List Key × D))
  | [] => some []
  | .tup [a, b] :: r => match keyT a with
    | some k => match pairsT r with
      | some ks => some ((k, b) :: ks)
      | none => none
    | none => none
  | _ :: _ => none
theorem pairsT_at {K : PySem.W.Frag} {I H : Hp} {m : List Addr} (hs : Same I H) : ∀ {vs : List V} {ds : List D} {ks : List (List Key × D)}, Reps K I m vs ds → pairsT ds = some ks → ∃ (ps : List Addr) (kvs : List (List Key × V)), vs = ps.map V.ref ∧ Paired (fun p (kv : List Key × V) => ∃ b, SqT K H p [.ref b, kv.2] ∧ H b = some (.tup (kv.1.map kV))) ps kvs ∧ RepT K I m kvs ks
  | _, _, _, .nil, e => by cases e; exact ⟨[], [], rfl, .nil, .nil⟩
  | _, _, _, .cons (d := d) (ds := ds) h t, e => by
    unfold pairsT at e
    split at e
    · rename_i heq; cases heq
    · rename_i a b r heq
      cases heq
      split at e
      · rename_i k hk
        split at e
        · rename_i ks hks
          cases e
          obtain ⟨ps, kvs, e1, e2, e3⟩ := pairsT_at hs t hks
          cases h with
          | @tup p ws _ hq rr =>
            cases rr with
            | cons ra rr =>
              obtain ⟨y, rfl, rb⟩ := one_of rr
              obtain ⟨ka, rfl, hka⟩ := rep_keyT ra hk
              exact ⟨p :: ps, (k, y) :: kvs, by rw [e1]; rfl, .cons ⟨ka, sqT_same hs hq, hs _ _ hka⟩ e2, .cons rb e3⟩
        · cases e
      · cases e
    · cases e
def dictTP (d : D) (c : Cs) : R D := match lstC d c with
  | some ds => match pairsT ds with
    | some ks => .ok (.ref c.length) (c ++ [.dT (mergeTD [] ks)])
    | none => .stuck
  | none => .stuck
def dictTM : List D → Cs → R D := on1 dictTP
theorem cs_dictT {K : PySem.W.Frag} : CallS K (rDictT K) dictTM := fun I H m c vs ds W Q R p A => by
  obtain ⟨v, d, rfl, rfl, pd, A⟩ := on1_arg p A
  unfold dictTP at A
  cases e : lstC d c with
  | none => rw [e] at A; exact A.elim
  | some xs =>
    rw [e] at A
    have A : After (rD K) K I m H W Q (match pairsT xs with
      | some ks => .ok (.ref c.length) (c ++ [.dT (mergeTD [] ks)])
      | none => .stuck) := A
    obtain ⟨a, ws, rfl, h1, h2⟩ := lstC_at R pd e
    cases z : pairsT xs with
    | none => rw [z] at A; exact A.elim
    | some ks =>
      rw [z] at A
      obtain ⟨ps, kvs, rfl, e2, e3⟩ := pairsT_at R.same h2 z
      refine ⟨a, ps, kvs, rfl, SqL.of h1, e2, fun q nq => ?_⟩
      have e4 := RepT.merge e3 (RepT.nil (K := K) (I := I) (m := m))
      have A : After (rD K) K I m H W Q (.ok (.ref c.length) (c ++ [.dT (mergeTD [] ks)])) := A
      obtain ⟨R2, E2⟩ := R.pushC (o := .dT (mergeT [] kvs)) (x := .dT (mergeTD [] ks)) nq ⟨R.same.free nq, _, upd_same, e4.mono (Same.refl _) (pre_app _ _)⟩
      refine A _ _ _ _ E2 R2 (.ref ?_)
      rw [← R.len, List.getElem?_append_right (Nat.le_refl _), Nat.sub_self]
      rfl
end L2.Mi

/-! for t in a dict whose keys are (text, number): the dict is locked for good, the keys are known -/
namespace L2.Mi
open PySem PySem.Spec PyProof.Rows L2
end L2.Mi

/-! first, *others = a list -/
namespace L2.Mi
open PySem PySem.Spec PyProof.Rows L2
section
variable {prog : Program} {w : World} {A : Around} {E : Value → Shared → Prop} {s : Shared}
end
theorem din_readT {X : Cx} {W : WX} {fi fo : ME} {neg : Bool} {σ : St} {H : Hp} {Q : Bool → Hp → Prop} (h : rdT X.K W (mT (mOp (dinT neg) fi fo)) σ H Q) : rdE X.K W (mOp (dinT neg) fi fo) σ H fun x H1 => ∃ k, x = .bl k ∧ Q k H1 := by
  obtain ⟨I, m, l, c, R, L, A⟩ := h
  exact ⟨I, m, l, c, R, L, After.mono (After.bind (rep := rD X.K) A) fun v1 H1 ⟨I1, m1, c1, d1, E1, R1, p1, A1⟩ => by
    cases p1 with
    | bl k => exact ⟨k, rfl, A1.here R1 rfl⟩
    | _ => exact A1.elim⟩
theorem mt_dninT {X : Cx} {W : WX} {i o : Expr} {fi fo : ME} {pos : Pos} (hu : X.A.units + 1 < cLine) (hi : PE X i (rdE X.K W fi)) (ho : PE X o (rdE X.K W fo)) (hm : behindInMarks .NotIn o = false := by rfl) : PT X (.Compare i [.NotIn] [o] pos) (rdT X.K W (mT (mOp (dinT true) fi fo))) :=
  PTi (pt_cmp (pc_dnotin hu hi ho) hm) fun σ H Q h => din_read (neg := true) (din_readT h)
theorem u2 {A : Around} {k : Nat} (hr : Room k A) : A.units + 2 < cLine := by have := hr.un; omega
end L2.Mi

/-! xs[lo:hi:step] of a list: a new list that is changed later (a cell) -/
namespace L2.Mi
open PySem PySem.Spec PyProof.Rows L2
def sl3M (x : D) (i j k : Option Int) (c : Cs) : R D := match lstC x c with
  | some ds => if k ≠ some 0 ∧ (cut3 ds i j k).length ≤ sizeLine then .ok (.ref c.length) (c ++ [.lst (cut3 ds i j k)]) else .stuck
  | none => .stuck
def mSl3M (a : ME) (lo hi st : MO) : ME := fun l c => (a l c).bind fun x c1 => (lo l c1).bind fun i c2 => (hi l c2).bind fun j c3 => (st l c3).bind fun k c4 => sl3M x i j k c4
section
variable {X : Cx} {W : WX} {e : Expr} {lo hi st : Option Expr} {te : TE} {tl th tk : TO} {p2 pos : Pos}
theorem me_slice3M {s0 : Expr} {ops : Value → Value → List Value} {f : ME} {fl fh fk : MO} (hsl : ∀ ov iv, subscripted (.Slice lo hi (some s0) p2) false ov iv = operate (ops ov iv) (getItem ov iv)) (he : PE X e (rdE X.K W f)) (hl : PO X lo (rdO X.K W fl)) (hh : PO X hi (rdO X.K W fh)) (hk : PO X (some s0) (rdO X.K W fk)) :
    PE X (.Subscript e (.Slice lo hi (some s0) p2) pos) (rdE X.K W (mSl3M f fl fh fk)) := PEi (pe_slice3 hsl he hl hh hk) fun σ H Q ⟨I, m, l, c, R, L, A⟩ => by
  refine ⟨I, m, l, c, R, L, After.mono (After.bind (rep := rD X.K) A) fun v1 H1 ⟨I1, m1, c1, d1, E1, R1, p1, A1⟩ => ?_⟩
  refine ⟨I1, m1, l, c1, R1, L.ext E1, After.mono (After.bind (rep := rO) A1) fun v2 H2 ⟨I2, m2, c2, d2, E2, R2, p2, A2⟩ => ?_⟩
  refine ⟨I2, m2, l, c2, R2, (L.ext E1).ext E2, After.mono (After.bind (rep := rO) A2) fun v3 H3 ⟨I3, m3, c3, d3, E3, R3, p3, A3⟩ => ?_⟩
  refine ⟨I3, m3, l, c3, R3, ((L.ext E1).ext E2).ext E3, After.mono (After.bind (rep := rO) A3) fun v4 H4 ⟨I4, m4, c4, d4, E4, R4, p4, A4⟩ => ?_⟩
  cases (show v2 = d2 from p2)
  cases (show v3 = d3 from p3)
  cases (show v4 = d4 from p4)
  have p := Rep.ext (Rep.ext (Rep.ext p1 E2) E3) E4
  have A4 : After (rD X.K) X.K I4 m4 H4 (fun cls dd H' => W cls dd σ H') Q (match lstC d1 c4 with
    | some ds => if v4 ≠ some 0 ∧ (cut3 ds v2 v3 v4).length ≤ sizeLine then .ok (.ref c4.length) (c4 ++ [.lst (cut3 ds v2 v3 v4)]) else .stuck
    | none => .stuck) := A4
  cases q : lstC d1 c4 with
  | none => rw [q] at A4; exact A4.elim
  | some ds =>
    rw [q] at A4
    have A4 : After (rD X.K) X.K I4 m4 H4 (fun cls dd H' => W cls dd σ H') Q (if v4 ≠ some 0 ∧ (cut3 ds v2 v3 v4).length ≤ sizeLine then .ok (.ref c4.length) (c4 ++ [.lst (cut3 ds v2 v3 v4)]) else .stuck) := A4
    by_cases hz : v4 ≠ some 0 ∧ (cut3 ds v2 v3 v4).length ≤ sizeLine
    · rw [if_pos hz] at A4
      obtain ⟨a, vs, rfl, h1, h2⟩ := lstC_at R4 p q
      have hl2 := h2.length
      have rr : Reps X.K I4 m4 (cut3 vs v2 v3 v4) (cut3 ds v2 v3 v4) := by
        unfold cut3
        rw [hl2]
        exact reps_pick h2 _
      refine ⟨a, vs, rfl, SqL.of h1, hz.1, by rw [rr.length]; exact hz.2, fun q nq => ?_⟩
      obtain ⟨R5, E5⟩ := R4.push nq rr
      refine A4 _ _ _ _ E5 R5 (Rep.ref ?_)
      rw [← R4.len, List.getElem?_append_right (Nat.le_refl _), Nat.sub_self]
      rfl
    · rw [if_neg hz] at A4; exact A4.elim
end
end L2.Mi

namespace L2.Lw
open PySem PySem.Spec PyProof.Rows L2 L2.Mi
def top (i : Nat) : Stmt := PySem.Challenge.pw_weavegraph_k15_shortest_paths.main.body.getD i (.Pass ⟨0, 0, 0, 0⟩)
abbrev s_law_box : Stmt := top 30
abbrev s_law_cell : Stmt := top 29
abbrev sis_sequence : Stmt := top 12
abbrev sis_pattern : Stmt := top 18
abbrev sare_rows : Stmt := top 19
abbrev sCloth____init__ : Stmt := inClass (top 21) 1
abbrev s_law_threads : Stmt := top 33
abbrev s_law_take : Stmt := top 31
abbrev s_law_over : Stmt := top 34
abbrev s_law_lengths : Stmt := top 35
abbrev sneed_cloth : Stmt := top 22
abbrev sis_integer : Stmt := top 11
abbrev sis_thread : Stmt := top 13
abbrev sCloth__weft_count : Stmt := inClass (top 21) 12
abbrev sCloth__warp_count : Stmt := inClass (top 21) 11
abbrev sCloth____contains__ : Stmt := inClass (top 21) 6
abbrev sneed_member : Stmt := top 24
abbrev sCloth__threads : Stmt := inClass (top 21) 14
abbrev sCloth__crossed : Stmt := inClass (top 21) 15
abbrev scrossing_of : Stmt := top 15
abbrev sis_crossing : Stmt := top 14
abbrev sCloth____getitem__ : Stmt := inClass (top 21) 7
abbrev sCloth__over : Stmt := inClass (top 21) 16
abbrev sCloth__below : Stmt := inClass (top 21) 17
abbrev spaths_from : Stmt := top 25
abbrev spath_between : Stmt := top 26
abbrev sshortest_path : Stmt := top 27
abbrev s_law_path_right : Stmt := top 36
abbrev s_law_right : Stmt := top 37
abbrev s_law_rows : Stmt := top 32
abbrev slaw : Stmt := top 38
abbrev sxInvalidCloth : Stmt := inClass (top 6) 0
abbrev sxInvalidCrossing : Stmt := inClass (top 4) 0
abbrev sxInvalidRows : Stmt := inClass (top 5) 0
abbrev sxInvalidThread : Stmt := inClass (top 3) 0
def c_law_box : MS := sRet (mLstM (aCons (mCB max2 (aCons (mC (.int 0)) (aCons (mOp subD (mVar 0) (mOp powI (mC (.int 10)) (mC (.int 18)))) (aNil)))) (aCons (mOp modI (mVar 0) (mC (.int 2147483629))) (aCons (mC (.int 0)) (aNil)))))
abbrev g_law_box : List D → Cs → R D := mFun 1 1 c_law_box
theorem sc_law_box : FnScope ["_law_cell_here"] ["_law_cell_here"] (defScope s_law_box) := ⟨rfl, rfl, rfl, by decide +kernel, rfl, by decide +kernel, by decide +kernel⟩
def c_law_cell : MS := sRet (mIf (mT (mOp ltD (mVar 1) (mCB lenD (aCons (mVar 0) (aNil))))) (mOp itemD (mVar 0) (mVar 1)) (mOp addD (mOp mulI (mC (.int 7933)) (mVar 1)) (mC (.int 313))))
abbrev g_law_cell : List D → Cs → R D := mFun 2 2 c_law_cell
theorem sc_law_cell : FnScope ["_law_script", "_law_k"] ["_law_script", "_law_k"] (defScope s_law_cell) := ⟨rfl, rfl, rfl, by decide +kernel, rfl, by decide +kernel, by decide +kernel⟩
def cis_sequence : MS := sRet (mCB isiD (aCons (mVar 0) (aCons (mTup (aCons (mC (.ty "list")) (aCons (mC (.ty "tuple")) (aNil)))) (aNil))))
abbrev gis_sequence : List D → Cs → R D := mFun 1 1 cis_sequence
theorem scis_sequence : FnScope ["value"] ["value"] (defScope sis_sequence) := ⟨rfl, rfl, rfl, by decide +kernel, rfl, by decide +kernel, by decide +kernel⟩
def cis_pattern : MS := sRet (mAnd (mCB isiD (aCons (mVar 0) (aCons (mC (.ty "str")) (aNil)))) (mAnd (mOp eqX (mCB lenD (aCons (mVar 0) (aNil))) (mVar 1)) (mCB allD (aCons (mLcW (kAny (mVar 0)) [2] (gN 2) (tYesM) (mOp (inY false) (mVar 2) (mC (.str "01")))) (aNil)))))
abbrev gis_pattern : List D → Cs → R D := mFun 3 2 cis_pattern
theorem scis_pattern : FnScope ["value", "length", "sign"] ["value", "length"] (defScope sis_pattern) := ⟨rfl, rfl, rfl, by decide +kernel, rfl, by decide +kernel, by decide +kernel⟩
def care_rows : MS := sSeq (sIf (tOrM (tNotM (mT (mCB gis_sequence (aCons (mVar 0) (aNil))))) (tNotM (mT (mChain leD leD (mC (.int 1)) (mCB lenD (aCons (mVar 0) (aNil))) (mVar 1))))) (sRet (mC (.bl false))) (sNil)) (sSeq (sIf (tOrM (tNotM (mT (mCB isiD (aCons (mOp itemD (mVar 0) (mC (.int 0))) (aCons (mC (.ty "str")) (aNil)))))) (tNotM (mT (mChain leD leD (mC (.int 1)) (mCB lenD (aCons (mOp itemD (mVar 0) (mC (.int 0))) (aNil))) (mVar 1))))) (sRet (mC (.bl false))) (sNil)) (sRet (mCB allD (aCons (mLcW (kAny (mVar 0)) [2] (gN 2) (tYesM) (mCB gis_pattern (aCons (mVar 2) (aCons (mCB lenD (aCons (mOp itemD (mVar 0) (mC (.int 0))) (aNil))) (aNil))))) (aNil)))))
abbrev gare_rows : List D → Cs → R D := mFun 3 2 care_rows
theorem scare_rows : FnScope ["value", "most", "row"] ["value", "most"] (defScope sare_rows) := ⟨rfl, rfl, rfl, by decide +kernel, rfl, by decide +kernel, by decide +kernel⟩
def cCloth____init__ : MS := sSeq (sIf (tNotM (mT (mCB gare_rows (aCons (mVar 1) (aCons (mC (.int 8)) (aNil)))))) (sRaise "InvalidRows" "value" (mVar 1)) (sNil)) (sFldM ["Cloth"] "kept_rows" (mVar 0) (mCB listD (aCons (mVar 1) (aNil))))
abbrev gCloth____init__ : List D → Cs → R D := mFun 2 2 cCloth____init__
theorem scCloth____init__ : FnScope ["self", "rows"] ["self", "rows"] (defScope sCloth____init__) := ⟨rfl, rfl, rfl, by decide +kernel, rfl, by decide +kernel, by decide +kernel⟩
def c_law_threads : MS := sRet (mOp addD (mLc (iR1 (aCons (mCB lenD (aCons (mOp itemD (mVar 0) (mC (.int 0))) (aNil))) (aNil))) [1] (gN 1) (tYesM) (mTup (aCons (mC (.str "warp")) (aCons (mVar 1) (aNil))))) (mLc (iR1 (aCons (mCB lenD (aCons (mVar 0) (aNil))) (aNil))) [2] (gN 2) (tYesM) (mTup (aCons (mC (.str "weft")) (aCons (mVar 2) (aNil))))))
abbrev g_law_threads : List D → Cs → R D := mFun 3 1 c_law_threads
theorem sc_law_threads : FnScope ["_law_rows_here", "_law_i", "_law_j"] ["_law_rows_here"] (defScope s_law_threads) := ⟨rfl, rfl, rfl, by decide +kernel, rfl, by decide +kernel, by decide +kernel⟩
def c_law_take : MS := sSeq (sIf (mT (mOp gtD (mOp itemD (mVar 0) (mC (.int 0))) (mC (.int 0)))) (sSeq (sSet 3 (mOp modI (mOp itemD (mVar 0) (mC (.int 0))) (mVar 1))) (sSeq (sAsg (mOp divI (mOp itemD (mVar 0) (mC (.int 0))) (mVar 1)) (gS (mVar 0) (mC (.int 0)))) (sRet (mVar 3)))) (sNil)) (sSeq (sAsg (mOp addD (mOp itemD (mVar 0) (mC (.int 2))) (mC (.int 1))) (gS (mVar 0) (mC (.int 2)))) (sSeq (sSet 2 (mOp modI (mOp powI (mOp addD (mOp addD (mOp itemD (mVar 0) (mC (.int 1))) (mOp mulI (mC (.int 7933)) (mOp itemD (mVar 0) (mC (.int 2))))) (mC (.int 313))) (mC (.int 5))) (mC (.int 2147483647)))) (sSeq (sSet 2 (mOp modI (mOp powI (mOp addD (mVar 2) (mOp mulI (mC (.int 104729)) (mOp itemD (mVar 0) (mC (.int 2))))) (mC (.int 3))) (mC (.int 2147483587)))) (sRet (mOp modI (mOp divI (mVar 2) (mC (.int 16))) (mVar 1))))))
abbrev g_law_take : List D → Cs → R D := mFun 4 2 c_law_take
theorem sc_law_take : FnScope ["_law_box_here", "_law_many", "_law_mixed", "_law_digit"] ["_law_box_here", "_law_many"] (defScope s_law_take) := ⟨rfl, rfl, rfl, by decide +kernel, rfl, by decide +kernel, by decide +kernel⟩
def c_law_over : MS := sSeq (sIf (mT (mOp eqX (mOp itemD (mVar 1) (mC (.int 0))) (mC (.str "warp")))) (sRet (mAnd (mOp eqX (mOp itemD (mVar 2) (mC (.int 0))) (mC (.str "weft"))) (mOp eqX (mOp itemD (mOp itemD (mVar 0) (mOp itemD (mVar 2) (mC (.int 1)))) (mOp itemD (mVar 1) (mC (.int 1)))) (mC (.str "1"))))) (sNil)) (sRet (mAnd (mOp eqX (mOp itemD (mVar 2) (mC (.int 0))) (mC (.str "warp"))) (mOp eqX (mOp itemD (mOp itemD (mVar 0) (mOp itemD (mVar 1) (mC (.int 1)))) (mOp itemD (mVar 2) (mC (.int 1)))) (mC (.str "0")))))
abbrev g_law_over : List D → Cs → R D := mFun 3 3 c_law_over
theorem sc_law_over : FnScope ["_law_rows_here", "_law_one", "_law_other"] ["_law_rows_here", "_law_one", "_law_other"] (defScope s_law_over) := ⟨rfl, rfl, rfl, by decide +kernel, rfl, by decide +kernel, by decide +kernel⟩
def c_law_lengths : MS := sSeq (sSet 2 (mCB g_law_threads (aCons (mVar 0) (aNil)))) (sSeq (sSet 3 (mCB dictTM (aCons (mLcW (kAny (mVar 2)) [5] (gN 5) (tYesM) (mTup (aCons (mVar 5) (aCons (mC (.int 99)) (aNil))))) (aNil)))) (sSeq (sAsg (mC (.int 1)) (gST (mVar 3) (mVar 1))) (sSeq (sFor (iR1 (aCons (mCB lenD (aCons (mVar 2) (aNil))) (aNil))) (gN 4) (sForW (kAny (mVar 2)) (gN 5) (sSeq (sSet 6 (mLcW (kAny (mVar 2)) [7] (gN 7) (mT (mCB g_law_over (aCons (mVar 0) (aCons (mVar 7) (aCons (mVar 5) (aNil)))))) (mOp addD (mOp dgetTI (mVar 3) (mVar 7)) (mC (.int 1))))) (sAsg (mCB minY (aCons (mOp addD (mVar 6) (mLst (aCons (mOp dgetTI (mVar 3) (mVar 5)) (aNil)))) (aNil))) (gST (mVar 3) (mVar 5)))))) (sRet (mVar 3)))))
abbrev g_law_lengths : List D → Cs → R D := mFun 8 2 c_law_lengths
theorem sc_law_lengths : FnScope ["_law_rows_here", "_law_start", "_law_threads_here", "_law_found", "_law_lap", "_law_one", "_law_near", "_law_other"] ["_law_rows_here", "_law_start"] (defScope s_law_lengths) := ⟨rfl, rfl, rfl, by decide +kernel, rfl, by decide +kernel, by decide +kernel⟩
def cneed_cloth : MS := sIf (tNotM (mT (mIso "Cloth" ["Cloth"] (mVar 0)))) (sRaise "InvalidCloth" "value" (mVar 0)) (sNil)
abbrev gneed_cloth : List D → Cs → R D := mFun 1 1 cneed_cloth
theorem scneed_cloth : FnScope ["value"] ["value"] (defScope sneed_cloth) := ⟨rfl, rfl, rfl, by decide +kernel, rfl, by decide +kernel, by decide +kernel⟩
def cis_integer : MS := sRet (mAnd (mCB isiD (aCons (mVar 0) (aCons (mC (.ty "int")) (aNil)))) (mAnd (mNot (mCB isiD (aCons (mVar 0) (aCons (mC (.ty "bool")) (aNil))))) (mChain leD leD (mVar 1) (mVar 0) (mVar 2))))
abbrev gis_integer : List D → Cs → R D := mFun 3 3 cis_integer
theorem scis_integer : FnScope ["value", "low", "high"] ["value", "low", "high"] (defScope sis_integer) := ⟨rfl, rfl, rfl, by decide +kernel, rfl, by decide +kernel, by decide +kernel⟩
def cis_thread : MS := sSeq (sMatch2 (mVar 0) 3 4 (tAndM (mT (mCB isiD (aCons (mVar 0) (aCons (mC (.ty "tuple")) (aNil))))) (tAndM (mT (mCB isiD (aCons (mVar 3) (aCons (mC (.ty "str")) (aNil))))) (mT (mOp (inY false) (mVar 3) (mC (.tup [.str "warp", .str "weft"])))))) (sRet (mCB gis_integer (aCons (mVar 4) (aCons (mC (.int 0)) (aCons (mOp subD (mIf (mT (mOp eqX (mVar 3) (mC (.str "warp")))) (mVar 1) (mVar 2)) (mC (.int 1))) (aNil))))))) (sRet (mC (.bl false)))
abbrev gis_thread : List D → Cs → R D := mFun 5 3 cis_thread
theorem scis_thread : FnScope ["value", "warps", "wefts", "kind", "number"] ["value", "warps", "wefts"] (defScope sis_thread) := ⟨rfl, rfl, rfl, by decide +kernel, rfl, by decide +kernel, by decide +kernel⟩
def cCloth__weft_count : MS := sRet (mCB lenD (aCons (mFld ["Cloth"] "kept_rows" (mVar 0)) (aNil)))
abbrev gCloth__weft_count : List D → Cs → R D := mFun 1 1 cCloth__weft_count
theorem scCloth__weft_count : FnScope ["self"] ["self"] (defScope sCloth__weft_count) := ⟨rfl, rfl, rfl, by decide +kernel, rfl, by decide +kernel, by decide +kernel⟩
def cCloth__warp_count : MS := sRet (mCB lenD (aCons (mOp itemD (mFld ["Cloth"] "kept_rows" (mVar 0)) (mC (.int 0))) (aNil)))
abbrev gCloth__warp_count : List D → Cs → R D := mFun 1 1 cCloth__warp_count
theorem scCloth__warp_count : FnScope ["self"] ["self"] (defScope sCloth__warp_count) := ⟨rfl, rfl, rfl, by decide +kernel, rfl, by decide +kernel, by decide +kernel⟩
def cCloth____contains__ : MS := sRet (mCB gis_thread (aCons (mVar 1) (aCons (mProp [("Cloth", gCloth__warp_count)] (mVar 0)) (aCons (mProp [("Cloth", gCloth__weft_count)] (mVar 0)) (aNil)))))
abbrev gCloth____contains__ : List D → Cs → R D := mFun 2 2 cCloth____contains__
theorem scCloth____contains__ : FnScope ["self", "value"] ["self", "value"] (defScope sCloth____contains__) := ⟨rfl, rfl, rfl, by decide +kernel, rfl, by decide +kernel, by decide +kernel⟩
def cneed_member : MS := sIf (mT (mOp (inI [("Cloth", gCloth____contains__)] true (inY true)) (mVar 1) (mVar 0))) (sRaise "InvalidThread" "value" (mVar 1)) (sNil)
abbrev gneed_member : List D → Cs → R D := mFun 2 2 cneed_member
theorem scneed_member : FnScope ["cloth", "value"] ["cloth", "value"] (defScope sneed_member) := ⟨rfl, rfl, rfl, by decide +kernel, rfl, by decide +kernel, by decide +kernel⟩
def cCloth__threads : MS := sSeq (sSet 1 (mLc (iR1 (aCons (mProp [("Cloth", gCloth__warp_count)] (mVar 0)) (aNil))) [2] (gN 2) (tYesM) (mTup (aCons (mC (.str "warp")) (aCons (mVar 2) (aNil)))))) (sRet (mLst (aStar (mVar 1) (aStar (mLc (iR1 (aCons (mProp [("Cloth", gCloth__weft_count)] (mVar 0)) (aNil))) [2] (gN 2) (tYesM) (mTup (aCons (mC (.str "weft")) (aCons (mVar 2) (aNil))))) (aNil)))))
abbrev gCloth__threads : List D → Cs → R D := mFun 3 1 cCloth__threads
theorem scCloth__threads : FnScope ["self", "warps", "number"] ["self"] (defScope sCloth__threads) := ⟨rfl, rfl, rfl, by decide +kernel, rfl, by decide +kernel, by decide +kernel⟩
def cCloth__crossed : MS := sSeq (sIf (mT (mOp (inI [("Cloth", gCloth____contains__)] true (inY true)) (mVar 1) (mVar 0))) (sRaise "InvalidThread" "value" (mVar 1)) (sNil)) (sRet (mLc (iLst (mMeth [("Cloth", gCloth__threads)] "threads" (mVar 0) aNil)) [2] (gN 2) (mT (mOp neX (mOp itemD (mVar 2) (mC (.int 0))) (mOp itemD (mVar 1) (mC (.int 0))))) (mVar 2)))
abbrev gCloth__crossed : List D → Cs → R D := mFun 3 2 cCloth__crossed
theorem scCloth__crossed : FnScope ["self", "thread", "other"] ["self", "thread"] (defScope sCloth__crossed) := ⟨rfl, rfl, rfl, by decide +kernel, rfl, by decide +kernel, by decide +kernel⟩
def ccrossing_of : MS := sSeq (sIf (mT (mOp eqX (mOp itemD (mVar 0) (mC (.int 0))) (mOp itemD (mVar 1) (mC (.int 0))))) (sRet (mC .non)) (sNil)) (sRet (mIf (mT (mOp eqX (mOp itemD (mVar 0) (mC (.int 0))) (mC (.str "warp")))) (mTup (aCons (mOp itemD (mVar 0) (mC (.int 1))) (aCons (mOp itemD (mVar 1) (mC (.int 1))) (aNil)))) (mTup (aCons (mOp itemD (mVar 1) (mC (.int 1))) (aCons (mOp itemD (mVar 0) (mC (.int 1))) (aNil))))))
abbrev gcrossing_of : List D → Cs → R D := mFun 2 2 ccrossing_of
theorem sccrossing_of : FnScope ["one", "other"] ["one", "other"] (defScope scrossing_of) := ⟨rfl, rfl, rfl, by decide +kernel, rfl, by decide +kernel, by decide +kernel⟩
def cis_crossing : MS := sSeq (sIf (tOrM (tNotM (mT (mCB isiD (aCons (mVar 0) (aCons (mC (.ty "tuple")) (aNil)))))) (mT (mOp neX (mCB lenD (aCons (mVar 0) (aNil))) (mC (.int 2))))) (sRet (mC (.bl false))) (sNil)) (sRet (mAnd (mCB gis_integer (aCons (mOp itemD (mVar 0) (mC (.int 0))) (aCons (mC (.int 0)) (aCons (mOp subD (mVar 1) (mC (.int 1))) (aNil))))) (mCB gis_integer (aCons (mOp itemD (mVar 0) (mC (.int 1))) (aCons (mC (.int 0)) (aCons (mOp subD (mVar 2) (mC (.int 1))) (aNil)))))))
abbrev gis_crossing : List D → Cs → R D := mFun 3 3 cis_crossing
theorem scis_crossing : FnScope ["value", "warps", "wefts"] ["value", "warps", "wefts"] (defScope sis_crossing) := ⟨rfl, rfl, rfl, by decide +kernel, rfl, by decide +kernel, by decide +kernel⟩
def cCloth____getitem__ : MS := sSeq (sIf (tNotM (mT (mCB gis_crossing (aCons (mVar 1) (aCons (mProp [("Cloth", gCloth__warp_count)] (mVar 0)) (aCons (mProp [("Cloth", gCloth__weft_count)] (mVar 0)) (aNil))))))) (sRaise "InvalidCrossing" "value" (mVar 1)) (sNil)) (sRet (mOp eqX (mOp itemD (mOp itemD (mFld ["Cloth"] "kept_rows" (mVar 0)) (mOp itemD (mVar 1) (mC (.int 1)))) (mOp itemD (mVar 1) (mC (.int 0)))) (mC (.str "1"))))
abbrev gCloth____getitem__ : List D → Cs → R D := mFun 2 2 cCloth____getitem__
theorem scCloth____getitem__ : FnScope ["self", "crossing"] ["self", "crossing"] (defScope sCloth____getitem__) := ⟨rfl, rfl, rfl, by decide +kernel, rfl, by decide +kernel, by decide +kernel⟩
def cCloth__over : MS := sSeq (sIf (mT (mOp (inI [("Cloth", gCloth____contains__)] true (inY true)) (mVar 1) (mVar 0))) (sRaise "InvalidThread" "value" (mVar 1)) (sNil)) (sSeq (sIf (tOrM (mT (mOp (inI [("Cloth", gCloth____contains__)] true (inY true)) (mVar 2) (mVar 0))) (mT (mOp isD (mCB gcrossing_of (aCons (mVar 1) (aCons (mVar 2) (aNil)))) (mC .non)))) (sRaise "InvalidThread" "value" (mVar 2)) (sNil)) (sRet (mOp eqX (mOp (ixI [("Cloth", gCloth____getitem__)] itemD) (mVar 0) (mCB gcrossing_of (aCons (mVar 1) (aCons (mVar 2) (aNil))))) (mOp eqX (mOp itemD (mVar 1) (mC (.int 0))) (mC (.str "warp"))))))
abbrev gCloth__over : List D → Cs → R D := mFun 3 3 cCloth__over
theorem scCloth__over : FnScope ["self", "one", "other"] ["self", "one", "other"] (defScope sCloth__over) := ⟨rfl, rfl, rfl, by decide +kernel, rfl, by decide +kernel, by decide +kernel⟩
def cCloth__below : MS := sRet (mLc (iLst (mMeth [("Cloth", gCloth__crossed)] "crossed" (mVar 0) (aCons (mVar 1) (aNil)))) [2] (gN 2) (mT (mMeth [("Cloth", gCloth__over)] "over" (mVar 0) (aCons (mVar 1) (aCons (mVar 2) (aNil))))) (mVar 2))
abbrev gCloth__below : List D → Cs → R D := mFun 3 2 cCloth__below
theorem scCloth__below : FnScope ["self", "thread", "other"] ["self", "thread"] (defScope sCloth__below) := ⟨rfl, rfl, rfl, by decide +kernel, rfl, by decide +kernel, by decide +kernel⟩
def cpaths_from : MS := sSeq (sSet 2 (mDictT1 (mVar 1) (mC .non))) (sSeq (sSet 3 (mLstM (aCons (mVar 1) (aNil)))) (sSeq (sSet 4 (mC (.int 0))) (sSeq (whileD (mT (mOp ltD (mVar 4) (mCB lenD (aCons (mVar 3) (aNil))))) (sSeq (sSet 5 (mOp itemD (mVar 3) (mVar 4))) (sSeq (sFor (iLst (mMeth [("Cloth", gCloth__below)] "below" (mVar 0) (aCons (mVar 5) (aNil)))) (gN 6) (sIf (mT (mOp (dinT true) (mVar 6) (mVar 2))) (sSeq (sAsg (mVar 5) (gST (mVar 2) (mVar 6))) (sExpr (mBM appendD (mVar 3) (aCons (mVar 6) (aNil))))) (sNil))) (sAug 4 augA (mC (.int 1))))) 100000) (sRet (mVar 2)))))
abbrev gpaths_from : List D → Cs → R D := mFun 7 2 cpaths_from
theorem scpaths_from : FnScope ["cloth", "thread", "before", "queue", "index", "current", "other"] ["cloth", "thread"] (defScope spaths_from) := ⟨rfl, rfl, rfl, by decide +kernel, rfl, by decide +kernel, by decide +kernel⟩
def cpath_between : MS := sSeq (sSet 3 (mCB gpaths_from (aCons (mVar 0) (aCons (mVar 1) (aNil))))) (sSeq (sIf (mT (mOp (dinT true) (mVar 2) (mVar 3))) (sRet (mC .non)) (sNil)) (sSeq (sSet 4 (mLstM (aCons (mVar 2) (aNil)))) (sSeq (whileD (mT (mOp neX (mOp itemD (mVar 4) (mUn negD (mC (.int 1)))) (mVar 1))) (sExpr (mBM appendD (mVar 4) (aCons (mOp dgetTI (mVar 3) (mOp itemD (mVar 4) (mUn negD (mC (.int 1))))) (aNil)))) 100000) (sRet (mSl3M (mVar 4) (oNone) (oNone) (oSome (mUn negD (mC (.int 1)))))))))
abbrev gpath_between : List D → Cs → R D := mFun 5 3 cpath_between
theorem scpath_between : FnScope ["cloth", "one", "other", "before", "path"] ["cloth", "one", "other"] (defScope spath_between) := ⟨rfl, rfl, rfl, by decide +kernel, rfl, by decide +kernel, by decide +kernel⟩
def cshortest_path : MS := sSeq (sExpr (mCB gneed_cloth (aCons (mVar 0) (aNil)))) (sSeq (sExpr (mCB gneed_member (aCons (mVar 0) (aCons (mVar 1) (aNil))))) (sSeq (sExpr (mCB gneed_member (aCons (mVar 0) (aCons (mVar 2) (aNil))))) (sRet (mCB gpath_between (aCons (mVar 0) (aCons (mVar 1) (aCons (mVar 2) (aNil))))))))
abbrev gshortest_path : List D → Cs → R D := mFun 3 3 cshortest_path
theorem scshortest_path : FnScope ["cloth", "one", "other"] ["cloth", "one", "other"] (defScope sshortest_path) := ⟨rfl, rfl, rfl, by decide +kernel, rfl, by decide +kernel, by decide +kernel⟩
def c_law_path_right : MS := sSeq (sIf (tOrM (tNotM (mT (mCB isiD (aCons (mVar 1) (aCons (mC (.ty "list")) (aNil)))))) (tOrM (mT (mOp neX (mCB lenD (aCons (mVar 1) (aNil))) (mVar 3))) (mT (mOp neX (mLst (aCons (mOp itemD (mVar 1) (mC (.int 0))) (aCons (mOp itemD (mVar 1) (mUn negD (mC (.int 1)))) (aNil)))) (mVar 2))))) (sRet (mC (.bl false))) (sNil)) (sSeq (sIf (mT (mOp (e0 true) (mLcW (kAny (mVar 1)) [4] (gN 4) (tOrM (mT (mOp (inY true) (mVar 4) (mCB g_law_threads (aCons (mVar 0) (aNil))))) (mT (mOp (inY true) (mCB reprX (aCons (mOp itemD (mVar 4) (mC (.int 1))) (aNil))) (mC (.str "01234567"))))) (mVar 4)) (mLst (aNil)))) (sRet (mC (.bl false))) (sNil)) (sRet (mOp (e0 false) (mLc (iR1 (aCons (mOp subD (mVar 3) (mC (.int 1))) (aNil))) [5] (gN 5) (tNotM (mT (mCB g_law_over (aCons (mVar 0) (aCons (mOp itemD (mVar 1) (mVar 5)) (aCons (mOp itemD (mVar 1) (mOp addD (mVar 5) (mC (.int 1)))) (aNil))))))) (mVar 5)) (mLst (aNil)))))
abbrev g_law_path_right : List D → Cs → R D := mFun 6 4 c_law_path_right
theorem sc_law_path_right : FnScope ["_law_rows_here", "_law_path", "_law_ends", "_law_many", "_law_one", "_law_k"] ["_law_rows_here", "_law_path", "_law_ends", "_law_many"] (defScope s_law_path_right) := ⟨rfl, rfl, rfl, by decide +kernel, rfl, by decide +kernel, by decide +kernel⟩
def c_law_right : MS := sSeq (sSet 2 (mFrzI (mMake "Cloth" gCloth____init__ (aCons (mVar 1) (aNil))))) (sSeq (sForW (kAny (mSl3 (mCB g_law_threads (aCons (mVar 1) (aNil))) (oSome (mCB g_law_take (aCons (mVar 0) (aCons (mC (.int 4)) (aNil))))) (oNone) (oSome (mC (.int 4))))) (gN 3) (sSeq (sSet 5 (mCB g_law_lengths (aCons (mVar 1) (aCons (mVar 3) (aNil))))) (sFor (iLst (mCB g_law_threads (aCons (mVar 1) (aNil)))) (gN 6) (sFor (iR1 (aCons (mC (.int 2)) (aNil))) (gN 9) (sSeq (sSet 10 (mCB gshortest_path (aCons (mVar 2) (aCons (mVar 3) (aCons (mVar 6) (aNil)))))) (sIf (mT (mOp eqX (mOp dgetTI (mVar 5) (mVar 6)) (mC (.int 99)))) (sIf (mT (mOp isntD (mVar 10) (mC .non))) (sRet (mC (.bl false))) (sNil)) (sIf (tNotM (mT (mCB g_law_path_right (aCons (mVar 1) (aCons (mVar 10) (aCons (mLst (aCons (mVar 3) (aCons (mVar 6) (aNil)))) (aCons (mOp dgetTI (mVar 5) (mVar 6)) (aNil)))))))) (sRet (mC (.bl false))) (sExpr (mBM appendD (mVar 10) (aCons (mC .non) (aNil))))))))))) (sSeq (sAsg (mTup (aCons (mFrzI (mMake "Cloth" gCloth____init__ (aCons (mCB tupleD (aCons (mVar 1) (aNil))) (aNil)))) (aCons (mOp itemD (mCB g_law_threads (aCons (mVar 1) (aNil))) (mUn negD (mC (.int 1)))) (aNil)))) (gT [7, 8])) (sSeq (sSet 4 (mSl3 (mCB g_law_threads (aCons (mVar 1) (aNil))) (oNone) (oNone) (oSome (mC (.int 3))))) (sRet (mOp (e0 false) (mLcW (kAny (mVar 4)) [3] (gN 3) (mT (mOp neX (mCB gshortest_path (aCons (mVar 7) (aCons (mVar 3) (aCons (mVar 8) (aNil))))) (mCB gshortest_path (aCons (mVar 2) (aCons (mVar 3) (aCons (mVar 8) (aNil))))))) (mVar 3)) (mLst (aNil)))))))
abbrev g_law_right : List D → Cs → R D := mFun 11 2 c_law_right
theorem sc_law_right : FnScope ["_law_box_here", "_law_rows_here", "_law_cloth", "_law_one", "_law_some", "_law_lengths_here", "_law_other", "_law_again", "_law_last", "_law_turn", "_law_path"] ["_law_box_here", "_law_rows_here"] (defScope s_law_right) := ⟨rfl, rfl, rfl, by decide +kernel, rfl, by decide +kernel, by decide +kernel⟩
def c_law_rows : MS := sSeq (sPar [3, 4, 5] (aCons (mOp addD (mC (.int 1)) (mCB g_law_take (aCons (mVar 0) (aCons (mC (.int 8)) (aNil))))) (aCons (mOp addD (mC (.int 1)) (mCB g_law_take (aCons (mVar 0) (aCons (mC (.int 8)) (aNil))))) (aCons (mCB g_law_take (aCons (mVar 0) (aCons (mC (.int 4)) (aNil)))) (aNil))))) (sSeq (sSet 1 (mLstM (aNil))) (sSeq (sFor (iR1 (aCons (mVar 4) (aNil))) (gN 2) (sSeq (sSet 6 (mCB g_law_take (aCons (mVar 0) (aCons (mOp addD (mVar 3) (mC (.int 1))) (aNil))))) (sSeq (sSet 7 (mOp addD (mOp (mulX false) (mC (.str "1")) (mVar 6)) (mOp (mulX false) (mC (.str "0")) (mOp subD (mVar 3) (mVar 6))))) (sSeq (sIf (mT (mOp eqX (mVar 5) (mC (.int 0)))) (sSet 7 (mM1 joinX (mC (.str "")) (mLc (iR1 (aCons (mVar 3) (aNil))) [9] (gN 9) (tYesM) (mOp itemD (mLst (aCons (mC (.str "0")) (aCons (mC (.str "1")) (aNil)))) (mCB g_law_take (aCons (mVar 0) (aCons (mC (.int 2)) (aNil)))))))) (sNil)) (sSeq (sIf (tAndM (mT (mOp eqX (mVar 5) (mC (.int 2)))) (mT (mOp eqX (mCB g_law_take (aCons (mVar 0) (aCons (mC (.int 2)) (aNil)))) (mC (.int 0))))) (sSeq (sSet 8 (mCB g_law_take (aCons (mVar 0) (aCons (mVar 3) (aNil))))) (sSet 7 (mOp addD (mOp addD (mSliceY (mVar 7) (oNone) (oSome (mVar 8))) (mOp itemD (mLst (aCons (mC (.str "1")) (aCons (mC (.str "0")) (aNil)))) (mCB intFD (aCons (mOp itemD (mVar 7) (mVar 8)) (aNil))))) (mSliceY (mVar 7) (oSome (mOp addD (mVar 8) (mC (.int 1)))) (oNone))))) (sNil)) (sSeq (sIf (tAndM (mT (mOp eqX (mVar 5) (mC (.int 3)))) (tAndM (mT (mOp gtD (mVar 2) (mC (.int 1)))) (mT (mOp gtD (mCB g_law_take (aCons (mVar 0) (aCons (mC (.int 3)) (aNil)))) (mC (.int 0)))))) (sSet 7 (mOp itemD (mVar 1) (mCB g_law_take (aCons (mVar 0) (aCons (mVar 2) (aNil)))))) (sNil)) (sExpr (mBM appendD (mVar 1) (aCons (mVar 7) (aNil)))))))))) (sRet (mFrz (mVar 1)))))
abbrev g_law_rows : List D → Cs → R D := mFun 10 1 c_law_rows
theorem sc_law_rows : FnScope ["_law_box_here", "_law_found", "_law_weft", "_law_warps", "_law_wefts", "_law_way", "_law_cut", "_law_row", "_law_at", "_law_warp"] ["_law_box_here"] (defScope s_law_rows) := ⟨rfl, rfl, rfl, by decide +kernel, rfl, by decide +kernel, by decide +kernel⟩
def claw : MS := sSeq (sFor (iR1 (aCons (mCB max2 (aCons (mC (.int 2)) (aCons (mCB min2 (aCons (mC (.int 5)) (aCons (mCB lenD (aCons (mVar 0) (aNil))) (aNil)))) (aNil)))) (aNil))) (gN 1) (sSeq (sSet 2 (mCB g_law_box (aCons (mCB g_law_cell (aCons (mVar 0) (aCons (mVar 1) (aNil)))) (aNil)))) (sIf (tNotM (mT (mCB g_law_right (aCons (mVar 2) (aCons (mCB g_law_rows (aCons (mVar 2) (aNil))) (aNil)))))) (sRet (mC (.bl false))) (sNil)))) (sRet (mC (.bl true)))
abbrev glaw : List D → Cs → R D := mFun 3 1 claw
theorem sclaw : FnScope ["_law_script", "_law_k", "_law_box_here"] ["_law_script"] (defScope slaw) := ⟨rfl, rfl, rfl, by decide +kernel, rfl, by decide +kernel, by decide +kernel⟩
/-- what the top leaves -/
structure Txt (P : Program) (K : PySem.W.Frag) (mg : Str → Option Value) where
  b_all : mg "all" = none
  b_bool : mg "bool" = none
  b_dict : mg "dict" = none
  b_int : mg "int" = none
  b_isinstance : mg "isinstance" = none
  b_len : mg "len" = none
  b_list : mg "list" = none
  b_max : mg "max" = none
  b_min : mg "min" = none
  b_range : mg "range" = none
  b_repr : mg "repr" = none
  b_str : mg "str" = none
  b_tuple : mg "tuple" = none
  cKINDS : IsC K mg "KINDS" (.tup [.str "warp", .str "weft"])
  cSIGNS : IsC K mg "SIGNS" (.str "01")
  gx : ∀ n C, PySem.W.nsIn K mainGlobals n = some (some (.ref C)) → mg n = some (.ref C)
  xm : XMod K mg
  x_InvalidCloth : XOwn P K "InvalidCloth" "value"
  x_InvalidCrossing : XOwn P K "InvalidCrossing" "value"
  x_InvalidRows : XOwn P K "InvalidRows" "value"
  x_InvalidThread : XOwn P K "InvalidThread" "value"
  fl_Cloth_kept_rows : FldK K "Cloth" "kept_rows"
  cc_Cloth_MOST : CCI K "Cloth" "MOST" 8
  iso_Cloth : IsoK K "Cloth" ["Cloth"]
  sp_Cloth___contains__ : ∃ C f, NamV K "Cloth" (.ref C) ∧ (PySem.W.findIn K (.ref C) "__contains__" = some (some (.ref f)) ∧ PySem.W.isFn K (.ref f) = true ∧ PySem.W.fnIn K f = true ∧ PySem.W.selfFirst K C = true) ∧ OwnF K "__contains__" "Cloth.__contains__" sCloth____contains__ ["self", "value"] f
  sp_Cloth___getitem__ : ∃ C f, NamV K "Cloth" (.ref C) ∧ (PySem.W.findIn K (.ref C) "__getitem__" = some (some (.ref f)) ∧ PySem.W.isFn K (.ref f) = true ∧ PySem.W.fnIn K f = true ∧ PySem.W.selfFirst K C = true) ∧ OwnF K "__getitem__" "Cloth.__getitem__" sCloth____getitem__ ["self", "crossing"] f
  mk_Cloth : ∃ C f, PySem.W.nsIn K mainGlobals "Cloth" = some (some (.ref C)) ∧ Mk K C f ∧ OwnF K "__init__" "Cloth.__init__" sCloth____init__ ["self", "rows"] f
  me_Cloth_below : ∃ C f, NamV K "Cloth" (.ref C) ∧ Cls K C ∧ Meth K C "below" f ∧ OwnF K "below" "Cloth.below" sCloth__below ["self", "thread"] f
  me_Cloth_crossed : ∃ C f, NamV K "Cloth" (.ref C) ∧ Cls K C ∧ Meth K C "crossed" f ∧ OwnF K "crossed" "Cloth.crossed" sCloth__crossed ["self", "thread"] f
  me_Cloth_over : ∃ C f, NamV K "Cloth" (.ref C) ∧ Cls K C ∧ Meth K C "over" f ∧ OwnF K "over" "Cloth.over" sCloth__over ["self", "one", "other"] f
  me_Cloth_threads : ∃ C f, NamV K "Cloth" (.ref C) ∧ Cls K C ∧ Meth K C "threads" f ∧ OwnF K "threads" "Cloth.threads" sCloth__threads ["self"] f
  pr_Cloth_warp_count : ∃ C p f, NamV K "Cloth" (.ref C) ∧ Cls K C ∧ PropOf K C "warp_count" p f ∧ OwnF K "warp_count" "Cloth.warp_count" sCloth__warp_count ["self"] f
  pr_Cloth_weft_count : ∃ C p f, NamV K "Cloth" (.ref C) ∧ Cls K C ∧ PropOf K C "weft_count" p f ∧ OwnF K "weft_count" "Cloth.weft_count" sCloth__weft_count ["self"] f
  f_law_box : Own K mg "_law_box" s_law_box ["_law_cell_here"]
  f_law_cell : Own K mg "_law_cell" s_law_cell ["_law_script", "_law_k"]
  fis_sequence : Own K mg "is_sequence" sis_sequence ["value"]
  fis_pattern : Own K mg "is_pattern" sis_pattern ["value", "length"]
  fare_rows : Own K mg "are_rows" sare_rows ["value", "most"]
  f_law_threads : Own K mg "_law_threads" s_law_threads ["_law_rows_here"]
  f_law_take : Own K mg "_law_take" s_law_take ["_law_box_here", "_law_many"]
  f_law_over : Own K mg "_law_over" s_law_over ["_law_rows_here", "_law_one", "_law_other"]
  f_law_lengths : Own K mg "_law_lengths" s_law_lengths ["_law_rows_here", "_law_start"]
  fneed_cloth : Own K mg "need_cloth" sneed_cloth ["value"]
  fis_integer : Own K mg "is_integer" sis_integer ["value", "low", "high"]
  fis_thread : Own K mg "is_thread" sis_thread ["value", "warps", "wefts"]
  fneed_member : Own K mg "need_member" sneed_member ["cloth", "value"]
  fcrossing_of : Own K mg "crossing_of" scrossing_of ["one", "other"]
  fis_crossing : Own K mg "is_crossing" sis_crossing ["value", "warps", "wefts"]
  fpaths_from : Own K mg "paths_from" spaths_from ["cloth", "thread"]
  fpath_between : Own K mg "path_between" spath_between ["cloth", "one", "other"]
  fshortest_path : Own K mg "shortest_path" sshortest_path ["cloth", "one", "other"]
  f_law_path_right : Own K mg "_law_path_right" s_law_path_right ["_law_rows_here", "_law_path", "_law_ends", "_law_many"]
  f_law_right : Own K mg "_law_right" s_law_right ["_law_box_here", "_law_rows_here"]
  f_law_rows : Own K mg "_law_rows" s_law_rows ["_law_box_here"]
  flaw : Own K mg "law" slaw ["_law_script"]
structure TxB (P : Program) (K : PySem.W.Frag) (mg : Str → Option Value) (base : Heap) extends Txt P K mg where
  tb : ∀ p ∈ allL, GxR.TabB base mg p.1 p.2
section
variable {P : Program} {w : World} {K : PySem.W.Frag} {mg : Str → Option Value} {base : Heap}
theorem k_law_box (T : TxB P K mg base) : GFn P w K mg base 1 T.f_law_box.a T.f_law_box.fd ["_law_cell_here"] g_law_box := by
  refine gfn_of (k := 0) T.f_law_box.F sc_law_box fun cdv A outer s H E hr hgd => ?_
  have scN := sc_law_box.nd
  have tk := takes_of (X := cxOf (CX P w) P w K mg base ["_law_cell_here"] "_law_box" (defScope s_law_box) T.f_law_box.a cdv A outer s H E) (E := E) rfl rfl rfl rfl
  exact ms_one (ms_ret (me_lstM (ma_cons (me_cb (pe_callB (call_max2 rfl) (by rfl) T.b_max bt_max (ma_cons (me_int) (ma_cons (me_op op_sub os_sub (me_var (pv 0)) (me_op op_pow os_powI (me_int) (me_int))) (ma_nil)))) cs_max2) (ma_cons (me_op op_modN os_modI (me_var (pv 0)) (me_int)) (ma_cons (me_int) (ma_nil))))))
theorem k_law_cell (T : TxB P K mg base) : GFn P w K mg base 1 T.f_law_cell.a T.f_law_cell.fd ["_law_script", "_law_k"] g_law_cell := by
  refine gfn_of (k := 0) T.f_law_cell.F sc_law_cell fun cdv A outer s H E hr hgd => ?_
  have scN := sc_law_cell.nd
  have tk := takes_of (X := cxOf (CX P w) P w K mg base ["_law_script", "_law_k"] "_law_cell" (defScope s_law_cell) T.f_law_cell.a cdv A outer s H E) (E := E) rfl rfl rfl rfl
  exact ms_one (ms_ret (me_if (mt_cmp op_ltA os_lt (me_var (pv 1)) (me_cb (pe_callB call_len (by rfl) T.b_len bt_len (ma_cons (me_var (pv 0)) (ma_nil))) cs_len) (nomark _)) (me_ix ix_seq os_item (me_var (pv 0)) (me_var (pv 1)) (fun _ _ => rfl)) (me_op op_addA os_add (me_op op_mul os_mulI (me_int) (me_var (pv 1))) (me_int))))
theorem kis_sequence (T : TxB P K mg base) : GFn P w K mg base 1 T.fis_sequence.a T.fis_sequence.fd ["value"] gis_sequence := by
  refine gfn_of (k := 0) T.fis_sequence.F scis_sequence fun cdv A outer s H E hr hgd => ?_
  have scN := scis_sequence.nd
  have tk := takes_of (X := cxOf (CX P w) P w K mg base ["value"] "is_sequence" (defScope sis_sequence) T.fis_sequence.a cdv A outer s H E) (E := E) rfl rfl rfl rfl
  exact ms_one (ms_ret (me_cb (pe_callB call_isiA (by rfl) T.b_isinstance bt_isinstance (ma_cons (me_var (pv 0)) (ma_cons (me_tup (ma_cons (me_c (pe_bltn (v := .ty "list") (by rfl) T.b_list bt_list rfl) (fun _ _ => .ty _)) (ma_cons (me_c (pe_bltn (v := .ty "tuple") (by rfl) T.b_tuple bt_tuple rfl) (fun _ _ => .ty _)) (ma_nil)))) (ma_nil)))) cs_isi))
theorem kis_pattern (T : TxB P K mg base) : GFn P w K mg base 1 T.fis_pattern.a T.fis_pattern.fd ["value", "length"] gis_pattern := by
  refine gfn_of (k := 0) T.fis_pattern.F scis_pattern fun cdv A outer s H E hr hgd => ?_
  have scN := scis_pattern.nd
  have tk := takes_of (X := cxOf (CX P w) P w K mg base ["value", "length", "sign"] "is_pattern" (defScope sis_pattern) T.fis_pattern.a cdv A outer s H E) (E := E) rfl rfl rfl rfl
  exact ms_one (ms_ret (me_and (me_cb (pe_callB call_isiA (by rfl) T.b_isinstance bt_isinstance (ma_cons (me_var (pv 0)) (ma_cons (me_c (pe_bltn (v := .ty "str") (by rfl) T.b_str bt_str rfl) (fun _ _ => .ty _)) (ma_nil)))) cs_isi) (me_and (me_cmp (op_eqY hr.units) os_eqX (me_cb (pe_callB call_len (by rfl) T.b_len bt_len (ma_cons (me_var (pv 0)) (ma_nil))) cs_len) (me_var (pv 1)) (nomark _)) (me_one (me_cb (pe_callB (cr_all rfl) (by rfl) T.b_all bt_all (ma_cons (PEi (pe_lc (own := [("sign", 2)]) rfl scN (mk_any (me_var (pv 0))) (blkOk_by (N := ["value", "length", "sign"]) (sc := defScope sis_pattern) (by decide +kernel)) (fun _ _ _ _ _ => pg_name (i := 2) scN rfl (by first | exact Or.inl rfl | exact Or.inr rfl)) (fun _ _ _ _ _ => mts_nil) (fun _ _ _ _ _ => me_cmp (op_inY hr.units) os_inY (me_var (pv 2)) (me_const (by rfl) T.cSIGNS) (by with_unfolding_all rfl))) (fun _ _ _ h => lc_readW (good_name (by decide)) (rg_name) h)) (ma_nil))) cs_all)))))
theorem kare_rows (T : TxB P K mg base) : GFn P w K mg base 2 T.fare_rows.a T.fare_rows.fd ["value", "most"] gare_rows := by
  refine gfn_of (k := 1) T.fare_rows.F scare_rows fun cdv A outer s H E hr hgd => ?_
  have scN := scare_rows.nd
  have tk := takes_of (X := cxOf (CX P w) P w K mg base ["value", "most", "row"] "are_rows" (defScope sare_rows) T.fare_rows.a cdv A outer s H E) (E := E) rfl rfl rfl rfl
  exact ms_cons (ms_if (PW.pt (mw_or (mt_not (mt_val (me_call (kis_sequence T) (hr.mono (by decide)) hgd (by rfl) T.fis_sequence.mgf T.fis_sequence.F.kp T.fis_sequence.b tk (ma_cons (me_var (pv 0)) (ma_nil))))) (mw_or1 (mt_not (mt_chain op_leA os_le op_leA os_le (me_int) (me_cb (pe_callB call_len (by rfl) T.b_len bt_len (ma_cons (me_var (pv 0)) (ma_nil))) cs_len) (me_var (pv 1))))))) (ms_one (ms_ret (me_bl))) (ms_nil)) (ms_cons (ms_if (PW.pt (mw_or (mt_not (mt_val (me_cb (pe_callB call_isiA (by rfl) T.b_isinstance bt_isinstance (ma_cons (me_ix ix_seq os_item (me_var (pv 0)) (me_int) (fun _ _ => rfl)) (ma_cons (me_c (pe_bltn (v := .ty "str") (by rfl) T.b_str bt_str rfl) (fun _ _ => .ty _)) (ma_nil)))) cs_isi))) (mw_or1 (mt_not (mt_chain op_leA os_le op_leA os_le (me_int) (me_cb (pe_callB call_len (by rfl) T.b_len bt_len (ma_cons (me_ix ix_seq os_item (me_var (pv 0)) (me_int) (fun _ _ => rfl)) (ma_nil))) cs_len) (me_var (pv 1))))))) (ms_one (ms_ret (me_bl))) (ms_nil)) (ms_one (ms_ret (me_cb (pe_callB (cr_all rfl) (by rfl) T.b_all bt_all (ma_cons (PEi (pe_lc (own := [("row", 2)]) rfl scN (mk_any (me_var (pv 0))) (blkOk_by (N := ["value", "most", "row"]) (sc := defScope sare_rows) (by decide +kernel)) (fun _ _ _ _ _ => pg_name (i := 2) scN rfl (by first | exact Or.inl rfl | exact Or.inr rfl)) (fun _ _ _ _ _ => mts_nil) (fun _ _ _ _ _ => me_call (kis_pattern T) (hr.mono (by decide)) hgd (by rfl) T.fis_pattern.mgf T.fis_pattern.F.kp T.fis_pattern.b takesW0 (ma_cons (me_var (pv 2)) (ma_cons (me_cb (pe_callB call_len (by rfl) T.b_len bt_len (ma_cons (me_ix ix_seq os_item (me_var (pv 0)) (me_int) (fun _ _ => rfl)) (ma_nil))) cs_len) (ma_nil))))) (fun _ _ _ h => lc_readW (good_name (by decide)) (rg_name) h)) (ma_nil))) cs_all))))
theorem kCloth____init__ (T : TxB P K mg base) {f : Addr} (O : OwnF K "__init__" "Cloth.__init__" sCloth____init__ ["self", "rows"] f) : ∃ fd, GFn P w K mg base 3 f fd ["self", "rows"] gCloth____init__ ∧ Binds K fd ["self", "rows"] [] := by
  obtain ⟨fd, F, hb⟩ := O
  refine ⟨fd, gfn_of (k := 2) F scCloth____init__ fun cdv A outer s H E hr hgd => ?_, hb⟩
  have scN := scCloth____init__.nd
  have tk := takes_of (X := cxOf (CX P w) P w K mg base ["self", "rows"] "Cloth.__init__" (defScope sCloth____init__) f cdv A outer s H E) (E := E) rfl rfl rfl rfl
  exact ms_cons (ms_if (mt_not (mt_val (me_call (kare_rows T) (hr.mono (by decide)) hgd (by rfl) T.fare_rows.mgf T.fare_rows.F.kp T.fare_rows.b tk (ma_cons (me_var (pv 1)) (ma_cons (me_ccI T.cc_Cloth_MOST (by rfl) T.gx) (ma_nil)))))) (ms_one (ms_raise rfl tk T.x_InvalidRows T.xm (hr.mono (by decide)) (by rfl) (T.gx _) (me_var (pv 1)))) (ms_nil)) (ms_one (ms_fld (allc (T.fl_Cloth_kept_rows) (all0)) (me_var (pv 0)) (me_cb (pe_callTy call_list_of (by rfl) T.b_list bt_list (ma_cons (me_var (pv 1)) (ma_nil))) cs_list)))
theorem mkCloth (T : TxB P K mg base) : MakK P w K mg base "Cloth" gCloth____init__ 3 := by
  obtain ⟨C, f, h1, h2, h3⟩ := T.mk_Cloth
  obtain ⟨fd, F, hb⟩ := kCloth____init__ (w := w) (base := base) T h3
  exact ⟨C, f, fd, _, h1, T.gx _ _ h1, h2, F, hb⟩
theorem k_law_threads (T : TxB P K mg base) : GFn P w K mg base 1 T.f_law_threads.a T.f_law_threads.fd ["_law_rows_here"] g_law_threads := by
  refine gfn_of (k := 0) T.f_law_threads.F sc_law_threads fun cdv A outer s H E hr hgd => ?_
  have scN := sc_law_threads.nd
  have tk := takes_of (X := cxOf (CX P w) P w K mg base ["_law_rows_here", "_law_i", "_law_j"] "_law_threads" (defScope s_law_threads) T.f_law_threads.a cdv A outer s H E) (E := E) rfl rfl rfl rfl
  exact ms_one (ms_ret (me_op op_addA os_add (PEi (pe_lc (own := [("_law_i", 1)]) rfl scN (mi_r1 (pi_range1 (by rfl) T.b_range (ma_cons (me_cb (pe_callB call_len (by rfl) T.b_len bt_len (ma_cons (me_ix ix_seq os_item (me_var (pv 0)) (me_int) (fun _ _ => rfl)) (ma_nil))) cs_len) (ma_nil)))) (blkOk_by (N := ["_law_rows_here", "_law_i", "_law_j"]) (sc := defScope s_law_threads) (by decide +kernel)) (fun _ _ _ _ _ => pg_name (i := 1) scN rfl (by first | exact Or.inl rfl | exact Or.inr rfl)) (fun _ _ _ _ _ => mts_nil) (fun _ _ _ _ _ => me_tup (ma_cons (me_str) (ma_cons (me_var (pv 1)) (ma_nil))))) (fun _ _ _ h => lc_read (good_name (by decide)) (rg_name) h)) (PEi (pe_lc (own := [("_law_j", 2)]) rfl scN (mi_r1 (pi_range1 (by rfl) T.b_range (ma_cons (me_cb (pe_callB call_len (by rfl) T.b_len bt_len (ma_cons (me_var (pv 0)) (ma_nil))) cs_len) (ma_nil)))) (blkOk_by (N := ["_law_rows_here", "_law_i", "_law_j"]) (sc := defScope s_law_threads) (by decide +kernel)) (fun _ _ _ _ _ => pg_name (i := 2) scN rfl (by first | exact Or.inl rfl | exact Or.inr rfl)) (fun _ _ _ _ _ => mts_nil) (fun _ _ _ _ _ => me_tup (ma_cons (me_str) (ma_cons (me_var (pv 2)) (ma_nil))))) (fun _ _ _ h => lc_read (good_name (by decide)) (rg_name) h))))
theorem k_law_take (T : TxB P K mg base) : GFn P w K mg base 1 T.f_law_take.a T.f_law_take.fd ["_law_box_here", "_law_many"] g_law_take := by
  refine gfn_of (k := 0) T.f_law_take.F sc_law_take fun cdv A outer s H E hr hgd => ?_
  have scN := sc_law_take.nd
  have tk := takes_of (X := cxOf (CX P w) P w K mg base ["_law_box_here", "_law_many", "_law_mixed", "_law_digit"] "_law_take" (defScope s_law_take) T.f_law_take.a cdv A outer s H E) (E := E) rfl rfl rfl rfl
  exact ms_cons (ms_if (mt_cmp op_gt os_cmpI (me_ix ix_seq os_item (me_var (pv 0)) (me_int) (fun _ _ => rfl)) (me_int) (nomark _)) (ms_cons (ms_set (i := 3) scN rfl (by first | exact Or.inl rfl | exact Or.inr rfl) (me_op op_modN os_modI (me_ix ix_seq os_item (me_var (pv 0)) (me_int) (fun _ _ => rfl)) (me_var (pv 1)))) (ms_cons (ms_asg (me_op op_fdivN os_divI (me_ix ix_seq os_item (me_var (pv 0)) (me_int) (fun _ _ => rfl)) (me_var (pv 1))) (mg_sub (pg_sub (me_var (pv 0)) (me_int) set_list))) (ms_one (ms_ret (me_var (pv 3)))))) (ms_nil)) (ms_cons (ms_asg (me_op op_addA os_add (me_ix ix_seq os_item (me_var (pv 0)) (me_int) (fun _ _ => rfl)) (me_int)) (mg_sub (pg_sub (me_var (pv 0)) (me_int) set_list))) (ms_cons (ms_set (i := 2) scN rfl (by first | exact Or.inl rfl | exact Or.inr rfl) (me_op op_modN os_modI (me_op op_pow os_powI (me_op op_addA os_add (me_op op_addA os_add (me_ix ix_seq os_item (me_var (pv 0)) (me_int) (fun _ _ => rfl)) (me_op op_mul os_mulI (me_int) (me_ix ix_seq os_item (me_var (pv 0)) (me_int) (fun _ _ => rfl)))) (me_int)) (me_int)) (me_int))) (ms_cons (ms_set (i := 2) scN rfl (by first | exact Or.inl rfl | exact Or.inr rfl) (me_op op_modN os_modI (me_op op_pow os_powI (me_op op_addA os_add (me_var (pv 2)) (me_op op_mul os_mulI (me_int) (me_ix ix_seq os_item (me_var (pv 0)) (me_int) (fun _ _ => rfl)))) (me_int)) (me_int))) (ms_one (ms_ret (me_op op_modN os_modI (me_op op_fdivN os_divI (me_var (pv 2)) (me_int)) (me_var (pv 1))))))))
theorem k_law_over (T : TxB P K mg base) : GFn P w K mg base 1 T.f_law_over.a T.f_law_over.fd ["_law_rows_here", "_law_one", "_law_other"] g_law_over := by
  refine gfn_of (k := 0) T.f_law_over.F sc_law_over fun cdv A outer s H E hr hgd => ?_
  have scN := sc_law_over.nd
  have tk := takes_of (X := cxOf (CX P w) P w K mg base ["_law_rows_here", "_law_one", "_law_other"] "_law_over" (defScope s_law_over) T.f_law_over.a cdv A outer s H E) (E := E) rfl rfl rfl rfl
  exact ms_cons (ms_if (mt_cmp (op_eqY hr.units) os_eqX (me_ix ix_seq os_item (me_var (pv 1)) (me_int) (fun _ _ => rfl)) (me_str) (nomark _)) (ms_one (ms_ret (me_and (me_cmp (op_eqY hr.units) os_eqX (me_ix ix_seq os_item (me_var (pv 2)) (me_int) (fun _ _ => rfl)) (me_str) (nomark _)) (me_one (me_cmp (op_eqY hr.units) os_eqX (me_ix ix_seq os_item (me_ix ix_seq os_item (me_var (pv 0)) (me_ix ix_seq os_item (me_var (pv 2)) (me_int) (fun _ _ => rfl)) (fun _ _ => rfl)) (me_ix ix_seq os_item (me_var (pv 1)) (me_int) (fun _ _ => rfl)) (fun _ _ => rfl)) (me_str) (nomark _)))))) (ms_nil)) (ms_one (ms_ret (me_and (me_cmp (op_eqY hr.units) os_eqX (me_ix ix_seq os_item (me_var (pv 2)) (me_int) (fun _ _ => rfl)) (me_str) (nomark _)) (me_one (me_cmp (op_eqY hr.units) os_eqX (me_ix ix_seq os_item (me_ix ix_seq os_item (me_var (pv 0)) (me_ix ix_seq os_item (me_var (pv 1)) (me_int) (fun _ _ => rfl)) (fun _ _ => rfl)) (me_ix ix_seq os_item (me_var (pv 2)) (me_int) (fun _ _ => rfl)) (fun _ _ => rfl)) (me_str) (nomark _))))))
theorem k_law_lengths (T : TxB P K mg base) : GFn P w K mg base 2 T.f_law_lengths.a T.f_law_lengths.fd ["_law_rows_here", "_law_start"] g_law_lengths := by
  refine gfn_of (k := 1) T.f_law_lengths.F sc_law_lengths fun cdv A outer s H E hr hgd => ?_
  have scN := sc_law_lengths.nd
  have tk := takes_of (X := cxOf (CX P w) P w K mg base ["_law_rows_here", "_law_start", "_law_threads_here", "_law_found", "_law_lap", "_law_one", "_law_near", "_law_other"] "_law_lengths" (defScope s_law_lengths) T.f_law_lengths.a cdv A outer s H E) (E := E) rfl rfl rfl rfl
  exact ms_cons (ms_set (i := 2) scN rfl (by first | exact Or.inl rfl | exact Or.inr rfl) (me_call (k_law_threads T) (hr.mono (by decide)) hgd (by rfl) T.f_law_threads.mgf T.f_law_threads.F.kp T.f_law_threads.b tk (ma_cons (me_var (pv 0)) (ma_nil)))) (ms_cons (ms_set (i := 3) scN rfl (by first | exact Or.inl rfl | exact Or.inr rfl) (me_cb (pe_callTy (call_dictT rfl (u2 hr)) (by rfl) T.b_dict bt_dict (ma_cons (PEi (pe_lc (own := [("_law_one", 5)]) rfl scN (mk_any (me_var (pv 2))) (blkOk_by (N := ["_law_rows_here", "_law_start", "_law_threads_here", "_law_found", "_law_lap", "_law_one", "_law_near", "_law_other"]) (sc := defScope s_law_lengths) (by decide +kernel)) (fun _ _ _ _ _ => pg_name (i := 5) scN rfl (by first | exact Or.inl rfl | exact Or.inr rfl)) (fun _ _ _ _ _ => mts_nil) (fun _ _ _ _ _ => me_tup (ma_cons (me_var (pv 5)) (ma_cons (me_int) (ma_nil))))) (fun _ _ _ h => lc_readW (good_name (by decide)) (rg_name) h)) (ma_nil))) cs_dictT)) (ms_cons (ms_asg (me_int) (mg_subT (pg_sub (me_var (pv 3)) (me_var (pv 1)) (set_dict (hu_of hr))))) (ms_cons (ms_for (passes_of rfl) rfl (mi_r1 (pi_range1 (by rfl) T.b_range (ma_cons (me_cb (pe_callB call_len (by rfl) T.b_len bt_len (ma_cons (me_var (pv 2)) (ma_nil))) cs_len) (ma_nil)))) (mg_name (i := 4) scN rfl (by first | exact Or.inl rfl | exact Or.inr rfl)) (ms_one (ms_forW (passes_of rfl) rfl (mk_any (me_var (pv 2))) (mg_name (i := 5) scN rfl (by first | exact Or.inl rfl | exact Or.inr rfl)) (ms_cons ((by first | exact ms_setT (ps_setLc (i := 6) (own := [("_law_other", 7)]) rfl scN rfl rfl (sw_true rfl rfl rfl (by decide +kernel)) (mk_any (me_var (pv 2))) (blkOk_by (N := ["_law_rows_here", "_law_start", "_law_threads_here", "_law_found", "_law_lap", "_law_one", "_law_near", "_law_other"]) (sc := defScope s_law_lengths) (by decide +kernel)) (fun _ _ _ _ _ => pg_name (i := 7) scN rfl (by first | exact Or.inl rfl | exact Or.inr rfl)) (fun _ _ _ _ _ => mts_one (mt_val (me_call (k_law_over T) (hr.mono (by decide)) hgd (by rfl) T.f_law_over.mgf T.f_law_over.F.kp T.f_law_over.b takesW0 (ma_cons (me_var (pv 0)) (ma_cons (me_var (pv 7)) (ma_cons (me_var (pv 5)) (ma_nil))))))) (fun _ _ _ _ _ => me_op op_addA os_add (me_dgetT (u1 hr) (me_var (pv 3)) (me_var (pv 7)) (fun _ _ => rfl)) (me_int))) (fun _ _ _ h => lc_readW (good_name (by decide)) (rg_name) h) | exact ms_set (i := 6) scN rfl (by first | exact Or.inl rfl | exact Or.inr rfl) (PEi (pe_lc (own := [("_law_other", 7)]) rfl scN (mk_any (me_var (pv 2))) (blkOk_by (N := ["_law_rows_here", "_law_start", "_law_threads_here", "_law_found", "_law_lap", "_law_one", "_law_near", "_law_other"]) (sc := defScope s_law_lengths) (by decide +kernel)) (fun _ _ _ _ _ => pg_name (i := 7) scN rfl (by first | exact Or.inl rfl | exact Or.inr rfl)) (fun _ _ _ _ _ => mts_one (mt_val (me_call (k_law_over T) (hr.mono (by decide)) hgd (by rfl) T.f_law_over.mgf T.f_law_over.F.kp T.f_law_over.b takesW0 (ma_cons (me_var (pv 0)) (ma_cons (me_var (pv 7)) (ma_cons (me_var (pv 5)) (ma_nil))))))) (fun _ _ _ _ _ => me_op op_addA os_add (me_dgetT (u1 hr) (me_var (pv 3)) (me_var (pv 7)) (fun _ _ => rfl)) (me_int))) (fun _ _ _ h => lc_readW (good_name (by decide)) (rg_name) h)))) (ms_one (ms_asg (me_cb (pe_callB (cr_minY rfl) (by rfl) T.b_min bt_min (ma_cons (me_op op_addA os_add (me_var (pv 6)) (me_lst (ma_cons (me_dgetT (u1 hr) (me_var (pv 3)) (me_var (pv 5)) (fun _ _ => rfl)) (ma_nil)))) (ma_nil))) cs_minY) (mg_subT (pg_sub (me_var (pv 3)) (me_var (pv 5)) (set_dict (hu_of hr)))))))))) (ms_one (ms_ret (me_var (pv 3)))))))
theorem kneed_cloth (T : TxB P K mg base) : GFn P w K mg base 2 T.fneed_cloth.a T.fneed_cloth.fd ["value"] gneed_cloth := by
  refine gfn_of (k := 1) T.fneed_cloth.F scneed_cloth fun cdv A outer s H E hr hgd => ?_
  have scN := scneed_cloth.nd
  have tk := takes_of (X := cxOf (CX P w) P w K mg base ["value"] "need_cloth" (defScope sneed_cloth) T.fneed_cloth.a cdv A outer s H E) (E := E) rfl rfl rfl rfl
  exact ms_one (ms_if (mt_not (mt_val (me_iso (q := ⟨0, 0, 0, 0⟩) T.iso_Cloth (by rfl) T.b_isinstance (by rfl) T.gx (me_var (pv 0))))) (ms_one (ms_raise rfl tk T.x_InvalidCloth T.xm (hr.mono (by decide)) (by rfl) (T.gx _) (me_var (pv 0)))) (ms_nil))
theorem kis_integer (T : TxB P K mg base) : GFn P w K mg base 1 T.fis_integer.a T.fis_integer.fd ["value", "low", "high"] gis_integer := by
  refine gfn_of (k := 0) T.fis_integer.F scis_integer fun cdv A outer s H E hr hgd => ?_
  have scN := scis_integer.nd
  have tk := takes_of (X := cxOf (CX P w) P w K mg base ["value", "low", "high"] "is_integer" (defScope sis_integer) T.fis_integer.a cdv A outer s H E) (E := E) rfl rfl rfl rfl
  exact ms_one (ms_ret (me_and (me_cb (pe_callB call_isiA (by rfl) T.b_isinstance bt_isinstance (ma_cons (me_var (pv 0)) (ma_cons (me_c (pe_bltn (v := .ty "int") (by rfl) T.b_int bt_int rfl) (fun _ _ => .ty _)) (ma_nil)))) cs_isi) (me_and (me_not (me_cb (pe_callB call_isiA (by rfl) T.b_isinstance bt_isinstance (ma_cons (me_var (pv 0)) (ma_cons (me_c (pe_bltn (v := .ty "bool") (by rfl) T.b_bool bt_bool rfl) (fun _ _ => .ty _)) (ma_nil)))) cs_isi)) (me_one (me_chain op_leA os_le op_leA os_le (me_var (pv 1)) (me_var (pv 0)) (me_var (pv 2)))))))
theorem kis_thread (T : TxB P K mg base) : GFn P w K mg base 2 T.fis_thread.a T.fis_thread.fd ["value", "warps", "wefts"] gis_thread := by
  refine gfn_of (k := 1) T.fis_thread.F scis_thread fun cdv A outer s H E hr hgd => ?_
  have scN := scis_thread.nd
  have tk := takes_of (X := cxOf (CX P w) P w K mg base ["value", "warps", "wefts", "kind", "number"] "is_thread" (defScope sis_thread) T.fis_thread.a cdv A outer s H E) (E := E) rfl rfl rfl rfl
  exact ms_cons (ms_match2 (i := 3) (j := 4) scN rfl rfl (by first | exact Or.inl rfl | exact Or.inr rfl) (by first | exact Or.inl rfl | exact Or.inr rfl) rfl (me_var (pv 0)) (PW.pt (mw_and (mt_val (me_cb (pe_callB call_isiA (by rfl) T.b_isinstance bt_isinstance (ma_cons (me_var (pv 0)) (ma_cons (me_c (pe_bltn (v := .ty "tuple") (by rfl) T.b_tuple bt_tuple rfl) (fun _ _ => .ty _)) (ma_nil)))) cs_isi)) (mw_and (mt_val (me_cb (pe_callB call_isiA (by rfl) T.b_isinstance bt_isinstance (ma_cons (me_var (pv 3)) (ma_cons (me_c (pe_bltn (v := .ty "str") (by rfl) T.b_str bt_str rfl) (fun _ _ => .ty _)) (ma_nil)))) cs_isi)) (mw_and1 (mt_cmp (op_inY hr.units) os_inY (me_var (pv 3)) (me_const (by rfl) T.cKINDS) (by with_unfolding_all rfl)))))) (ms_one (ms_ret (me_call (kis_integer T) (hr.mono (by decide)) hgd (by rfl) T.fis_integer.mgf T.fis_integer.F.kp T.fis_integer.b tk (ma_cons (me_var (pv 4)) (ma_cons (me_int) (ma_cons (me_op op_sub os_sub (me_if (mt_cmp (op_eqY hr.units) os_eqX (me_var (pv 3)) (me_str) (nomark _)) (me_var (pv 1)) (me_var (pv 2))) (me_int)) (ma_nil)))))))) (ms_one (ms_ret (me_bl)))
theorem kCloth__weft_count (T : TxB P K mg base) {f : Addr} (O : OwnF K "weft_count" "Cloth.weft_count" sCloth__weft_count ["self"] f) : ∃ fd, GFn P w K mg base 1 f fd ["self"] gCloth__weft_count ∧ Binds K fd ["self"] [] := by
  obtain ⟨fd, F, hb⟩ := O
  refine ⟨fd, gfn_of (k := 0) F scCloth__weft_count fun cdv A outer s H E hr hgd => ?_, hb⟩
  have scN := scCloth__weft_count.nd
  have tk := takes_of (X := cxOf (CX P w) P w K mg base ["self"] "Cloth.weft_count" (defScope sCloth__weft_count) f cdv A outer s H E) (E := E) rfl rfl rfl rfl
  exact ms_one (ms_ret (me_cb (pe_callB call_len (by rfl) T.b_len bt_len (ma_cons (me_fld (allc (T.fl_Cloth_kept_rows) (all0)) (me_var (pv 0))) (ma_nil))) cs_len))
theorem pCloth__weft_count (T : TxB P K mg base) {k : Nat} (hk : 1 ≤ k := by decide) : PrpK P w K mg base "Cloth" "weft_count" gCloth__weft_count k := by
  obtain ⟨C, p, f, h1, h2, h3, h4⟩ := T.pr_Cloth_weft_count
  obtain ⟨fd, F, hb⟩ := kCloth__weft_count (w := w) (base := base) T h4
  exact ⟨C, p, f, fd, _, h1, h2, h3, F.mono hk, hb⟩
theorem kCloth__warp_count (T : TxB P K mg base) {f : Addr} (O : OwnF K "warp_count" "Cloth.warp_count" sCloth__warp_count ["self"] f) : ∃ fd, GFn P w K mg base 1 f fd ["self"] gCloth__warp_count ∧ Binds K fd ["self"] [] := by
  obtain ⟨fd, F, hb⟩ := O
  refine ⟨fd, gfn_of (k := 0) F scCloth__warp_count fun cdv A outer s H E hr hgd => ?_, hb⟩
  have scN := scCloth__warp_count.nd
  have tk := takes_of (X := cxOf (CX P w) P w K mg base ["self"] "Cloth.warp_count" (defScope sCloth__warp_count) f cdv A outer s H E) (E := E) rfl rfl rfl rfl
  exact ms_one (ms_ret (me_cb (pe_callB call_len (by rfl) T.b_len bt_len (ma_cons (me_ix ix_seq os_item (me_fld (allc (T.fl_Cloth_kept_rows) (all0)) (me_var (pv 0))) (me_int) (fun _ _ => rfl)) (ma_nil))) cs_len))
theorem pCloth__warp_count (T : TxB P K mg base) {k : Nat} (hk : 1 ≤ k := by decide) : PrpK P w K mg base "Cloth" "warp_count" gCloth__warp_count k := by
  obtain ⟨C, p, f, h1, h2, h3, h4⟩ := T.pr_Cloth_warp_count
  obtain ⟨fd, F, hb⟩ := kCloth__warp_count (w := w) (base := base) T h4
  exact ⟨C, p, f, fd, _, h1, h2, h3, F.mono hk, hb⟩
theorem kCloth____contains__ (T : TxB P K mg base) {f : Addr} (O : OwnF K "__contains__" "Cloth.__contains__" sCloth____contains__ ["self", "value"] f) : ∃ fd, GFn P w K mg base 3 f fd ["self", "value"] gCloth____contains__ ∧ Binds K fd ["self", "value"] [] := by
  obtain ⟨fd, F, hb⟩ := O
  refine ⟨fd, gfn_of (k := 2) F scCloth____contains__ fun cdv A outer s H E hr hgd => ?_, hb⟩
  have scN := scCloth____contains__.nd
  have tk := takes_of (X := cxOf (CX P w) P w K mg base ["self", "value"] "Cloth.__contains__" (defScope sCloth____contains__) f cdv A outer s H E) (E := E) rfl rfl rfl rfl
  exact ms_one (ms_ret (me_call (kis_thread T) (hr.mono (by decide)) hgd (by rfl) T.fis_thread.mgf T.fis_thread.F.kp T.fis_thread.b tk (ma_cons (me_var (pv 1)) (ma_cons ((me_prop (tbl := [("Cloth", gCloth__warp_count)]) (k := 1) (allc (pCloth__warp_count T) (all0)) (hr.mono (by decide)) hgd (me_var (pv 0)))) (ma_cons ((me_prop (tbl := [("Cloth", gCloth__weft_count)]) (k := 1) (allc (pCloth__weft_count T) (all0)) (hr.mono (by decide)) hgd (me_var (pv 0)))) (ma_nil))))))
theorem spCloth____contains__ (T : TxB P K mg base) {k : Nat} (hk : 3 ≤ k := by decide) : SpcK P w K mg base "Cloth" "__contains__" gCloth____contains__ k := by
  obtain ⟨C, f, h1, h2, h3⟩ := T.sp_Cloth___contains__
  obtain ⟨fd, F, hb⟩ := kCloth____contains__ (w := w) (base := base) T h3
  exact ⟨C, f, fd, _, h1, h2, F.mono hk, hb⟩
theorem kneed_member (T : TxB P K mg base) : GFn P w K mg base 4 T.fneed_member.a T.fneed_member.fd ["cloth", "value"] gneed_member := by
  refine gfn_of (k := 3) T.fneed_member.F scneed_member fun cdv A outer s H E hr hgd => ?_
  have scN := scneed_member.nd
  have tk := takes_of (X := cxOf (CX P w) P w K mg base ["cloth", "value"] "need_member" (defScope sneed_member) T.fneed_member.a cdv A outer s H E) (E := E) rfl rfl rfl rfl
  exact ms_one (ms_if (mt_cmpX (ox_in (neg := true) (tbl := [("Cloth", gCloth____contains__)]) (k := 3) (allc (spCloth____contains__ T) (all0)) (hr.mono (by decide)) hgd tk (OpX.of (op_notinY hr.units) os_inY)) (me_var (pv 1)) (me_var (pv 0)) (by with_unfolding_all rfl)) (ms_one (ms_raise rfl tk T.x_InvalidThread T.xm (hr.mono (by decide)) (by rfl) (T.gx _) (me_var (pv 1)))) (ms_nil))
theorem kCloth__threads (T : TxB P K mg base) {f : Addr} (O : OwnF K "threads" "Cloth.threads" sCloth__threads ["self"] f) : ∃ fd, GFn P w K mg base 3 f fd ["self"] gCloth__threads ∧ Binds K fd ["self"] [] := by
  obtain ⟨fd, F, hb⟩ := O
  refine ⟨fd, gfn_of (k := 2) F scCloth__threads fun cdv A outer s H E hr hgd => ?_, hb⟩
  have scN := scCloth__threads.nd
  have tk := takes_of (X := cxOf (CX P w) P w K mg base ["self", "warps", "number"] "Cloth.threads" (defScope sCloth__threads) f cdv A outer s H E) (E := E) rfl rfl rfl rfl
  exact ms_cons ((by first | exact ms_setT (ps_setLc (i := 1) (own := [("number", 2)]) rfl scN rfl rfl (sw_true rfl rfl rfl (by decide +kernel)) (mi_r1 (pi_range1 (by rfl) T.b_range (ma_cons ((me_prop (tbl := [("Cloth", gCloth__warp_count)]) (k := 1) (allc (pCloth__warp_count T) (all0)) (hr.mono (by decide)) hgd (me_var (pv 0)))) (ma_nil)))) (blkOk_by (N := ["self", "warps", "number"]) (sc := defScope sCloth__threads) (by decide +kernel)) (fun _ _ _ _ _ => pg_name (i := 2) scN rfl (by first | exact Or.inl rfl | exact Or.inr rfl)) (fun _ _ _ _ _ => mts_nil) (fun _ _ _ _ _ => me_tup (ma_cons (me_str) (ma_cons (me_var (pv 2)) (ma_nil))))) (fun _ _ _ h => lc_read (good_name (by decide)) (rg_name) h) | exact ms_set (i := 1) scN rfl (by first | exact Or.inl rfl | exact Or.inr rfl) (PEi (pe_lc (own := [("number", 2)]) rfl scN (mi_r1 (pi_range1 (by rfl) T.b_range (ma_cons ((me_prop (tbl := [("Cloth", gCloth__warp_count)]) (k := 1) (allc (pCloth__warp_count T) (all0)) (hr.mono (by decide)) hgd (me_var (pv 0)))) (ma_nil)))) (blkOk_by (N := ["self", "warps", "number"]) (sc := defScope sCloth__threads) (by decide +kernel)) (fun _ _ _ _ _ => pg_name (i := 2) scN rfl (by first | exact Or.inl rfl | exact Or.inr rfl)) (fun _ _ _ _ _ => mts_nil) (fun _ _ _ _ _ => me_tup (ma_cons (me_str) (ma_cons (me_var (pv 2)) (ma_nil))))) (fun _ _ _ h => lc_read (good_name (by decide)) (rg_name) h)))) (ms_one (ms_ret (me_lst (ma_star (me_var (pv 1)) (ma_star (PEi (pe_lc (own := [("number", 2)]) rfl scN (mi_r1 (pi_range1 (by rfl) T.b_range (ma_cons ((me_prop (tbl := [("Cloth", gCloth__weft_count)]) (k := 1) (allc (pCloth__weft_count T) (all0)) (hr.mono (by decide)) hgd (me_var (pv 0)))) (ma_nil)))) (blkOk_by (N := ["self", "warps", "number"]) (sc := defScope sCloth__threads) (by decide +kernel)) (fun _ _ _ _ _ => pg_name (i := 2) scN rfl (by first | exact Or.inl rfl | exact Or.inr rfl)) (fun _ _ _ _ _ => mts_nil) (fun _ _ _ _ _ => me_tup (ma_cons (me_str) (ma_cons (me_var (pv 2)) (ma_nil))))) (fun _ _ _ h => lc_read (good_name (by decide)) (rg_name) h)) (ma_nil))))))
theorem mCloth__threads (T : TxB P K mg base) {k : Nat} (hk : 3 ≤ k := by decide) : MthK P w K mg base "Cloth" "threads" gCloth__threads k := by
  obtain ⟨C, f, h1, h2, h3, h4⟩ := T.me_Cloth_threads
  obtain ⟨fd, F, hb⟩ := kCloth__threads (w := w) (base := base) T h4
  exact ⟨C, f, fd, _, h1, h2, h3, F.mono hk, hb⟩
theorem kCloth__crossed (T : TxB P K mg base) {f : Addr} (O : OwnF K "crossed" "Cloth.crossed" sCloth__crossed ["self", "thread"] f) : ∃ fd, GFn P w K mg base 4 f fd ["self", "thread"] gCloth__crossed ∧ Binds K fd ["self", "thread"] [] := by
  obtain ⟨fd, F, hb⟩ := O
  refine ⟨fd, gfn_of (k := 3) F scCloth__crossed fun cdv A outer s H E hr hgd => ?_, hb⟩
  have scN := scCloth__crossed.nd
  have tk := takes_of (X := cxOf (CX P w) P w K mg base ["self", "thread", "other"] "Cloth.crossed" (defScope sCloth__crossed) f cdv A outer s H E) (E := E) rfl rfl rfl rfl
  exact ms_cons (ms_if (mt_cmpX (ox_in (neg := true) (tbl := [("Cloth", gCloth____contains__)]) (k := 3) (allc (spCloth____contains__ T) (all0)) (hr.mono (by decide)) hgd tk (OpX.of (op_notinY hr.units) os_inY)) (me_var (pv 1)) (me_var (pv 0)) (by with_unfolding_all rfl)) (ms_one (ms_raise rfl tk T.x_InvalidThread T.xm (hr.mono (by decide)) (by rfl) (T.gx _) (me_var (pv 1)))) (ms_nil)) (ms_one (ms_ret (PEi (pe_lc (own := [("other", 2)]) rfl scN (mi_lst ((me_meth0 (tbl := [("Cloth", gCloth__threads)]) (k := 3) (allc (mCloth__threads T) (all0)) (hr.mono (by decide)) hgd tk (me_var (pv 0))))) (blkOk_by (N := ["self", "thread", "other"]) (sc := defScope sCloth__crossed) (by decide +kernel)) (fun _ _ _ _ _ => pg_name (i := 2) scN rfl (by first | exact Or.inl rfl | exact Or.inr rfl)) (fun _ _ _ _ _ => mts_one (mt_cmp (op_neY hr.units) os_neX (me_ix ix_seq os_item (me_var (pv 2)) (me_int) (fun _ _ => rfl)) (me_ix ix_seq os_item (me_var (pv 1)) (me_int) (fun _ _ => rfl)) (nomark _))) (fun _ _ _ _ _ => me_var (pv 2))) (fun _ _ _ h => lc_read (good_name (by decide)) (rg_name) h))))
theorem mCloth__crossed (T : TxB P K mg base) {k : Nat} (hk : 4 ≤ k := by decide) : MthK P w K mg base "Cloth" "crossed" gCloth__crossed k := by
  obtain ⟨C, f, h1, h2, h3, h4⟩ := T.me_Cloth_crossed
  obtain ⟨fd, F, hb⟩ := kCloth__crossed (w := w) (base := base) T h4
  exact ⟨C, f, fd, _, h1, h2, h3, F.mono hk, hb⟩
theorem kcrossing_of (T : TxB P K mg base) : GFn P w K mg base 1 T.fcrossing_of.a T.fcrossing_of.fd ["one", "other"] gcrossing_of := by
  refine gfn_of (k := 0) T.fcrossing_of.F sccrossing_of fun cdv A outer s H E hr hgd => ?_
  have scN := sccrossing_of.nd
  have tk := takes_of (X := cxOf (CX P w) P w K mg base ["one", "other"] "crossing_of" (defScope scrossing_of) T.fcrossing_of.a cdv A outer s H E) (E := E) rfl rfl rfl rfl
  exact ms_cons (ms_if (mt_cmp (op_eqY hr.units) os_eqX (me_ix ix_seq os_item (me_var (pv 0)) (me_int) (fun _ _ => rfl)) (me_ix ix_seq os_item (me_var (pv 1)) (me_int) (fun _ _ => rfl)) (nomark _)) (ms_one (ms_ret (me_non))) (ms_nil)) (ms_one (ms_ret (me_if (mt_cmp (op_eqY hr.units) os_eqX (me_ix ix_seq os_item (me_var (pv 0)) (me_int) (fun _ _ => rfl)) (me_str) (nomark _)) (me_tup (ma_cons (me_ix ix_seq os_item (me_var (pv 0)) (me_int) (fun _ _ => rfl)) (ma_cons (me_ix ix_seq os_item (me_var (pv 1)) (me_int) (fun _ _ => rfl)) (ma_nil)))) (me_tup (ma_cons (me_ix ix_seq os_item (me_var (pv 1)) (me_int) (fun _ _ => rfl)) (ma_cons (me_ix ix_seq os_item (me_var (pv 0)) (me_int) (fun _ _ => rfl)) (ma_nil)))))))
theorem kis_crossing (T : TxB P K mg base) : GFn P w K mg base 2 T.fis_crossing.a T.fis_crossing.fd ["value", "warps", "wefts"] gis_crossing := by
  refine gfn_of (k := 1) T.fis_crossing.F scis_crossing fun cdv A outer s H E hr hgd => ?_
  have scN := scis_crossing.nd
  have tk := takes_of (X := cxOf (CX P w) P w K mg base ["value", "warps", "wefts"] "is_crossing" (defScope sis_crossing) T.fis_crossing.a cdv A outer s H E) (E := E) rfl rfl rfl rfl
  exact ms_cons (ms_if (PW.pt (mw_or (mt_not (mt_val (me_cb (pe_callB call_isiA (by rfl) T.b_isinstance bt_isinstance (ma_cons (me_var (pv 0)) (ma_cons (me_c (pe_bltn (v := .ty "tuple") (by rfl) T.b_tuple bt_tuple rfl) (fun _ _ => .ty _)) (ma_nil)))) cs_isi))) (mw_or1 (mt_cmp (op_neY hr.units) os_neX (me_cb (pe_callB call_len (by rfl) T.b_len bt_len (ma_cons (me_var (pv 0)) (ma_nil))) cs_len) (me_int) (nomark _))))) (ms_one (ms_ret (me_bl))) (ms_nil)) (ms_one (ms_ret (me_and (me_call (kis_integer T) (hr.mono (by decide)) hgd (by rfl) T.fis_integer.mgf T.fis_integer.F.kp T.fis_integer.b tk (ma_cons (me_ix ix_seq os_item (me_var (pv 0)) (me_int) (fun _ _ => rfl)) (ma_cons (me_int) (ma_cons (me_op op_sub os_sub (me_var (pv 1)) (me_int)) (ma_nil))))) (me_one (me_call (kis_integer T) (hr.mono (by decide)) hgd (by rfl) T.fis_integer.mgf T.fis_integer.F.kp T.fis_integer.b tk (ma_cons (me_ix ix_seq os_item (me_var (pv 0)) (me_int) (fun _ _ => rfl)) (ma_cons (me_int) (ma_cons (me_op op_sub os_sub (me_var (pv 2)) (me_int)) (ma_nil)))))))))
theorem kCloth____getitem__ (T : TxB P K mg base) {f : Addr} (O : OwnF K "__getitem__" "Cloth.__getitem__" sCloth____getitem__ ["self", "crossing"] f) : ∃ fd, GFn P w K mg base 3 f fd ["self", "crossing"] gCloth____getitem__ ∧ Binds K fd ["self", "crossing"] [] := by
  obtain ⟨fd, F, hb⟩ := O
  refine ⟨fd, gfn_of (k := 2) F scCloth____getitem__ fun cdv A outer s H E hr hgd => ?_, hb⟩
  have scN := scCloth____getitem__.nd
  have tk := takes_of (X := cxOf (CX P w) P w K mg base ["self", "crossing"] "Cloth.__getitem__" (defScope sCloth____getitem__) f cdv A outer s H E) (E := E) rfl rfl rfl rfl
  exact ms_cons (ms_if (mt_not (mt_val (me_call (kis_crossing T) (hr.mono (by decide)) hgd (by rfl) T.fis_crossing.mgf T.fis_crossing.F.kp T.fis_crossing.b tk (ma_cons (me_var (pv 1)) (ma_cons ((me_prop (tbl := [("Cloth", gCloth__warp_count)]) (k := 1) (allc (pCloth__warp_count T) (all0)) (hr.mono (by decide)) hgd (me_var (pv 0)))) (ma_cons ((me_prop (tbl := [("Cloth", gCloth__weft_count)]) (k := 1) (allc (pCloth__weft_count T) (all0)) (hr.mono (by decide)) hgd (me_var (pv 0)))) (ma_nil))))))) (ms_one (ms_raise rfl tk T.x_InvalidCrossing T.xm (hr.mono (by decide)) (by rfl) (T.gx _) (me_var (pv 1)))) (ms_nil)) (ms_one (ms_ret (me_cmp (op_eqY hr.units) os_eqX (me_ix ix_seq os_item (me_ix ix_seq os_item (me_fld (allc (T.fl_Cloth_kept_rows) (all0)) (me_var (pv 0))) (me_ix ix_seq os_item (me_var (pv 1)) (me_int) (fun _ _ => rfl)) (fun _ _ => rfl)) (me_ix ix_seq os_item (me_var (pv 1)) (me_int) (fun _ _ => rfl)) (fun _ _ => rfl)) (me_str) (nomark _))))
theorem spCloth____getitem__ (T : TxB P K mg base) {k : Nat} (hk : 3 ≤ k := by decide) : SpcK P w K mg base "Cloth" "__getitem__" gCloth____getitem__ k := by
  obtain ⟨C, f, h1, h2, h3⟩ := T.sp_Cloth___getitem__
  obtain ⟨fd, F, hb⟩ := kCloth____getitem__ (w := w) (base := base) T h3
  exact ⟨C, f, fd, _, h1, h2, F.mono hk, hb⟩
theorem kCloth__over (T : TxB P K mg base) {f : Addr} (O : OwnF K "over" "Cloth.over" sCloth__over ["self", "one", "other"] f) : ∃ fd, GFn P w K mg base 5 f fd ["self", "one", "other"] gCloth__over ∧ Binds K fd ["self", "one", "other"] [] := by
  obtain ⟨fd, F, hb⟩ := O
  refine ⟨fd, gfn_of (k := 4) F scCloth__over fun cdv A outer s H E hr hgd => ?_, hb⟩
  have scN := scCloth__over.nd
  have tk := takes_of (X := cxOf (CX P w) P w K mg base ["self", "one", "other"] "Cloth.over" (defScope sCloth__over) f cdv A outer s H E) (E := E) rfl rfl rfl rfl
  exact ms_cons (ms_if (mt_cmpX (ox_in (neg := true) (tbl := [("Cloth", gCloth____contains__)]) (k := 3) (allc (spCloth____contains__ T) (all0)) (hr.mono (by decide)) hgd tk (OpX.of (op_notinY hr.units) os_inY)) (me_var (pv 1)) (me_var (pv 0)) (by with_unfolding_all rfl)) (ms_one (ms_raise rfl tk T.x_InvalidThread T.xm (hr.mono (by decide)) (by rfl) (T.gx _) (me_var (pv 1)))) (ms_nil)) (ms_cons (ms_if (PW.pt (mw_or (mt_cmpX (ox_in (neg := true) (tbl := [("Cloth", gCloth____contains__)]) (k := 3) (allc (spCloth____contains__ T) (all0)) (hr.mono (by decide)) hgd tk (OpX.of (op_notinY hr.units) os_inY)) (me_var (pv 2)) (me_var (pv 0)) (by with_unfolding_all rfl)) (mw_or1 (mt_cmp op_isN os_is (me_call (kcrossing_of T) (hr.mono (by decide)) hgd (by rfl) T.fcrossing_of.mgf T.fcrossing_of.F.kp T.fcrossing_of.b tk (ma_cons (me_var (pv 1)) (ma_cons (me_var (pv 2)) (ma_nil)))) (me_non) (nomark _))))) (ms_one (ms_raise rfl tk T.x_InvalidThread T.xm (hr.mono (by decide)) (by rfl) (T.gx _) (me_var (pv 2)))) (ms_nil)) (ms_one (ms_ret (me_cmp (op_eqY hr.units) os_eqX ((me_ixI (tbl := [("Cloth", gCloth____getitem__)]) (k := 3) (allc (spCloth____getitem__ T) (all0)) (hr.mono (by decide)) hgd tk ix_seq os_item (me_var (pv 0)) (me_call (kcrossing_of T) (hr.mono (by decide)) hgd (by rfl) T.fcrossing_of.mgf T.fcrossing_of.F.kp T.fcrossing_of.b tk (ma_cons (me_var (pv 1)) (ma_cons (me_var (pv 2)) (ma_nil)))) (fun _ _ => rfl))) (me_cmp (op_eqY hr.units) os_eqX (me_ix ix_seq os_item (me_var (pv 1)) (me_int) (fun _ _ => rfl)) (me_str) (nomark _)) (nomark _)))))
theorem mCloth__over (T : TxB P K mg base) {k : Nat} (hk : 5 ≤ k := by decide) : MthK P w K mg base "Cloth" "over" gCloth__over k := by
  obtain ⟨C, f, h1, h2, h3, h4⟩ := T.me_Cloth_over
  obtain ⟨fd, F, hb⟩ := kCloth__over (w := w) (base := base) T h4
  exact ⟨C, f, fd, _, h1, h2, h3, F.mono hk, hb⟩
theorem kCloth__below (T : TxB P K mg base) {f : Addr} (O : OwnF K "below" "Cloth.below" sCloth__below ["self", "thread"] f) : ∃ fd, GFn P w K mg base 6 f fd ["self", "thread"] gCloth__below ∧ Binds K fd ["self", "thread"] [] := by
  obtain ⟨fd, F, hb⟩ := O
  refine ⟨fd, gfn_of (k := 5) F scCloth__below fun cdv A outer s H E hr hgd => ?_, hb⟩
  have scN := scCloth__below.nd
  have tk := takes_of (X := cxOf (CX P w) P w K mg base ["self", "thread", "other"] "Cloth.below" (defScope sCloth__below) f cdv A outer s H E) (E := E) rfl rfl rfl rfl
  exact ms_one (ms_ret (PEi (pe_lc (own := [("other", 2)]) rfl scN (mi_lst ((me_meth (tbl := [("Cloth", gCloth__crossed)]) (k := 4) (allc (mCloth__crossed T) (all0)) (hr.mono (by decide)) hgd tk (me_var (pv 0)) (ma_cons (me_var (pv 1)) (ma_nil))))) (blkOk_by (N := ["self", "thread", "other"]) (sc := defScope sCloth__below) (by decide +kernel)) (fun _ _ _ _ _ => pg_name (i := 2) scN rfl (by first | exact Or.inl rfl | exact Or.inr rfl)) (fun _ _ _ _ _ => mts_one (mt_val ((me_meth (tbl := [("Cloth", gCloth__over)]) (k := 5) (allc (mCloth__over T) (all0)) (hr.mono (by decide)) hgd takesW0 (me_var (pv 0)) (ma_cons (me_var (pv 1)) (ma_cons (me_var (pv 2)) (ma_nil))))))) (fun _ _ _ _ _ => me_var (pv 2))) (fun _ _ _ h => lc_read (good_name (by decide)) (rg_name) h)))
theorem mCloth__below (T : TxB P K mg base) {k : Nat} (hk : 6 ≤ k := by decide) : MthK P w K mg base "Cloth" "below" gCloth__below k := by
  obtain ⟨C, f, h1, h2, h3, h4⟩ := T.me_Cloth_below
  obtain ⟨fd, F, hb⟩ := kCloth__below (w := w) (base := base) T h4
  exact ⟨C, f, fd, _, h1, h2, h3, F.mono hk, hb⟩
theorem kpaths_from (T : TxB P K mg base) : GFn P w K mg base 7 T.fpaths_from.a T.fpaths_from.fd ["cloth", "thread"] gpaths_from := by
  refine gfn_of (k := 6) T.fpaths_from.F scpaths_from fun cdv A outer s H E hr hgd => ?_
  have scN := scpaths_from.nd
  have tk := takes_of (X := cxOf (CX P w) P w K mg base ["cloth", "thread", "before", "queue", "index", "current", "other"] "paths_from" (defScope spaths_from) T.fpaths_from.a cdv A outer s H E) (E := E) rfl rfl rfl rfl
  exact ms_cons (ms_set (i := 2) scN rfl (by first | exact Or.inl rfl | exact Or.inr rfl) (me_dictT1 (u1 hr) (me_var (pv 1)) (me_non))) (ms_cons (ms_set (i := 3) scN rfl (by first | exact Or.inl rfl | exact Or.inr rfl) (me_lstM (ma_cons (me_var (pv 1)) (ma_nil)))) (ms_cons (ms_set (i := 4) scN rfl (by first | exact Or.inl rfl | exact Or.inr rfl) (me_int)) (ms_cons (ms_while 100000 (passes_of rfl) (mt_cmp op_ltA os_lt (me_var (pv 4)) (me_cb (pe_callB call_len (by rfl) T.b_len bt_len (ma_cons (me_var (pv 3)) (ma_nil))) cs_len) (nomark _)) (ms_cons (ms_set (i := 5) scN rfl (by first | exact Or.inl rfl | exact Or.inr rfl) (me_ix ix_seq os_item (me_var (pv 3)) (me_var (pv 4)) (fun _ _ => rfl))) (ms_cons (ms_for (passes_of rfl) rfl (mi_lst ((me_meth (tbl := [("Cloth", gCloth__below)]) (k := 6) (allc (mCloth__below T) (all0)) (hr.mono (by decide)) hgd tk (me_var (pv 0)) (ma_cons (me_var (pv 5)) (ma_nil))))) (mg_name (i := 6) scN rfl (by first | exact Or.inl rfl | exact Or.inr rfl)) (ms_one (ms_if (mt_dninT (u1 hr) (me_var (pv 6)) (me_var (pv 2)) (by with_unfolding_all rfl)) (ms_cons (ms_asg (me_var (pv 5)) (mg_subT (pg_sub (me_var (pv 2)) (me_var (pv 6)) (set_dict (hu_of hr))))) (ms_one (ms_expr (me_bm (pe_bm PySem.F.plainAttrs_list PySem.F.slot_list_append PySem.F.type_list_append mt_append (me_var (pv 3)) (ma_cons (me_var (pv 6)) (ma_nil))) meth_append)))) (ms_nil)))) (ms_one (ms_aug (i := 4) scN rfl (by first | exact Or.inl rfl | exact Or.inr rfl) ip_augA os_augA (me_int)))))) (ms_one (ms_ret (me_var (pv 2)))))))
theorem kpath_between (T : TxB P K mg base) : GFn P w K mg base 8 T.fpath_between.a T.fpath_between.fd ["cloth", "one", "other"] gpath_between := by
  refine gfn_of (k := 7) T.fpath_between.F scpath_between fun cdv A outer s H E hr hgd => ?_
  have scN := scpath_between.nd
  have tk := takes_of (X := cxOf (CX P w) P w K mg base ["cloth", "one", "other", "before", "path"] "path_between" (defScope spath_between) T.fpath_between.a cdv A outer s H E) (E := E) rfl rfl rfl rfl
  exact ms_cons (ms_set (i := 3) scN rfl (by first | exact Or.inl rfl | exact Or.inr rfl) (me_call (kpaths_from T) (hr.mono (by decide)) hgd (by rfl) T.fpaths_from.mgf T.fpaths_from.F.kp T.fpaths_from.b tk (ma_cons (me_var (pv 0)) (ma_cons (me_var (pv 1)) (ma_nil))))) (ms_cons (ms_if (mt_dninT (u1 hr) (me_var (pv 2)) (me_var (pv 3)) (by with_unfolding_all rfl)) (ms_one (ms_ret (me_non))) (ms_nil)) (ms_cons (ms_set (i := 4) scN rfl (by first | exact Or.inl rfl | exact Or.inr rfl) (me_lstM (ma_cons (me_var (pv 2)) (ma_nil)))) (ms_cons (ms_while 100000 (passes_of rfl) (mt_cmp (op_neY hr.units) os_neX (me_ix ix_seq os_item (me_var (pv 4)) (me_un un_neg us_neg (me_int)) (fun _ _ => rfl)) (me_var (pv 1)) (nomark _)) (ms_one (ms_expr (me_bm (pe_bm PySem.F.plainAttrs_list PySem.F.slot_list_append PySem.F.type_list_append mt_append (me_var (pv 4)) (ma_cons (me_dgetT (u1 hr) (me_var (pv 3)) (me_ix ix_seq os_item (me_var (pv 4)) (me_un un_neg us_neg (me_int)) (fun _ _ => rfl)) (fun _ _ => rfl)) (ma_nil))) meth_append)))) (ms_one (ms_ret (me_slice3M (fun _ _ => rfl) (me_var (pv 4)) (mo_none) (mo_none) (mo_some (me_un un_neg us_neg (me_int)))))))))
theorem kshortest_path (T : TxB P K mg base) : GFn P w K mg base 9 T.fshortest_path.a T.fshortest_path.fd ["cloth", "one", "other"] gshortest_path := by
  refine gfn_of (k := 8) T.fshortest_path.F scshortest_path fun cdv A outer s H E hr hgd => ?_
  have scN := scshortest_path.nd
  have tk := takes_of (X := cxOf (CX P w) P w K mg base ["cloth", "one", "other"] "shortest_path" (defScope sshortest_path) T.fshortest_path.a cdv A outer s H E) (E := E) rfl rfl rfl rfl
  exact ms_cons (ms_expr (me_call (kneed_cloth T) (hr.mono (by decide)) hgd (by rfl) T.fneed_cloth.mgf T.fneed_cloth.F.kp T.fneed_cloth.b tk (ma_cons (me_var (pv 0)) (ma_nil)))) (ms_cons (ms_expr (me_call (kneed_member T) (hr.mono (by decide)) hgd (by rfl) T.fneed_member.mgf T.fneed_member.F.kp T.fneed_member.b tk (ma_cons (me_var (pv 0)) (ma_cons (me_var (pv 1)) (ma_nil))))) (ms_cons (ms_expr (me_call (kneed_member T) (hr.mono (by decide)) hgd (by rfl) T.fneed_member.mgf T.fneed_member.F.kp T.fneed_member.b tk (ma_cons (me_var (pv 0)) (ma_cons (me_var (pv 2)) (ma_nil))))) (ms_one (ms_ret (me_call (kpath_between T) (hr.mono (by decide)) hgd (by rfl) T.fpath_between.mgf T.fpath_between.F.kp T.fpath_between.b tk (ma_cons (me_var (pv 0)) (ma_cons (me_var (pv 1)) (ma_cons (me_var (pv 2)) (ma_nil)))))))))
theorem k_law_path_right (T : TxB P K mg base) : GFn P w K mg base 2 T.f_law_path_right.a T.f_law_path_right.fd ["_law_rows_here", "_law_path", "_law_ends", "_law_many"] g_law_path_right := by
  refine gfn_of (k := 1) T.f_law_path_right.F sc_law_path_right fun cdv A outer s H E hr hgd => ?_
  have scN := sc_law_path_right.nd
  have tk := takes_of (X := cxOf (CX P w) P w K mg base ["_law_rows_here", "_law_path", "_law_ends", "_law_many", "_law_one", "_law_k"] "_law_path_right" (defScope s_law_path_right) T.f_law_path_right.a cdv A outer s H E) (E := E) rfl rfl rfl rfl
  exact ms_cons (ms_if (PW.pt (mw_or (mt_not (mt_val (me_cb (pe_callB call_isiA (by rfl) T.b_isinstance bt_isinstance (ma_cons (me_var (pv 1)) (ma_cons (me_c (pe_bltn (v := .ty "list") (by rfl) T.b_list bt_list rfl) (fun _ _ => .ty _)) (ma_nil)))) cs_isi))) (mw_or (mt_cmp (op_neY hr.units) os_neX (me_cb (pe_callB call_len (by rfl) T.b_len bt_len (ma_cons (me_var (pv 1)) (ma_nil))) cs_len) (me_var (pv 3)) (nomark _)) (mw_or1 (mt_cmp (op_neY hr.units) os_neX (me_lst (ma_cons (me_ix ix_seq os_item (me_var (pv 1)) (me_int) (fun _ _ => rfl)) (ma_cons (me_ix ix_seq os_item (me_var (pv 1)) (me_un un_neg us_neg (me_int)) (fun _ _ => rfl)) (ma_nil)))) (me_var (pv 2)) (nomark _)))))) (ms_one (ms_ret (me_bl))) (ms_nil)) (ms_cons (ms_if (mt_cmp (op_ne0 hr.units) os_e0 (PEi (pe_lc (own := [("_law_one", 4)]) rfl scN (mk_any (me_var (pv 1))) (blkOk_by (N := ["_law_rows_here", "_law_path", "_law_ends", "_law_many", "_law_one", "_law_k"]) (sc := defScope s_law_path_right) (by decide +kernel)) (fun _ _ _ _ _ => pg_name (i := 4) scN rfl (by first | exact Or.inl rfl | exact Or.inr rfl)) (fun _ _ _ _ _ => mts_one (PW.pt (mw_or (mt_cmp (op_notinY hr.units) os_inY (me_var (pv 4)) (me_call (k_law_threads T) (hr.mono (by decide)) hgd (by rfl) T.f_law_threads.mgf T.f_law_threads.F.kp T.f_law_threads.b takesW0 (ma_cons (me_var (pv 0)) (ma_nil))) (by with_unfolding_all rfl)) (mw_or1 (mt_cmp (op_notinY hr.units) os_inY (me_cb (pe_callB (call_reprX hgd (u100 hr)) (by rfl) T.b_repr bt_repr (ma_cons (me_ix ix_seq os_item (me_var (pv 4)) (me_int) (fun _ _ => rfl)) (ma_nil))) cs_reprX) (me_str) (by with_unfolding_all rfl)))))) (fun _ _ _ _ _ => me_var (pv 4))) (fun _ _ _ h => lc_readW (good_name (by decide)) (rg_name) h)) (me_lst (ma_nil)) (nomark _)) (ms_one (ms_ret (me_bl))) (ms_nil)) (ms_one (ms_ret (me_cmp (op_e0 hr.units) os_e0 (PEi (pe_lc (own := [("_law_k", 5)]) rfl scN (mi_r1 (pi_range1 (by rfl) T.b_range (ma_cons (me_op op_sub os_sub (me_var (pv 3)) (me_int)) (ma_nil)))) (blkOk_by (N := ["_law_rows_here", "_law_path", "_law_ends", "_law_many", "_law_one", "_law_k"]) (sc := defScope s_law_path_right) (by decide +kernel)) (fun _ _ _ _ _ => pg_name (i := 5) scN rfl (by first | exact Or.inl rfl | exact Or.inr rfl)) (fun _ _ _ _ _ => mts_one (mt_not (mt_val (me_call (k_law_over T) (hr.mono (by decide)) hgd (by rfl) T.f_law_over.mgf T.f_law_over.F.kp T.f_law_over.b takesW0 (ma_cons (me_var (pv 0)) (ma_cons (me_ix ix_seq os_item (me_var (pv 1)) (me_var (pv 5)) (fun _ _ => rfl)) (ma_cons (me_ix ix_seq os_item (me_var (pv 1)) (me_op op_addA os_add (me_var (pv 5)) (me_int)) (fun _ _ => rfl)) (ma_nil)))))))) (fun _ _ _ _ _ => me_var (pv 5))) (fun _ _ _ h => lc_read (good_name (by decide)) (rg_name) h)) (me_lst (ma_nil)) (nomark _)))))
theorem k_law_right (T : TxB P K mg base) : GFn P w K mg base 10 T.f_law_right.a T.f_law_right.fd ["_law_box_here", "_law_rows_here"] g_law_right := by
  refine gfn_of (k := 9) T.f_law_right.F sc_law_right fun cdv A outer s H E hr hgd => ?_
  have scN := sc_law_right.nd
  have tk := takes_of (X := cxOf (CX P w) P w K mg base ["_law_box_here", "_law_rows_here", "_law_cloth", "_law_one", "_law_some", "_law_lengths_here", "_law_other", "_law_again", "_law_last", "_law_turn", "_law_path"] "_law_right" (defScope s_law_right) T.f_law_right.a cdv A outer s H E) (E := E) rfl rfl rfl rfl
  exact ms_cons (ms_set (i := 2) scN rfl (by first | exact Or.inl rfl | exact Or.inr rfl) (me_frzI ((me_make (mkCloth T) (hr.mono (by decide)) hgd (by rfl) tk (ma_cons (me_var (pv 1)) (ma_nil)))))) (ms_cons (ms_forW (passes_of rfl) rfl (mk_any (me_slice3 (fun _ _ => rfl) (me_call (k_law_threads T) (hr.mono (by decide)) hgd (by rfl) T.f_law_threads.mgf T.f_law_threads.F.kp T.f_law_threads.b tk (ma_cons (me_var (pv 1)) (ma_nil))) (mo_some (me_call (k_law_take T) (hr.mono (by decide)) hgd (by rfl) T.f_law_take.mgf T.f_law_take.F.kp T.f_law_take.b tk (ma_cons (me_var (pv 0)) (ma_cons (me_int) (ma_nil))))) (mo_none) (mo_some (me_int)))) (mg_name (i := 3) scN rfl (by first | exact Or.inl rfl | exact Or.inr rfl)) (ms_cons (ms_set (i := 5) scN rfl (by first | exact Or.inl rfl | exact Or.inr rfl) (me_call (k_law_lengths T) (hr.mono (by decide)) hgd (by rfl) T.f_law_lengths.mgf T.f_law_lengths.F.kp T.f_law_lengths.b tk (ma_cons (me_var (pv 1)) (ma_cons (me_var (pv 3)) (ma_nil))))) (ms_one (ms_for (passes_of rfl) rfl (mi_lst (me_call (k_law_threads T) (hr.mono (by decide)) hgd (by rfl) T.f_law_threads.mgf T.f_law_threads.F.kp T.f_law_threads.b tk (ma_cons (me_var (pv 1)) (ma_nil)))) (mg_name (i := 6) scN rfl (by first | exact Or.inl rfl | exact Or.inr rfl)) (ms_one (ms_for (passes_of rfl) rfl (mi_r1 (pi_range1 (by rfl) T.b_range (ma_cons (me_int) (ma_nil)))) (mg_name (i := 9) scN rfl (by first | exact Or.inl rfl | exact Or.inr rfl)) (ms_cons (ms_set (i := 10) scN rfl (by first | exact Or.inl rfl | exact Or.inr rfl) (me_call (kshortest_path T) (hr.mono (by decide)) hgd (by rfl) T.fshortest_path.mgf T.fshortest_path.F.kp T.fshortest_path.b tk (ma_cons (me_var (pv 2)) (ma_cons (me_var (pv 3)) (ma_cons (me_var (pv 6)) (ma_nil)))))) (ms_one (ms_if (mt_cmp (op_eqY hr.units) os_eqX (me_dgetT (u1 hr) (me_var (pv 5)) (me_var (pv 6)) (fun _ _ => rfl)) (me_int) (nomark _)) (ms_one (ms_if (mt_cmp op_notN os_isnt (me_var (pv 10)) (me_non) (nomark _)) (ms_one (ms_ret (me_bl))) (ms_nil))) (ms_one (ms_if (mt_not (mt_val (me_call (k_law_path_right T) (hr.mono (by decide)) hgd (by rfl) T.f_law_path_right.mgf T.f_law_path_right.F.kp T.f_law_path_right.b tk (ma_cons (me_var (pv 1)) (ma_cons (me_var (pv 10)) (ma_cons (me_lst (ma_cons (me_var (pv 3)) (ma_cons (me_var (pv 6)) (ma_nil)))) (ma_cons (me_dgetT (u1 hr) (me_var (pv 5)) (me_var (pv 6)) (fun _ _ => rfl)) (ma_nil)))))))) (ms_one (ms_ret (me_bl))) (ms_one (ms_expr (me_bm (pe_bm PySem.F.plainAttrs_list PySem.F.slot_list_append PySem.F.type_list_append mt_append (me_var (pv 10)) (ma_cons (me_non) (ma_nil))) meth_append)))))))))))))) (ms_cons (ms_asg (me_tup (ma_cons (me_frzI ((me_make (mkCloth T) (hr.mono (by decide)) hgd (by rfl) tk (ma_cons (me_cb (pe_callTy call_tuple_of (by rfl) T.b_tuple bt_tuple (ma_cons (me_var (pv 1)) (ma_nil))) cs_tuple) (ma_nil))))) (ma_cons (me_ix ix_seq os_item (me_call (k_law_threads T) (hr.mono (by decide)) hgd (by rfl) T.f_law_threads.mgf T.f_law_threads.F.kp T.f_law_threads.b tk (ma_cons (me_var (pv 1)) (ma_nil))) (me_un un_neg us_neg (me_int)) (fun _ _ => rfl)) (ma_nil)))) (mg_tup rfl (mgs_cons (i := 7) scN rfl (by first | exact Or.inl rfl | exact Or.inr rfl) (mgs_cons (i := 8) scN rfl (by first | exact Or.inl rfl | exact Or.inr rfl) (mgs_nil))))) (ms_cons (ms_set (i := 4) scN rfl (by first | exact Or.inl rfl | exact Or.inr rfl) (me_slice3 (fun _ _ => rfl) (me_call (k_law_threads T) (hr.mono (by decide)) hgd (by rfl) T.f_law_threads.mgf T.f_law_threads.F.kp T.f_law_threads.b tk (ma_cons (me_var (pv 1)) (ma_nil))) (mo_none) (mo_none) (mo_some (me_int)))) (ms_one (ms_ret (me_cmp (op_e0 hr.units) os_e0 (PEi (pe_lc (own := [("_law_one", 3)]) rfl scN (mk_any (me_var (pv 4))) (blkOk_by (N := ["_law_box_here", "_law_rows_here", "_law_cloth", "_law_one", "_law_some", "_law_lengths_here", "_law_other", "_law_again", "_law_last", "_law_turn", "_law_path"]) (sc := defScope s_law_right) (by decide +kernel)) (fun _ _ _ _ _ => pg_name (i := 3) scN rfl (by first | exact Or.inl rfl | exact Or.inr rfl)) (fun _ _ _ _ _ => mts_one (mt_cmp (op_neY hr.units) os_neX (me_call (kshortest_path T) (hr.mono (by decide)) hgd (by rfl) T.fshortest_path.mgf T.fshortest_path.F.kp T.fshortest_path.b takesW0 (ma_cons (me_var (pv 7)) (ma_cons (me_var (pv 3)) (ma_cons (me_var (pv 8)) (ma_nil))))) (me_call (kshortest_path T) (hr.mono (by decide)) hgd (by rfl) T.fshortest_path.mgf T.fshortest_path.F.kp T.fshortest_path.b takesW0 (ma_cons (me_var (pv 2)) (ma_cons (me_var (pv 3)) (ma_cons (me_var (pv 8)) (ma_nil))))) (nomark _))) (fun _ _ _ _ _ => me_var (pv 3))) (fun _ _ _ h => lc_readW (good_name (by decide)) (rg_name) h)) (me_lst (ma_nil)) (nomark _)))))))
theorem k_law_rows (T : TxB P K mg base) : GFn P w K mg base 2 T.f_law_rows.a T.f_law_rows.fd ["_law_box_here"] g_law_rows := by
  refine gfn_of (k := 1) T.f_law_rows.F sc_law_rows fun cdv A outer s H E hr hgd => ?_
  have scN := sc_law_rows.nd
  have tk := takes_of (X := cxOf (CX P w) P w K mg base ["_law_box_here", "_law_found", "_law_weft", "_law_warps", "_law_wefts", "_law_way", "_law_cut", "_law_row", "_law_at", "_law_warp"] "_law_rows" (defScope s_law_rows) T.f_law_rows.a cdv A outer s H E) (E := E) rfl rfl rfl rfl
  exact ms_cons (ms_par3 (i := 3) (j := 4) (k := 5) rfl scN rfl rfl rfl (by decide) (by decide) (by decide) rfl rfl rfl (ma_cons (me_op op_addA os_add (me_int) (me_call (k_law_take T) (hr.mono (by decide)) hgd (by rfl) T.f_law_take.mgf T.f_law_take.F.kp T.f_law_take.b tk (ma_cons (me_var (pv 0)) (ma_cons (me_int) (ma_nil))))) (ma_cons (me_op op_addA os_add (me_int) (me_call (k_law_take T) (hr.mono (by decide)) hgd (by rfl) T.f_law_take.mgf T.f_law_take.F.kp T.f_law_take.b tk (ma_cons (me_var (pv 0)) (ma_cons (me_int) (ma_nil))))) (ma_cons (me_call (k_law_take T) (hr.mono (by decide)) hgd (by rfl) T.f_law_take.mgf T.f_law_take.F.kp T.f_law_take.b tk (ma_cons (me_var (pv 0)) (ma_cons (me_int) (ma_nil)))) (ma_nil)))) (by first | rfl | with_unfolding_all rfl | kernel_rfl)) (ms_cons (ms_set (i := 1) scN rfl (by first | exact Or.inl rfl | exact Or.inr rfl) (me_lstM (ma_nil))) (ms_cons (ms_for (passes_of rfl) rfl (mi_r1 (pi_range1 (by rfl) T.b_range (ma_cons (me_var (pv 4)) (ma_nil)))) (mg_name (i := 2) scN rfl (by first | exact Or.inl rfl | exact Or.inr rfl)) (ms_cons (ms_set (i := 6) scN rfl (by first | exact Or.inl rfl | exact Or.inr rfl) (me_call (k_law_take T) (hr.mono (by decide)) hgd (by rfl) T.f_law_take.mgf T.f_law_take.F.kp T.f_law_take.b tk (ma_cons (me_var (pv 0)) (ma_cons (me_op op_addA os_add (me_var (pv 3)) (me_int)) (ma_nil))))) (ms_cons (ms_set (i := 7) scN rfl (by first | exact Or.inl rfl | exact Or.inr rfl) (me_op op_addA os_add (me_op op_mulXX os_mulX (me_str) (me_var (pv 6))) (me_op op_mulXX os_mulX (me_str) (me_op op_sub os_sub (me_var (pv 3)) (me_var (pv 6)))))) (ms_cons (ms_if (mt_cmp (op_eqY hr.units) os_eqX (me_var (pv 5)) (me_int) (nomark _)) (ms_one (ms_set (i := 7) scN rfl (by first | exact Or.inl rfl | exact Or.inr rfl) (me_m1 (pe_join (me_str) (PEi (pe_lc (own := [("_law_warp", 9)]) rfl scN (mi_r1 (pi_range1 (by rfl) T.b_range (ma_cons (me_var (pv 3)) (ma_nil)))) (blkOk_by (N := ["_law_box_here", "_law_found", "_law_weft", "_law_warps", "_law_wefts", "_law_way", "_law_cut", "_law_row", "_law_at", "_law_warp"]) (sc := defScope s_law_rows) (by decide +kernel)) (fun _ _ _ _ _ => pg_name (i := 9) scN rfl (by first | exact Or.inl rfl | exact Or.inr rfl)) (fun _ _ _ _ _ => mts_nil) (fun _ _ _ _ _ => me_ix ix_seq os_item (me_lst (ma_cons (me_str) (ma_cons (me_str) (ma_nil)))) (me_call (k_law_take T) (hr.mono (by decide)) hgd (by rfl) T.f_law_take.mgf T.f_law_take.F.kp T.f_law_take.b takesW0 (ma_cons (me_var (pv 0)) (ma_cons (me_int) (ma_nil)))) (fun _ _ => rfl))) (fun _ _ _ h => lc_read (good_name (by decide)) (rg_name) h))) m1_joinX))) (ms_nil)) (ms_cons (ms_if (PW.pt (mw_and (mt_cmp (op_eqY hr.units) os_eqX (me_var (pv 5)) (me_int) (nomark _)) (mw_and1 (mt_cmp (op_eqY hr.units) os_eqX (me_call (k_law_take T) (hr.mono (by decide)) hgd (by rfl) T.f_law_take.mgf T.f_law_take.F.kp T.f_law_take.b tk (ma_cons (me_var (pv 0)) (ma_cons (me_int) (ma_nil)))) (me_int) (nomark _))))) (ms_cons (ms_set (i := 8) scN rfl (by first | exact Or.inl rfl | exact Or.inr rfl) (me_call (k_law_take T) (hr.mono (by decide)) hgd (by rfl) T.f_law_take.mgf T.f_law_take.F.kp T.f_law_take.b tk (ma_cons (me_var (pv 0)) (ma_cons (me_var (pv 3)) (ma_nil))))) (ms_one (ms_set (i := 7) scN rfl (by first | exact Or.inl rfl | exact Or.inr rfl) (me_op op_addA os_add (me_op op_addA os_add (me_sliceY (me_var (pv 7)) (mo_none) (mo_some (me_var (pv 8)))) (me_ix ix_seq os_item (me_lst (ma_cons (me_str) (ma_cons (me_str) (ma_nil)))) (me_cb (pe_callTy call_intF (by rfl) T.b_int bt_int (ma_cons (me_ix ix_seq os_item (me_var (pv 7)) (me_var (pv 8)) (fun _ _ => rfl)) (ma_nil))) cs_intF) (fun _ _ => rfl))) (me_sliceY (me_var (pv 7)) (mo_some (me_op op_addA os_add (me_var (pv 8)) (me_int))) (mo_none)))))) (ms_nil)) (ms_cons (ms_if (PW.pt (mw_and (mt_cmp (op_eqY hr.units) os_eqX (me_var (pv 5)) (me_int) (nomark _)) (mw_and (mt_cmp op_gt os_cmpI (me_var (pv 2)) (me_int) (nomark _)) (mw_and1 (mt_cmp op_gt os_cmpI (me_call (k_law_take T) (hr.mono (by decide)) hgd (by rfl) T.f_law_take.mgf T.f_law_take.F.kp T.f_law_take.b tk (ma_cons (me_var (pv 0)) (ma_cons (me_int) (ma_nil)))) (me_int) (nomark _)))))) (ms_one (ms_set (i := 7) scN rfl (by first | exact Or.inl rfl | exact Or.inr rfl) (me_ix ix_seq os_item (me_var (pv 1)) (me_call (k_law_take T) (hr.mono (by decide)) hgd (by rfl) T.f_law_take.mgf T.f_law_take.F.kp T.f_law_take.b tk (ma_cons (me_var (pv 0)) (ma_cons (me_var (pv 2)) (ma_nil)))) (fun _ _ => rfl)))) (ms_nil)) (ms_one (ms_expr (me_bm (pe_bm PySem.F.plainAttrs_list PySem.F.slot_list_append PySem.F.type_list_append mt_append (me_var (pv 1)) (ma_cons (me_var (pv 7)) (ma_nil))) meth_append))))))))) (ms_one (ms_ret (me_frz (me_var (pv 1)))))))
theorem klaw (T : TxB P K mg base) : GFn P w K mg base 11 T.flaw.a T.flaw.fd ["_law_script"] glaw := by
  refine gfn_of (k := 10) T.flaw.F sclaw fun cdv A outer s H E hr hgd => ?_
  have scN := sclaw.nd
  have tk := takes_of (X := cxOf (CX P w) P w K mg base ["_law_script", "_law_k", "_law_box_here"] "law" (defScope slaw) T.flaw.a cdv A outer s H E) (E := E) rfl rfl rfl rfl
  exact ms_cons (ms_for (passes_of rfl) rfl (mi_r1 (pi_range1 (by rfl) T.b_range (ma_cons (me_cb (pe_callB (call_max2 rfl) (by rfl) T.b_max bt_max (ma_cons (me_int) (ma_cons (me_cb (pe_callB (call_min2 rfl) (by rfl) T.b_min bt_min (ma_cons (me_int) (ma_cons (me_cb (pe_callB call_len (by rfl) T.b_len bt_len (ma_cons (me_var (pv 0)) (ma_nil))) cs_len) (ma_nil)))) cs_min2) (ma_nil)))) cs_max2) (ma_nil)))) (mg_name (i := 1) scN rfl (by first | exact Or.inl rfl | exact Or.inr rfl)) (ms_cons (ms_set (i := 2) scN rfl (by first | exact Or.inl rfl | exact Or.inr rfl) (me_call (k_law_box T) (hr.mono (by decide)) hgd (by rfl) T.f_law_box.mgf T.f_law_box.F.kp T.f_law_box.b tk (ma_cons (me_call (k_law_cell T) (hr.mono (by decide)) hgd (by rfl) T.f_law_cell.mgf T.f_law_cell.F.kp T.f_law_cell.b tk (ma_cons (me_var (pv 0)) (ma_cons (me_var (pv 1)) (ma_nil)))) (ma_nil)))) (ms_one (ms_if (mt_not (mt_val (me_call (k_law_right T) (hr.mono (by decide)) hgd (by rfl) T.f_law_right.mgf T.f_law_right.F.kp T.f_law_right.b tk (ma_cons (me_var (pv 2)) (ma_cons (me_call (k_law_rows T) (hr.mono (by decide)) hgd (by rfl) T.f_law_rows.mgf T.f_law_rows.F.kp T.f_law_rows.b tk (ma_cons (me_var (pv 2)) (ma_nil))) (ma_nil)))))) (ms_one (ms_ret (me_bl))) (ms_nil))))) (ms_one (ms_ret (me_bl)))
end
theorem law_fin {P : Program} {w : World} {h : Heap} {K : PySem.W.Frag} {mg : Str → Option Value} {fa : Addr} (X : K.In h) (G : h.Ns mainGlobals mg) (hmg : mg "law" = some (.ref fa))
    (z_all : PySem.W.nsIn K mainGlobals "all" = some none)
    (z_bool : PySem.W.nsIn K mainGlobals "bool" = some none)
    (z_dict : PySem.W.nsIn K mainGlobals "dict" = some none)
    (z_int : PySem.W.nsIn K mainGlobals "int" = some none)
    (z_isinstance : PySem.W.nsIn K mainGlobals "isinstance" = some none)
    (z_len : PySem.W.nsIn K mainGlobals "len" = some none)
    (z_list : PySem.W.nsIn K mainGlobals "list" = some none)
    (z_max : PySem.W.nsIn K mainGlobals "max" = some none)
    (z_min : PySem.W.nsIn K mainGlobals "min" = some none)
    (z_range : PySem.W.nsIn K mainGlobals "range" = some none)
    (z_repr : PySem.W.nsIn K mainGlobals "repr" = some none)
    (z_str : PySem.W.nsIn K mainGlobals "str" = some none)
    (z_tuple : PySem.W.nsIn K mainGlobals "tuple" = some none)
    {f_KINDS : Addr} {od_KINDS : Option Addr} {n_KINDS : Nat} {sl_KINDS : Array (Option Value)} {t0_KINDS t1_KINDS : Tok}
    (a_KINDS : PySem.W.nsIn K mainGlobals "KINDS" = some (some (.ref f_KINDS)))
    (l_KINDS : K.lookup f_KINDS = some ⟨.type "tuple", od_KINDS, .seq #[.str "warp" t0_KINDS, .str "weft" t1_KINDS] n_KINDS, sl_KINDS⟩)
    {t_SIGNS : Tok}
    (a_SIGNS : PySem.W.nsIn K mainGlobals "SIGNS" = some (some (.str "01" t_SIGNS)))
    (z_super : PySem.W.nsIn K mainGlobals "super" = some none)
    (z_third : PySem.W.nsIn K cStatics "thirdparty.any" = some none)
    (z_top : (P.main.scope.names.lookup ("super" : Str)).isSome = false)
    {CInvalidCloth fIInvalidCloth ccInvalidCloth cdaInvalidCloth NInvalidCloth : Addr} {bmInvalidCloth bsInvalidCloth subInvalidCloth : List Value} {nmInvalidCloth qInvalidCloth fileInvalidCloth : Str} {snInvalidCloth : List Str} {abInvalidCloth : Bool} {colInvalidCloth : Option Bool} {ddInvalidCloth anInvalidCloth odInvalidCloth cddInvalidCloth cldInvalidCloth : Option Addr} {k0InvalidCloth k1InvalidCloth k2InvalidCloth k3InvalidCloth k5InvalidCloth : Option Value} {tfInvalidCloth : Tok} {kVInvalidCloth dcInvalidCloth pmInvalidCloth ctInvalidCloth ocInvalidCloth cclInvalidCloth clInvalidCloth : Value} {osInvalidCloth csInvalidCloth ssInvalidCloth : Array (Option Value)} {vsInvalidCloth : Array Value}
    (xaInvalidCloth : PySem.W.nsIn K mainGlobals "InvalidCloth" = some (some (.ref CInvalidCloth)))
    (xcInvalidCloth : K.lookup CInvalidCloth = some (excClassObj nmInvalidCloth qInvalidCloth CInvalidCloth NInvalidCloth bsInvalidCloth bmInvalidCloth true snInvalidCloth subInvalidCloth abInvalidCloth colInvalidCloth ddInvalidCloth k0InvalidCloth k1InvalidCloth k2InvalidCloth k3InvalidCloth k5InvalidCloth "ValueError.__new__"))
    (xtInvalidCloth : PySem.W.excTail [.type "ValueError", .type "Exception", .type "BaseException", .type "object"] bmInvalidCloth = true)
    (xsInvalidCloth : PySem.W.ks_superIn K CInvalidCloth CInvalidCloth "__init__" = some (some (.builtin "ValueError.__init__")))
    (xbInvalidCloth : PySem.W.subIn K (.ref CInvalidCloth) (.type "ValueError") = some true)
    (xiInvalidCloth : PySem.W.findIn K (.ref CInvalidCloth) "__init__" = some (some (.ref fIInvalidCloth)))
    (xyInvalidCloth : PySem.W.typeIn K (.ref fIInvalidCloth) = some (.type "function"))
    (xlInvalidCloth : K.lookup fIInvalidCloth = some ⟨ocInvalidCloth, odInvalidCloth, .func (PySem.W.ksFn "__init__" "InvalidCloth.__init__" (defArgs sxInvalidCloth) (defBody sxInvalidCloth) (defScope sxInvalidCloth) .none kVInvalidCloth dcInvalidCloth pmInvalidCloth anInvalidCloth (.ref cdaInvalidCloth) ctInvalidCloth ccInvalidCloth), osInvalidCloth⟩)
    (xoInvalidCloth : PySem.W.codeIn K (.ref cdaInvalidCloth) "InvalidCloth.__init__" = true)
    (xdInvalidCloth : K.lookup cdaInvalidCloth = some ⟨cclInvalidCloth, cddInvalidCloth, .fields vsInvalidCloth, csInvalidCloth⟩)
    (xvInvalidCloth : vsInvalidCloth[2]? = some (.str fileInvalidCloth tfInvalidCloth))
    (xfInvalidCloth : ((P.main.file : Str) == fileInvalidCloth) = true)
    (xeInvalidCloth : K.lookup ccInvalidCloth = some ⟨clInvalidCloth, cldInvalidCloth, .cell (some (.ref CInvalidCloth)), ssInvalidCloth⟩)
    (xmInvalidCloth : PySem.W.mroIn K CInvalidCloth (.ref CInvalidCloth) = some true)
    (xpInvalidCloth : PySem.W.findIn K (.ref CInvalidCloth) "__setattr__" = some (some (.builtin "object.__setattr__")))
    (xnInvalidCloth : PySem.W.findIn K (.ref CInvalidCloth) "value" = some none)
    (xqInvalidCloth : PySem.W.subIn K (.ref CInvalidCloth) (.type "BaseException") = some true)
    (xrInvalidCloth : PySem.W.typeIn K (.ref CInvalidCloth) = some (.type "type"))
    (xkInvalidCloth : PySem.W.keepIn K (.ref CInvalidCloth) = true)
    (xgInvalidCloth : PySem.W.findIn K (.ref CInvalidCloth) "__getattribute__" = some (some (.builtin "BaseException.__getattribute__")))
    (xhInvalidCloth : PySem.W.findIn K (.ref CInvalidCloth) "__getattr__" = some none)
    (xjInvalidCloth : PySem.W.hasDictIn K CInvalidCloth = true)
    {CInvalidCrossing fIInvalidCrossing ccInvalidCrossing cdaInvalidCrossing NInvalidCrossing : Addr} {bmInvalidCrossing bsInvalidCrossing subInvalidCrossing : List Value} {nmInvalidCrossing qInvalidCrossing fileInvalidCrossing : Str} {snInvalidCrossing : List Str} {abInvalidCrossing : Bool} {colInvalidCrossing : Option Bool} {ddInvalidCrossing anInvalidCrossing odInvalidCrossing cddInvalidCrossing cldInvalidCrossing : Option Addr} {k0InvalidCrossing k1InvalidCrossing k2InvalidCrossing k3InvalidCrossing k5InvalidCrossing : Option Value} {tfInvalidCrossing : Tok} {kVInvalidCrossing dcInvalidCrossing pmInvalidCrossing ctInvalidCrossing ocInvalidCrossing cclInvalidCrossing clInvalidCrossing : Value} {osInvalidCrossing csInvalidCrossing ssInvalidCrossing : Array (Option Value)} {vsInvalidCrossing : Array Value}
    (xaInvalidCrossing : PySem.W.nsIn K mainGlobals "InvalidCrossing" = some (some (.ref CInvalidCrossing)))
    (xcInvalidCrossing : K.lookup CInvalidCrossing = some (excClassObj nmInvalidCrossing qInvalidCrossing CInvalidCrossing NInvalidCrossing bsInvalidCrossing bmInvalidCrossing true snInvalidCrossing subInvalidCrossing abInvalidCrossing colInvalidCrossing ddInvalidCrossing k0InvalidCrossing k1InvalidCrossing k2InvalidCrossing k3InvalidCrossing k5InvalidCrossing "ValueError.__new__"))
    (xtInvalidCrossing : PySem.W.excTail [.type "ValueError", .type "Exception", .type "BaseException", .type "object"] bmInvalidCrossing = true)
    (xsInvalidCrossing : PySem.W.ks_superIn K CInvalidCrossing CInvalidCrossing "__init__" = some (some (.builtin "ValueError.__init__")))
    (xbInvalidCrossing : PySem.W.subIn K (.ref CInvalidCrossing) (.type "ValueError") = some true)
    (xiInvalidCrossing : PySem.W.findIn K (.ref CInvalidCrossing) "__init__" = some (some (.ref fIInvalidCrossing)))
    (xyInvalidCrossing : PySem.W.typeIn K (.ref fIInvalidCrossing) = some (.type "function"))
    (xlInvalidCrossing : K.lookup fIInvalidCrossing = some ⟨ocInvalidCrossing, odInvalidCrossing, .func (PySem.W.ksFn "__init__" "InvalidCrossing.__init__" (defArgs sxInvalidCrossing) (defBody sxInvalidCrossing) (defScope sxInvalidCrossing) .none kVInvalidCrossing dcInvalidCrossing pmInvalidCrossing anInvalidCrossing (.ref cdaInvalidCrossing) ctInvalidCrossing ccInvalidCrossing), osInvalidCrossing⟩)
    (xoInvalidCrossing : PySem.W.codeIn K (.ref cdaInvalidCrossing) "InvalidCrossing.__init__" = true)
    (xdInvalidCrossing : K.lookup cdaInvalidCrossing = some ⟨cclInvalidCrossing, cddInvalidCrossing, .fields vsInvalidCrossing, csInvalidCrossing⟩)
    (xvInvalidCrossing : vsInvalidCrossing[2]? = some (.str fileInvalidCrossing tfInvalidCrossing))
    (xfInvalidCrossing : ((P.main.file : Str) == fileInvalidCrossing) = true)
    (xeInvalidCrossing : K.lookup ccInvalidCrossing = some ⟨clInvalidCrossing, cldInvalidCrossing, .cell (some (.ref CInvalidCrossing)), ssInvalidCrossing⟩)
    (xmInvalidCrossing : PySem.W.mroIn K CInvalidCrossing (.ref CInvalidCrossing) = some true)
    (xpInvalidCrossing : PySem.W.findIn K (.ref CInvalidCrossing) "__setattr__" = some (some (.builtin "object.__setattr__")))
    (xnInvalidCrossing : PySem.W.findIn K (.ref CInvalidCrossing) "value" = some none)
    (xqInvalidCrossing : PySem.W.subIn K (.ref CInvalidCrossing) (.type "BaseException") = some true)
    (xrInvalidCrossing : PySem.W.typeIn K (.ref CInvalidCrossing) = some (.type "type"))
    (xkInvalidCrossing : PySem.W.keepIn K (.ref CInvalidCrossing) = true)
    (xgInvalidCrossing : PySem.W.findIn K (.ref CInvalidCrossing) "__getattribute__" = some (some (.builtin "BaseException.__getattribute__")))
    (xhInvalidCrossing : PySem.W.findIn K (.ref CInvalidCrossing) "__getattr__" = some none)
    (xjInvalidCrossing : PySem.W.hasDictIn K CInvalidCrossing = true)
    {CInvalidRows fIInvalidRows ccInvalidRows cdaInvalidRows NInvalidRows : Addr} {bmInvalidRows bsInvalidRows subInvalidRows : List Value} {nmInvalidRows qInvalidRows fileInvalidRows : Str} {snInvalidRows : List Str} {abInvalidRows : Bool} {colInvalidRows : Option Bool} {ddInvalidRows anInvalidRows odInvalidRows cddInvalidRows cldInvalidRows : Option Addr} {k0InvalidRows k1InvalidRows k2InvalidRows k3InvalidRows k5InvalidRows : Option Value} {tfInvalidRows : Tok} {kVInvalidRows dcInvalidRows pmInvalidRows ctInvalidRows ocInvalidRows cclInvalidRows clInvalidRows : Value} {osInvalidRows csInvalidRows ssInvalidRows : Array (Option Value)} {vsInvalidRows : Array Value}
    (xaInvalidRows : PySem.W.nsIn K mainGlobals "InvalidRows" = some (some (.ref CInvalidRows)))
    (xcInvalidRows : K.lookup CInvalidRows = some (excClassObj nmInvalidRows qInvalidRows CInvalidRows NInvalidRows bsInvalidRows bmInvalidRows true snInvalidRows subInvalidRows abInvalidRows colInvalidRows ddInvalidRows k0InvalidRows k1InvalidRows k2InvalidRows k3InvalidRows k5InvalidRows "ValueError.__new__"))
    (xtInvalidRows : PySem.W.excTail [.type "ValueError", .type "Exception", .type "BaseException", .type "object"] bmInvalidRows = true)
    (xsInvalidRows : PySem.W.ks_superIn K CInvalidRows CInvalidRows "__init__" = some (some (.builtin "ValueError.__init__")))
    (xbInvalidRows : PySem.W.subIn K (.ref CInvalidRows) (.type "ValueError") = some true)
    (xiInvalidRows : PySem.W.findIn K (.ref CInvalidRows) "__init__" = some (some (.ref fIInvalidRows)))
    (xyInvalidRows : PySem.W.typeIn K (.ref fIInvalidRows) = some (.type "function"))
    (xlInvalidRows : K.lookup fIInvalidRows = some ⟨ocInvalidRows, odInvalidRows, .func (PySem.W.ksFn "__init__" "InvalidRows.__init__" (defArgs sxInvalidRows) (defBody sxInvalidRows) (defScope sxInvalidRows) .none kVInvalidRows dcInvalidRows pmInvalidRows anInvalidRows (.ref cdaInvalidRows) ctInvalidRows ccInvalidRows), osInvalidRows⟩)
    (xoInvalidRows : PySem.W.codeIn K (.ref cdaInvalidRows) "InvalidRows.__init__" = true)
    (xdInvalidRows : K.lookup cdaInvalidRows = some ⟨cclInvalidRows, cddInvalidRows, .fields vsInvalidRows, csInvalidRows⟩)
    (xvInvalidRows : vsInvalidRows[2]? = some (.str fileInvalidRows tfInvalidRows))
    (xfInvalidRows : ((P.main.file : Str) == fileInvalidRows) = true)
    (xeInvalidRows : K.lookup ccInvalidRows = some ⟨clInvalidRows, cldInvalidRows, .cell (some (.ref CInvalidRows)), ssInvalidRows⟩)
    (xmInvalidRows : PySem.W.mroIn K CInvalidRows (.ref CInvalidRows) = some true)
    (xpInvalidRows : PySem.W.findIn K (.ref CInvalidRows) "__setattr__" = some (some (.builtin "object.__setattr__")))
    (xnInvalidRows : PySem.W.findIn K (.ref CInvalidRows) "value" = some none)
    (xqInvalidRows : PySem.W.subIn K (.ref CInvalidRows) (.type "BaseException") = some true)
    (xrInvalidRows : PySem.W.typeIn K (.ref CInvalidRows) = some (.type "type"))
    (xkInvalidRows : PySem.W.keepIn K (.ref CInvalidRows) = true)
    (xgInvalidRows : PySem.W.findIn K (.ref CInvalidRows) "__getattribute__" = some (some (.builtin "BaseException.__getattribute__")))
    (xhInvalidRows : PySem.W.findIn K (.ref CInvalidRows) "__getattr__" = some none)
    (xjInvalidRows : PySem.W.hasDictIn K CInvalidRows = true)
    {CInvalidThread fIInvalidThread ccInvalidThread cdaInvalidThread NInvalidThread : Addr} {bmInvalidThread bsInvalidThread subInvalidThread : List Value} {nmInvalidThread qInvalidThread fileInvalidThread : Str} {snInvalidThread : List Str} {abInvalidThread : Bool} {colInvalidThread : Option Bool} {ddInvalidThread anInvalidThread odInvalidThread cddInvalidThread cldInvalidThread : Option Addr} {k0InvalidThread k1InvalidThread k2InvalidThread k3InvalidThread k5InvalidThread : Option Value} {tfInvalidThread : Tok} {kVInvalidThread dcInvalidThread pmInvalidThread ctInvalidThread ocInvalidThread cclInvalidThread clInvalidThread : Value} {osInvalidThread csInvalidThread ssInvalidThread : Array (Option Value)} {vsInvalidThread : Array Value}
    (xaInvalidThread : PySem.W.nsIn K mainGlobals "InvalidThread" = some (some (.ref CInvalidThread)))
    (xcInvalidThread : K.lookup CInvalidThread = some (excClassObj nmInvalidThread qInvalidThread CInvalidThread NInvalidThread bsInvalidThread bmInvalidThread true snInvalidThread subInvalidThread abInvalidThread colInvalidThread ddInvalidThread k0InvalidThread k1InvalidThread k2InvalidThread k3InvalidThread k5InvalidThread "ValueError.__new__"))
    (xtInvalidThread : PySem.W.excTail [.type "ValueError", .type "Exception", .type "BaseException", .type "object"] bmInvalidThread = true)
    (xsInvalidThread : PySem.W.ks_superIn K CInvalidThread CInvalidThread "__init__" = some (some (.builtin "ValueError.__init__")))
    (xbInvalidThread : PySem.W.subIn K (.ref CInvalidThread) (.type "ValueError") = some true)
    (xiInvalidThread : PySem.W.findIn K (.ref CInvalidThread) "__init__" = some (some (.ref fIInvalidThread)))
    (xyInvalidThread : PySem.W.typeIn K (.ref fIInvalidThread) = some (.type "function"))
    (xlInvalidThread : K.lookup fIInvalidThread = some ⟨ocInvalidThread, odInvalidThread, .func (PySem.W.ksFn "__init__" "InvalidThread.__init__" (defArgs sxInvalidThread) (defBody sxInvalidThread) (defScope sxInvalidThread) .none kVInvalidThread dcInvalidThread pmInvalidThread anInvalidThread (.ref cdaInvalidThread) ctInvalidThread ccInvalidThread), osInvalidThread⟩)
    (xoInvalidThread : PySem.W.codeIn K (.ref cdaInvalidThread) "InvalidThread.__init__" = true)
    (xdInvalidThread : K.lookup cdaInvalidThread = some ⟨cclInvalidThread, cddInvalidThread, .fields vsInvalidThread, csInvalidThread⟩)
    (xvInvalidThread : vsInvalidThread[2]? = some (.str fileInvalidThread tfInvalidThread))
    (xfInvalidThread : ((P.main.file : Str) == fileInvalidThread) = true)
    (xeInvalidThread : K.lookup ccInvalidThread = some ⟨clInvalidThread, cldInvalidThread, .cell (some (.ref CInvalidThread)), ssInvalidThread⟩)
    (xmInvalidThread : PySem.W.mroIn K CInvalidThread (.ref CInvalidThread) = some true)
    (xpInvalidThread : PySem.W.findIn K (.ref CInvalidThread) "__setattr__" = some (some (.builtin "object.__setattr__")))
    (xnInvalidThread : PySem.W.findIn K (.ref CInvalidThread) "value" = some none)
    (xqInvalidThread : PySem.W.subIn K (.ref CInvalidThread) (.type "BaseException") = some true)
    (xrInvalidThread : PySem.W.typeIn K (.ref CInvalidThread) = some (.type "type"))
    (xkInvalidThread : PySem.W.keepIn K (.ref CInvalidThread) = true)
    (xgInvalidThread : PySem.W.findIn K (.ref CInvalidThread) "__getattribute__" = some (some (.builtin "BaseException.__getattribute__")))
    (xhInvalidThread : PySem.W.findIn K (.ref CInvalidThread) "__getattr__" = some none)
    (xjInvalidThread : PySem.W.hasDictIn K CInvalidThread = true)
    {ACloth : Addr}
    (caCloth : PySem.W.nsIn K mainGlobals "Cloth" = some (some (.ref ACloth)))
    (cpCloth : PySem.W.plainGet K ACloth Str.empty = true)
    (cdCloth : PySem.W.hasDictIn K ACloth = true)
    (coCloth : PySem.W.plainOver K ACloth = true)
    (csCloth : PySem.W.findIn K (.ref ACloth) "__setattr__" = some (some (.builtin "object.__setattr__")))
    (fn_Cloth_kept_rows : PySem.W.findIn K (.ref ACloth) "kept_rows" = some none)
    (rdCloth : PySem.W.readsIn K ACloth (.type "type") = true)
    (rgCloth : PySem.W.specialIn K (.ref ACloth) "__getattribute__" = some (some (.builtin "type.__getattribute__")))
    {tkClothMOST : Tok}
    (cv_Cloth_MOST : PySem.W.findCls K (.ref ACloth) (.type "type") "MOST" = some (.val (.int 8 tkClothMOST)))
    (isp : PySem.W.specialIn K (.builtin "object.__class__") "__get__" = some (some (.builtin "getset_descriptor.__get__")))
    (ist : PySem.W.takesIn K (.builtin "object.__class__") = some true)
    (iscCloth : PySem.W.findIn K (.ref ACloth) "__class__" = some (some (.builtin "object.__class__")))
    (isoCloth : PySem.W.mroIn K ACloth (.type "object") = some true)
    (isiCloth : PySem.W.isClsIn K ACloth = true)
    (isyCloth : PySem.W.typeIn K (.ref ACloth) = some (.type "type"))
    (isbCloth_NoneType : PySem.W.subIn K (.type "NoneType") (.ref ACloth) = some false)
    (isbCloth_bool : PySem.W.subIn K (.type "bool") (.ref ACloth) = some false)
    (isbCloth_int : PySem.W.subIn K (.type "int") (.ref ACloth) = some false)
    (isbCloth_str : PySem.W.subIn K (.type "str") (.ref ACloth) = some false)
    (isbCloth_list : PySem.W.subIn K (.type "list") (.ref ACloth) = some false)
    (isbCloth_tuple : PySem.W.subIn K (.type "tuple") (.ref ACloth) = some false)
    (isbCloth_dict : PySem.W.subIn K (.type "dict") (.ref ACloth) = some false)
    {fCloth____contains__ : Addr}
    (sfCloth____contains__ : PySem.W.findIn K (.ref ACloth) "__contains__" = some (some (.ref fCloth____contains__)))
    (snCloth____contains__ : PySem.W.isFn K (.ref fCloth____contains__) = true)
    (sgCloth____contains__ : PySem.W.fnIn K fCloth____contains__ = true)
    (ssCloth____contains__ : PySem.W.selfFirst K ACloth = true)
    {ocCloth____contains__ : Value} {odCloth____contains__ anCloth____contains__ : Option Addr} {slCloth____contains__ : Array (Option Value)} {kVCloth____contains__ dcCloth____contains__ pmCloth____contains__ cdCloth____contains__ ctCloth____contains__ : Value}
    (lCloth____contains__ : K.lookup fCloth____contains__ = some ⟨ocCloth____contains__, odCloth____contains__, .func (PySem.W.fnOf "__contains__" "Cloth.__contains__" (defArgs sCloth____contains__) (defBody sCloth____contains__) (defScope sCloth____contains__) .none kVCloth____contains__ dcCloth____contains__ pmCloth____contains__ anCloth____contains__ cdCloth____contains__ ctCloth____contains__), slCloth____contains__⟩)
    (cCloth____contains__ : PySem.W.codeIn K cdCloth____contains__ "Cloth.__contains__" = true)
    (kCloth____contains__ : PySem.W.keepIn K (.ref fCloth____contains__) = true)
    {fCloth____getitem__ : Addr}
    (sfCloth____getitem__ : PySem.W.findIn K (.ref ACloth) "__getitem__" = some (some (.ref fCloth____getitem__)))
    (snCloth____getitem__ : PySem.W.isFn K (.ref fCloth____getitem__) = true)
    (sgCloth____getitem__ : PySem.W.fnIn K fCloth____getitem__ = true)
    (ssCloth____getitem__ : PySem.W.selfFirst K ACloth = true)
    {ocCloth____getitem__ : Value} {odCloth____getitem__ anCloth____getitem__ : Option Addr} {slCloth____getitem__ : Array (Option Value)} {kVCloth____getitem__ dcCloth____getitem__ pmCloth____getitem__ cdCloth____getitem__ ctCloth____getitem__ : Value}
    (lCloth____getitem__ : K.lookup fCloth____getitem__ = some ⟨ocCloth____getitem__, odCloth____getitem__, .func (PySem.W.fnOf "__getitem__" "Cloth.__getitem__" (defArgs sCloth____getitem__) (defBody sCloth____getitem__) (defScope sCloth____getitem__) .none kVCloth____getitem__ dcCloth____getitem__ pmCloth____getitem__ anCloth____getitem__ cdCloth____getitem__ ctCloth____getitem__), slCloth____getitem__⟩)
    (cCloth____getitem__ : PySem.W.codeIn K cdCloth____getitem__ "Cloth.__getitem__" = true)
    (kCloth____getitem__ : PySem.W.keepIn K (.ref fCloth____getitem__) = true)
    {fCloth____init__ : Addr}
    (kiCloth : PySem.W.makesIn K ACloth = true)
    (kfCloth : PySem.W.findIn K (.ref ACloth) "__init__" = some (some (.ref fCloth____init__)))
    (knCloth : PySem.W.isFn K (.ref fCloth____init__) = true)
    (kkCloth : PySem.W.keepIn K (.ref ACloth) = true)
    {ocCloth____init__ : Value} {odCloth____init__ anCloth____init__ : Option Addr} {slCloth____init__ : Array (Option Value)} {kVCloth____init__ dcCloth____init__ pmCloth____init__ cdCloth____init__ ctCloth____init__ : Value}
    (lCloth____init__ : K.lookup fCloth____init__ = some ⟨ocCloth____init__, odCloth____init__, .func (PySem.W.fnOf "__init__" "Cloth.__init__" (defArgs sCloth____init__) (defBody sCloth____init__) (defScope sCloth____init__) .none kVCloth____init__ dcCloth____init__ pmCloth____init__ anCloth____init__ cdCloth____init__ ctCloth____init__), slCloth____init__⟩)
    (cCloth____init__ : PySem.W.codeIn K cdCloth____init__ "Cloth.__init__" = true)
    (kCloth____init__ : PySem.W.keepIn K (.ref fCloth____init__) = true)
    {fCloth__below : Addr}
    (mfCloth__below : PySem.W.findIn K (.ref ACloth) "below" = some (some (.ref fCloth__below)))
    (mnCloth__below : PySem.W.isFn K (.ref fCloth__below) = true)
    {ocCloth__below : Value} {odCloth__below anCloth__below : Option Addr} {slCloth__below : Array (Option Value)} {kVCloth__below dcCloth__below pmCloth__below cdCloth__below ctCloth__below : Value}
    (lCloth__below : K.lookup fCloth__below = some ⟨ocCloth__below, odCloth__below, .func (PySem.W.fnOf "below" "Cloth.below" (defArgs sCloth__below) (defBody sCloth__below) (defScope sCloth__below) .none kVCloth__below dcCloth__below pmCloth__below anCloth__below cdCloth__below ctCloth__below), slCloth__below⟩)
    (cCloth__below : PySem.W.codeIn K cdCloth__below "Cloth.below" = true)
    (kCloth__below : PySem.W.keepIn K (.ref fCloth__below) = true)
    {fCloth__crossed : Addr}
    (mfCloth__crossed : PySem.W.findIn K (.ref ACloth) "crossed" = some (some (.ref fCloth__crossed)))
    (mnCloth__crossed : PySem.W.isFn K (.ref fCloth__crossed) = true)
    {ocCloth__crossed : Value} {odCloth__crossed anCloth__crossed : Option Addr} {slCloth__crossed : Array (Option Value)} {kVCloth__crossed dcCloth__crossed pmCloth__crossed cdCloth__crossed ctCloth__crossed : Value}
    (lCloth__crossed : K.lookup fCloth__crossed = some ⟨ocCloth__crossed, odCloth__crossed, .func (PySem.W.fnOf "crossed" "Cloth.crossed" (defArgs sCloth__crossed) (defBody sCloth__crossed) (defScope sCloth__crossed) .none kVCloth__crossed dcCloth__crossed pmCloth__crossed anCloth__crossed cdCloth__crossed ctCloth__crossed), slCloth__crossed⟩)
    (cCloth__crossed : PySem.W.codeIn K cdCloth__crossed "Cloth.crossed" = true)
    (kCloth__crossed : PySem.W.keepIn K (.ref fCloth__crossed) = true)
    {fCloth__over : Addr}
    (mfCloth__over : PySem.W.findIn K (.ref ACloth) "over" = some (some (.ref fCloth__over)))
    (mnCloth__over : PySem.W.isFn K (.ref fCloth__over) = true)
    {ocCloth__over : Value} {odCloth__over anCloth__over : Option Addr} {slCloth__over : Array (Option Value)} {kVCloth__over dcCloth__over pmCloth__over cdCloth__over ctCloth__over : Value}
    (lCloth__over : K.lookup fCloth__over = some ⟨ocCloth__over, odCloth__over, .func (PySem.W.fnOf "over" "Cloth.over" (defArgs sCloth__over) (defBody sCloth__over) (defScope sCloth__over) .none kVCloth__over dcCloth__over pmCloth__over anCloth__over cdCloth__over ctCloth__over), slCloth__over⟩)
    (cCloth__over : PySem.W.codeIn K cdCloth__over "Cloth.over" = true)
    (kCloth__over : PySem.W.keepIn K (.ref fCloth__over) = true)
    {fCloth__threads : Addr}
    (mfCloth__threads : PySem.W.findIn K (.ref ACloth) "threads" = some (some (.ref fCloth__threads)))
    (mnCloth__threads : PySem.W.isFn K (.ref fCloth__threads) = true)
    {ocCloth__threads : Value} {odCloth__threads anCloth__threads : Option Addr} {slCloth__threads : Array (Option Value)} {kVCloth__threads dcCloth__threads pmCloth__threads cdCloth__threads ctCloth__threads : Value}
    (lCloth__threads : K.lookup fCloth__threads = some ⟨ocCloth__threads, odCloth__threads, .func (PySem.W.fnOf "threads" "Cloth.threads" (defArgs sCloth__threads) (defBody sCloth__threads) (defScope sCloth__threads) .none kVCloth__threads dcCloth__threads pmCloth__threads anCloth__threads cdCloth__threads ctCloth__threads), slCloth__threads⟩)
    (cCloth__threads : PySem.W.codeIn K cdCloth__threads "Cloth.threads" = true)
    (kCloth__threads : PySem.W.keepIn K (.ref fCloth__threads) = true)
    {fCloth__warp_count pCloth__warp_count : Addr} {rsCloth__warp_count : List Value}
    (pfCloth__warp_count : PySem.W.findIn K (.ref ACloth) "warp_count" = some (some (.ref pCloth__warp_count)))
    (pgCloth__warp_count : PySem.W.specialIn K (.ref pCloth__warp_count) "__get__" = some (some (.builtin "property.__get__")))
    (ptCloth__warp_count : PySem.W.takesIn K (.ref pCloth__warp_count) = some true)
    (prCloth__warp_count : PySem.W.recIn K pCloth__warp_count "property" = some (.ref fCloth__warp_count :: rsCloth__warp_count))
    {ocCloth__warp_count : Value} {odCloth__warp_count anCloth__warp_count : Option Addr} {slCloth__warp_count : Array (Option Value)} {kVCloth__warp_count dcCloth__warp_count pmCloth__warp_count cdCloth__warp_count ctCloth__warp_count : Value}
    (lCloth__warp_count : K.lookup fCloth__warp_count = some ⟨ocCloth__warp_count, odCloth__warp_count, .func (PySem.W.fnOf "warp_count" "Cloth.warp_count" (defArgs sCloth__warp_count) (defBody sCloth__warp_count) (defScope sCloth__warp_count) .none kVCloth__warp_count dcCloth__warp_count pmCloth__warp_count anCloth__warp_count cdCloth__warp_count ctCloth__warp_count), slCloth__warp_count⟩)
    (cCloth__warp_count : PySem.W.codeIn K cdCloth__warp_count "Cloth.warp_count" = true)
    (kCloth__warp_count : PySem.W.keepIn K (.ref fCloth__warp_count) = true)
    {fCloth__weft_count pCloth__weft_count : Addr} {rsCloth__weft_count : List Value}
    (pfCloth__weft_count : PySem.W.findIn K (.ref ACloth) "weft_count" = some (some (.ref pCloth__weft_count)))
    (pgCloth__weft_count : PySem.W.specialIn K (.ref pCloth__weft_count) "__get__" = some (some (.builtin "property.__get__")))
    (ptCloth__weft_count : PySem.W.takesIn K (.ref pCloth__weft_count) = some true)
    (prCloth__weft_count : PySem.W.recIn K pCloth__weft_count "property" = some (.ref fCloth__weft_count :: rsCloth__weft_count))
    {ocCloth__weft_count : Value} {odCloth__weft_count anCloth__weft_count : Option Addr} {slCloth__weft_count : Array (Option Value)} {kVCloth__weft_count dcCloth__weft_count pmCloth__weft_count cdCloth__weft_count ctCloth__weft_count : Value}
    (lCloth__weft_count : K.lookup fCloth__weft_count = some ⟨ocCloth__weft_count, odCloth__weft_count, .func (PySem.W.fnOf "weft_count" "Cloth.weft_count" (defArgs sCloth__weft_count) (defBody sCloth__weft_count) (defScope sCloth__weft_count) .none kVCloth__weft_count dcCloth__weft_count pmCloth__weft_count anCloth__weft_count cdCloth__weft_count ctCloth__weft_count), slCloth__weft_count⟩)
    (cCloth__weft_count : PySem.W.codeIn K cdCloth__weft_count "Cloth.weft_count" = true)
    (kCloth__weft_count : PySem.W.keepIn K (.ref fCloth__weft_count) = true)
    {f_law_box : Addr} {oc_law_box : Value} {od_law_box an_law_box : Option Addr} {sl_law_box : Array (Option Value)} {kV_law_box dc_law_box pm_law_box cd_law_box ct_law_box : Value}
    (a_law_box : PySem.W.nsIn K mainGlobals "_law_box" = some (some (.ref f_law_box)))
    (l_law_box : K.lookup f_law_box = some ⟨oc_law_box, od_law_box, .func (PySem.W.fnOf "_law_box" "_law_box" (defArgs s_law_box) (defBody s_law_box) (defScope s_law_box) .none kV_law_box dc_law_box pm_law_box an_law_box cd_law_box ct_law_box), sl_law_box⟩)
    (c_law_box : PySem.W.codeIn K cd_law_box "_law_box" = true)
    (k_law_box : PySem.W.keepIn K (.ref f_law_box) = true)
    {f_law_cell : Addr} {oc_law_cell : Value} {od_law_cell an_law_cell : Option Addr} {sl_law_cell : Array (Option Value)} {kV_law_cell dc_law_cell pm_law_cell cd_law_cell ct_law_cell : Value}
    (a_law_cell : PySem.W.nsIn K mainGlobals "_law_cell" = some (some (.ref f_law_cell)))
    (l_law_cell : K.lookup f_law_cell = some ⟨oc_law_cell, od_law_cell, .func (PySem.W.fnOf "_law_cell" "_law_cell" (defArgs s_law_cell) (defBody s_law_cell) (defScope s_law_cell) .none kV_law_cell dc_law_cell pm_law_cell an_law_cell cd_law_cell ct_law_cell), sl_law_cell⟩)
    (c_law_cell : PySem.W.codeIn K cd_law_cell "_law_cell" = true)
    (k_law_cell : PySem.W.keepIn K (.ref f_law_cell) = true)
    {fis_sequence : Addr} {ocis_sequence : Value} {odis_sequence anis_sequence : Option Addr} {slis_sequence : Array (Option Value)} {kVis_sequence dcis_sequence pmis_sequence cdis_sequence ctis_sequence : Value}
    (ais_sequence : PySem.W.nsIn K mainGlobals "is_sequence" = some (some (.ref fis_sequence)))
    (lis_sequence : K.lookup fis_sequence = some ⟨ocis_sequence, odis_sequence, .func (PySem.W.fnOf "is_sequence" "is_sequence" (defArgs sis_sequence) (defBody sis_sequence) (defScope sis_sequence) .none kVis_sequence dcis_sequence pmis_sequence anis_sequence cdis_sequence ctis_sequence), slis_sequence⟩)
    (cis_sequence : PySem.W.codeIn K cdis_sequence "is_sequence" = true)
    (kis_sequence : PySem.W.keepIn K (.ref fis_sequence) = true)
    {fis_pattern : Addr} {ocis_pattern : Value} {odis_pattern anis_pattern : Option Addr} {slis_pattern : Array (Option Value)} {kVis_pattern dcis_pattern pmis_pattern cdis_pattern ctis_pattern : Value}
    (ais_pattern : PySem.W.nsIn K mainGlobals "is_pattern" = some (some (.ref fis_pattern)))
    (lis_pattern : K.lookup fis_pattern = some ⟨ocis_pattern, odis_pattern, .func (PySem.W.fnOf "is_pattern" "is_pattern" (defArgs sis_pattern) (defBody sis_pattern) (defScope sis_pattern) .none kVis_pattern dcis_pattern pmis_pattern anis_pattern cdis_pattern ctis_pattern), slis_pattern⟩)
    (cis_pattern : PySem.W.codeIn K cdis_pattern "is_pattern" = true)
    (kis_pattern : PySem.W.keepIn K (.ref fis_pattern) = true)
    {fare_rows : Addr} {ocare_rows : Value} {odare_rows anare_rows : Option Addr} {slare_rows : Array (Option Value)} {kVare_rows dcare_rows pmare_rows cdare_rows ctare_rows : Value}
    (aare_rows : PySem.W.nsIn K mainGlobals "are_rows" = some (some (.ref fare_rows)))
    (lare_rows : K.lookup fare_rows = some ⟨ocare_rows, odare_rows, .func (PySem.W.fnOf "are_rows" "are_rows" (defArgs sare_rows) (defBody sare_rows) (defScope sare_rows) .none kVare_rows dcare_rows pmare_rows anare_rows cdare_rows ctare_rows), slare_rows⟩)
    (care_rows : PySem.W.codeIn K cdare_rows "are_rows" = true)
    (kare_rows : PySem.W.keepIn K (.ref fare_rows) = true)
    {f_law_threads : Addr} {oc_law_threads : Value} {od_law_threads an_law_threads : Option Addr} {sl_law_threads : Array (Option Value)} {kV_law_threads dc_law_threads pm_law_threads cd_law_threads ct_law_threads : Value}
    (a_law_threads : PySem.W.nsIn K mainGlobals "_law_threads" = some (some (.ref f_law_threads)))
    (l_law_threads : K.lookup f_law_threads = some ⟨oc_law_threads, od_law_threads, .func (PySem.W.fnOf "_law_threads" "_law_threads" (defArgs s_law_threads) (defBody s_law_threads) (defScope s_law_threads) .none kV_law_threads dc_law_threads pm_law_threads an_law_threads cd_law_threads ct_law_threads), sl_law_threads⟩)
    (c_law_threads : PySem.W.codeIn K cd_law_threads "_law_threads" = true)
    (k_law_threads : PySem.W.keepIn K (.ref f_law_threads) = true)
    {f_law_take : Addr} {oc_law_take : Value} {od_law_take an_law_take : Option Addr} {sl_law_take : Array (Option Value)} {kV_law_take dc_law_take pm_law_take cd_law_take ct_law_take : Value}
    (a_law_take : PySem.W.nsIn K mainGlobals "_law_take" = some (some (.ref f_law_take)))
    (l_law_take : K.lookup f_law_take = some ⟨oc_law_take, od_law_take, .func (PySem.W.fnOf "_law_take" "_law_take" (defArgs s_law_take) (defBody s_law_take) (defScope s_law_take) .none kV_law_take dc_law_take pm_law_take an_law_take cd_law_take ct_law_take), sl_law_take⟩)
    (c_law_take : PySem.W.codeIn K cd_law_take "_law_take" = true)
    (k_law_take : PySem.W.keepIn K (.ref f_law_take) = true)
    {f_law_over : Addr} {oc_law_over : Value} {od_law_over an_law_over : Option Addr} {sl_law_over : Array (Option Value)} {kV_law_over dc_law_over pm_law_over cd_law_over ct_law_over : Value}
    (a_law_over : PySem.W.nsIn K mainGlobals "_law_over" = some (some (.ref f_law_over)))
    (l_law_over : K.lookup f_law_over = some ⟨oc_law_over, od_law_over, .func (PySem.W.fnOf "_law_over" "_law_over" (defArgs s_law_over) (defBody s_law_over) (defScope s_law_over) .none kV_law_over dc_law_over pm_law_over an_law_over cd_law_over ct_law_over), sl_law_over⟩)
    (c_law_over : PySem.W.codeIn K cd_law_over "_law_over" = true)
    (k_law_over : PySem.W.keepIn K (.ref f_law_over) = true)
    {f_law_lengths : Addr} {oc_law_lengths : Value} {od_law_lengths an_law_lengths : Option Addr} {sl_law_lengths : Array (Option Value)} {kV_law_lengths dc_law_lengths pm_law_lengths cd_law_lengths ct_law_lengths : Value}
    (a_law_lengths : PySem.W.nsIn K mainGlobals "_law_lengths" = some (some (.ref f_law_lengths)))
    (l_law_lengths : K.lookup f_law_lengths = some ⟨oc_law_lengths, od_law_lengths, .func (PySem.W.fnOf "_law_lengths" "_law_lengths" (defArgs s_law_lengths) (defBody s_law_lengths) (defScope s_law_lengths) .none kV_law_lengths dc_law_lengths pm_law_lengths an_law_lengths cd_law_lengths ct_law_lengths), sl_law_lengths⟩)
    (c_law_lengths : PySem.W.codeIn K cd_law_lengths "_law_lengths" = true)
    (k_law_lengths : PySem.W.keepIn K (.ref f_law_lengths) = true)
    {fneed_cloth : Addr} {ocneed_cloth : Value} {odneed_cloth anneed_cloth : Option Addr} {slneed_cloth : Array (Option Value)} {kVneed_cloth dcneed_cloth pmneed_cloth cdneed_cloth ctneed_cloth : Value}
    (aneed_cloth : PySem.W.nsIn K mainGlobals "need_cloth" = some (some (.ref fneed_cloth)))
    (lneed_cloth : K.lookup fneed_cloth = some ⟨ocneed_cloth, odneed_cloth, .func (PySem.W.fnOf "need_cloth" "need_cloth" (defArgs sneed_cloth) (defBody sneed_cloth) (defScope sneed_cloth) .none kVneed_cloth dcneed_cloth pmneed_cloth anneed_cloth cdneed_cloth ctneed_cloth), slneed_cloth⟩)
    (cneed_cloth : PySem.W.codeIn K cdneed_cloth "need_cloth" = true)
    (kneed_cloth : PySem.W.keepIn K (.ref fneed_cloth) = true)
    {fis_integer : Addr} {ocis_integer : Value} {odis_integer anis_integer : Option Addr} {slis_integer : Array (Option Value)} {kVis_integer dcis_integer pmis_integer cdis_integer ctis_integer : Value}
    (ais_integer : PySem.W.nsIn K mainGlobals "is_integer" = some (some (.ref fis_integer)))
    (lis_integer : K.lookup fis_integer = some ⟨ocis_integer, odis_integer, .func (PySem.W.fnOf "is_integer" "is_integer" (defArgs sis_integer) (defBody sis_integer) (defScope sis_integer) .none kVis_integer dcis_integer pmis_integer anis_integer cdis_integer ctis_integer), slis_integer⟩)
    (cis_integer : PySem.W.codeIn K cdis_integer "is_integer" = true)
    (kis_integer : PySem.W.keepIn K (.ref fis_integer) = true)
    {fis_thread : Addr} {ocis_thread : Value} {odis_thread anis_thread : Option Addr} {slis_thread : Array (Option Value)} {kVis_thread dcis_thread pmis_thread cdis_thread ctis_thread : Value}
    (ais_thread : PySem.W.nsIn K mainGlobals "is_thread" = some (some (.ref fis_thread)))
    (lis_thread : K.lookup fis_thread = some ⟨ocis_thread, odis_thread, .func (PySem.W.fnOf "is_thread" "is_thread" (defArgs sis_thread) (defBody sis_thread) (defScope sis_thread) .none kVis_thread dcis_thread pmis_thread anis_thread cdis_thread ctis_thread), slis_thread⟩)
    (cis_thread : PySem.W.codeIn K cdis_thread "is_thread" = true)
    (kis_thread : PySem.W.keepIn K (.ref fis_thread) = true)
    {fneed_member : Addr} {ocneed_member : Value} {odneed_member anneed_member : Option Addr} {slneed_member : Array (Option Value)} {kVneed_member dcneed_member pmneed_member cdneed_member ctneed_member : Value}
    (aneed_member : PySem.W.nsIn K mainGlobals "need_member" = some (some (.ref fneed_member)))
    (lneed_member : K.lookup fneed_member = some ⟨ocneed_member, odneed_member, .func (PySem.W.fnOf "need_member" "need_member" (defArgs sneed_member) (defBody sneed_member) (defScope sneed_member) .none kVneed_member dcneed_member pmneed_member anneed_member cdneed_member ctneed_member), slneed_member⟩)
    (cneed_member : PySem.W.codeIn K cdneed_member "need_member" = true)
    (kneed_member : PySem.W.keepIn K (.ref fneed_member) = true)
    {fcrossing_of : Addr} {occrossing_of : Value} {odcrossing_of ancrossing_of : Option Addr} {slcrossing_of : Array (Option Value)} {kVcrossing_of dccrossing_of pmcrossing_of cdcrossing_of ctcrossing_of : Value}
    (acrossing_of : PySem.W.nsIn K mainGlobals "crossing_of" = some (some (.ref fcrossing_of)))
    (lcrossing_of : K.lookup fcrossing_of = some ⟨occrossing_of, odcrossing_of, .func (PySem.W.fnOf "crossing_of" "crossing_of" (defArgs scrossing_of) (defBody scrossing_of) (defScope scrossing_of) .none kVcrossing_of dccrossing_of pmcrossing_of ancrossing_of cdcrossing_of ctcrossing_of), slcrossing_of⟩)
    (ccrossing_of : PySem.W.codeIn K cdcrossing_of "crossing_of" = true)
    (kcrossing_of : PySem.W.keepIn K (.ref fcrossing_of) = true)
    {fis_crossing : Addr} {ocis_crossing : Value} {odis_crossing anis_crossing : Option Addr} {slis_crossing : Array (Option Value)} {kVis_crossing dcis_crossing pmis_crossing cdis_crossing ctis_crossing : Value}
    (ais_crossing : PySem.W.nsIn K mainGlobals "is_crossing" = some (some (.ref fis_crossing)))
    (lis_crossing : K.lookup fis_crossing = some ⟨ocis_crossing, odis_crossing, .func (PySem.W.fnOf "is_crossing" "is_crossing" (defArgs sis_crossing) (defBody sis_crossing) (defScope sis_crossing) .none kVis_crossing dcis_crossing pmis_crossing anis_crossing cdis_crossing ctis_crossing), slis_crossing⟩)
    (cis_crossing : PySem.W.codeIn K cdis_crossing "is_crossing" = true)
    (kis_crossing : PySem.W.keepIn K (.ref fis_crossing) = true)
    {fpaths_from : Addr} {ocpaths_from : Value} {odpaths_from anpaths_from : Option Addr} {slpaths_from : Array (Option Value)} {kVpaths_from dcpaths_from pmpaths_from cdpaths_from ctpaths_from : Value}
    (apaths_from : PySem.W.nsIn K mainGlobals "paths_from" = some (some (.ref fpaths_from)))
    (lpaths_from : K.lookup fpaths_from = some ⟨ocpaths_from, odpaths_from, .func (PySem.W.fnOf "paths_from" "paths_from" (defArgs spaths_from) (defBody spaths_from) (defScope spaths_from) .none kVpaths_from dcpaths_from pmpaths_from anpaths_from cdpaths_from ctpaths_from), slpaths_from⟩)
    (cpaths_from : PySem.W.codeIn K cdpaths_from "paths_from" = true)
    (kpaths_from : PySem.W.keepIn K (.ref fpaths_from) = true)
    {fpath_between : Addr} {ocpath_between : Value} {odpath_between anpath_between : Option Addr} {slpath_between : Array (Option Value)} {kVpath_between dcpath_between pmpath_between cdpath_between ctpath_between : Value}
    (apath_between : PySem.W.nsIn K mainGlobals "path_between" = some (some (.ref fpath_between)))
    (lpath_between : K.lookup fpath_between = some ⟨ocpath_between, odpath_between, .func (PySem.W.fnOf "path_between" "path_between" (defArgs spath_between) (defBody spath_between) (defScope spath_between) .none kVpath_between dcpath_between pmpath_between anpath_between cdpath_between ctpath_between), slpath_between⟩)
    (cpath_between : PySem.W.codeIn K cdpath_between "path_between" = true)
    (kpath_between : PySem.W.keepIn K (.ref fpath_between) = true)
    {fshortest_path : Addr} {ocshortest_path : Value} {odshortest_path anshortest_path : Option Addr} {slshortest_path : Array (Option Value)} {kVshortest_path dcshortest_path pmshortest_path cdshortest_path ctshortest_path : Value}
    (ashortest_path : PySem.W.nsIn K mainGlobals "shortest_path" = some (some (.ref fshortest_path)))
    (lshortest_path : K.lookup fshortest_path = some ⟨ocshortest_path, odshortest_path, .func (PySem.W.fnOf "shortest_path" "shortest_path" (defArgs sshortest_path) (defBody sshortest_path) (defScope sshortest_path) .none kVshortest_path dcshortest_path pmshortest_path anshortest_path cdshortest_path ctshortest_path), slshortest_path⟩)
    (cshortest_path : PySem.W.codeIn K cdshortest_path "shortest_path" = true)
    (kshortest_path : PySem.W.keepIn K (.ref fshortest_path) = true)
    {f_law_path_right : Addr} {oc_law_path_right : Value} {od_law_path_right an_law_path_right : Option Addr} {sl_law_path_right : Array (Option Value)} {kV_law_path_right dc_law_path_right pm_law_path_right cd_law_path_right ct_law_path_right : Value}
    (a_law_path_right : PySem.W.nsIn K mainGlobals "_law_path_right" = some (some (.ref f_law_path_right)))
    (l_law_path_right : K.lookup f_law_path_right = some ⟨oc_law_path_right, od_law_path_right, .func (PySem.W.fnOf "_law_path_right" "_law_path_right" (defArgs s_law_path_right) (defBody s_law_path_right) (defScope s_law_path_right) .none kV_law_path_right dc_law_path_right pm_law_path_right an_law_path_right cd_law_path_right ct_law_path_right), sl_law_path_right⟩)
    (c_law_path_right : PySem.W.codeIn K cd_law_path_right "_law_path_right" = true)
    (k_law_path_right : PySem.W.keepIn K (.ref f_law_path_right) = true)
    {f_law_right : Addr} {oc_law_right : Value} {od_law_right an_law_right : Option Addr} {sl_law_right : Array (Option Value)} {kV_law_right dc_law_right pm_law_right cd_law_right ct_law_right : Value}
    (a_law_right : PySem.W.nsIn K mainGlobals "_law_right" = some (some (.ref f_law_right)))
    (l_law_right : K.lookup f_law_right = some ⟨oc_law_right, od_law_right, .func (PySem.W.fnOf "_law_right" "_law_right" (defArgs s_law_right) (defBody s_law_right) (defScope s_law_right) .none kV_law_right dc_law_right pm_law_right an_law_right cd_law_right ct_law_right), sl_law_right⟩)
    (c_law_right : PySem.W.codeIn K cd_law_right "_law_right" = true)
    (k_law_right : PySem.W.keepIn K (.ref f_law_right) = true)
    {f_law_rows : Addr} {oc_law_rows : Value} {od_law_rows an_law_rows : Option Addr} {sl_law_rows : Array (Option Value)} {kV_law_rows dc_law_rows pm_law_rows cd_law_rows ct_law_rows : Value}
    (a_law_rows : PySem.W.nsIn K mainGlobals "_law_rows" = some (some (.ref f_law_rows)))
    (l_law_rows : K.lookup f_law_rows = some ⟨oc_law_rows, od_law_rows, .func (PySem.W.fnOf "_law_rows" "_law_rows" (defArgs s_law_rows) (defBody s_law_rows) (defScope s_law_rows) .none kV_law_rows dc_law_rows pm_law_rows an_law_rows cd_law_rows ct_law_rows), sl_law_rows⟩)
    (c_law_rows : PySem.W.codeIn K cd_law_rows "_law_rows" = true)
    (k_law_rows : PySem.W.keepIn K (.ref f_law_rows) = true)
    {flaw : Addr} {oclaw : Value} {odlaw anlaw : Option Addr} {sllaw : Array (Option Value)} {kVlaw dclaw pmlaw cdlaw ctlaw : Value}
    (alaw : PySem.W.nsIn K mainGlobals "law" = some (some (.ref flaw)))
    (llaw : K.lookup flaw = some ⟨oclaw, odlaw, .func (PySem.W.fnOf "law" "law" (defArgs slaw) (defBody slaw) (defScope slaw) .none kVlaw dclaw pmlaw anlaw cdlaw ctlaw), sllaw⟩)
    (claw : PySem.W.codeIn K cdlaw "law" = true)
    (klaw : PySem.W.keepIn K (.ref flaw) = true) :
    ∃ fd : FuncData, (∀ (s : Shared) (u : Value), BindsTo s fd ⟨[u], []⟩ [("_law_script", u)]) ∧ ∀ base : Heap, K.In base → base.Ns mainGlobals mg → (∀ p ∈ allL, GxR.TabB base mg p.1 p.2) → GFn P w K mg base 11 fa fd ["_law_script"] glaw := by
  have T : Txt P K mg := ⟨PySem.W.mg_none_of X G z_all,
   PySem.W.mg_none_of X G z_bool,
   PySem.W.mg_none_of X G z_dict,
   PySem.W.mg_none_of X G z_int,
   PySem.W.mg_none_of X G z_isinstance,
   PySem.W.mg_none_of X G z_len,
   PySem.W.mg_none_of X G z_list,
   PySem.W.mg_none_of X G z_max,
   PySem.W.mg_none_of X G z_min,
   PySem.W.mg_none_of X G z_range,
   PySem.W.mg_none_of X G z_repr,
   PySem.W.mg_none_of X G z_str,
   PySem.W.mg_none_of X G z_tuple,
   isc_tup (PySem.W.mg_of X G a_KINDS) l_KINDS (Nat.le_of_ble_eq_true rfl) (.cons (.str _ _) (.cons (.str _ _) (.nil))),
   isc_str (PySem.W.mg_of X G a_SIGNS),
   fun _ _ h => PySem.W.mg_of X G h,
   ⟨PySem.W.mg_none_of X G z_super, z_third⟩,
   ⟨⟨CInvalidCloth, fIInvalidCloth, xaInvalidCloth, ⟨_, _, _, _, bmInvalidCloth, _, _, _, _, _, _, _, _, _, _, _, _, _, _, PySem.Mxe.xb_ValueError, xcInvalidCloth, xtInvalidCloth, xsInvalidCloth, xbInvalidCloth⟩, xiInvalidCloth, xyInvalidCloth, ⟨ccInvalidCloth, cdaInvalidCloth, _, _, _, _, _, _, _, _, _, _, _, _, _, _, _, _, _, _, _, _, _, _, _, vsInvalidCloth, _, ⟨rfl, rfl, rfl, by decide +kernel, rfl, rfl, rfl, rfl, by decide, by decide, z_top, ⟨_, _, _, _, _, _, _, _, _, _, _, rfl, rfl⟩⟩, xlInvalidCloth, xoInvalidCloth, xdInvalidCloth, xvInvalidCloth, xfInvalidCloth, xeInvalidCloth, rfl, rfl, fun _ _ _ => .of_eq rfl⟩, xmInvalidCloth, xpInvalidCloth, xnInvalidCloth, xqInvalidCloth, xrInvalidCloth, xkInvalidCloth, xgInvalidCloth, xhInvalidCloth, xjInvalidCloth⟩⟩,
   ⟨⟨CInvalidCrossing, fIInvalidCrossing, xaInvalidCrossing, ⟨_, _, _, _, bmInvalidCrossing, _, _, _, _, _, _, _, _, _, _, _, _, _, _, PySem.Mxe.xb_ValueError, xcInvalidCrossing, xtInvalidCrossing, xsInvalidCrossing, xbInvalidCrossing⟩, xiInvalidCrossing, xyInvalidCrossing, ⟨ccInvalidCrossing, cdaInvalidCrossing, _, _, _, _, _, _, _, _, _, _, _, _, _, _, _, _, _, _, _, _, _, _, _, vsInvalidCrossing, _, ⟨rfl, rfl, rfl, by decide +kernel, rfl, rfl, rfl, rfl, by decide, by decide, z_top, ⟨_, _, _, _, _, _, _, _, _, _, _, rfl, rfl⟩⟩, xlInvalidCrossing, xoInvalidCrossing, xdInvalidCrossing, xvInvalidCrossing, xfInvalidCrossing, xeInvalidCrossing, rfl, rfl, fun _ _ _ => .of_eq rfl⟩, xmInvalidCrossing, xpInvalidCrossing, xnInvalidCrossing, xqInvalidCrossing, xrInvalidCrossing, xkInvalidCrossing, xgInvalidCrossing, xhInvalidCrossing, xjInvalidCrossing⟩⟩,
   ⟨⟨CInvalidRows, fIInvalidRows, xaInvalidRows, ⟨_, _, _, _, bmInvalidRows, _, _, _, _, _, _, _, _, _, _, _, _, _, _, PySem.Mxe.xb_ValueError, xcInvalidRows, xtInvalidRows, xsInvalidRows, xbInvalidRows⟩, xiInvalidRows, xyInvalidRows, ⟨ccInvalidRows, cdaInvalidRows, _, _, _, _, _, _, _, _, _, _, _, _, _, _, _, _, _, _, _, _, _, _, _, vsInvalidRows, _, ⟨rfl, rfl, rfl, by decide +kernel, rfl, rfl, rfl, rfl, by decide, by decide, z_top, ⟨_, _, _, _, _, _, _, _, _, _, _, rfl, rfl⟩⟩, xlInvalidRows, xoInvalidRows, xdInvalidRows, xvInvalidRows, xfInvalidRows, xeInvalidRows, rfl, rfl, fun _ _ _ => .of_eq rfl⟩, xmInvalidRows, xpInvalidRows, xnInvalidRows, xqInvalidRows, xrInvalidRows, xkInvalidRows, xgInvalidRows, xhInvalidRows, xjInvalidRows⟩⟩,
   ⟨⟨CInvalidThread, fIInvalidThread, xaInvalidThread, ⟨_, _, _, _, bmInvalidThread, _, _, _, _, _, _, _, _, _, _, _, _, _, _, PySem.Mxe.xb_ValueError, xcInvalidThread, xtInvalidThread, xsInvalidThread, xbInvalidThread⟩, xiInvalidThread, xyInvalidThread, ⟨ccInvalidThread, cdaInvalidThread, _, _, _, _, _, _, _, _, _, _, _, _, _, _, _, _, _, _, _, _, _, _, _, vsInvalidThread, _, ⟨rfl, rfl, rfl, by decide +kernel, rfl, rfl, rfl, rfl, by decide, by decide, z_top, ⟨_, _, _, _, _, _, _, _, _, _, _, rfl, rfl⟩⟩, xlInvalidThread, xoInvalidThread, xdInvalidThread, xvInvalidThread, xfInvalidThread, xeInvalidThread, rfl, rfl, fun _ _ _ => .of_eq rfl⟩, xmInvalidThread, xpInvalidThread, xnInvalidThread, xqInvalidThread, xrInvalidThread, xkInvalidThread, xgInvalidThread, xhInvalidThread, xjInvalidThread⟩⟩,
   ⟨ACloth, .inl caCloth, ⟨cpCloth, cdCloth, coCloth, csCloth⟩, fn_Cloth_kept_rows⟩,
   ⟨ACloth, .type "type", _, caCloth, ⟨rdCloth, rgCloth⟩, ⟨cv_Cloth_MOST, ⟨_, rfl⟩⟩⟩,
   ⟨ACloth, caCloth, (allc ⟨ACloth, .inl caCloth, ⟨cpCloth, cdCloth, coCloth, csCloth⟩, iscCloth, isp, ist, isoCloth, kit_self⟩ (all0)), all7 (kit_mk isiCloth isyCloth rfl isbCloth_NoneType) (kit_mk isiCloth isyCloth rfl isbCloth_bool) (kit_mk isiCloth isyCloth rfl isbCloth_int) (kit_mk isiCloth isyCloth rfl isbCloth_str) (kit_mk isiCloth isyCloth rfl isbCloth_list) (kit_mk isiCloth isyCloth rfl isbCloth_tuple) (kit_mk isiCloth isyCloth rfl isbCloth_dict)⟩,
   ⟨ACloth, fCloth____contains__, .inl caCloth, ⟨sfCloth____contains__, snCloth____contains__, sgCloth____contains__, ssCloth____contains__⟩, ⟨_, fun_mk (st := sCloth____contains__) lCloth____contains__ cCloth____contains__ kCloth____contains__, (fun_mk (st := sCloth____contains__) lCloth____contains__ cCloth____contains__ kCloth____contains__).binds fun _ _ _ _ _ _ us hl => match us, hl with | [_, _], _ => rfl⟩⟩,
   ⟨ACloth, fCloth____getitem__, .inl caCloth, ⟨sfCloth____getitem__, snCloth____getitem__, sgCloth____getitem__, ssCloth____getitem__⟩, ⟨_, fun_mk (st := sCloth____getitem__) lCloth____getitem__ cCloth____getitem__ kCloth____getitem__, (fun_mk (st := sCloth____getitem__) lCloth____getitem__ cCloth____getitem__ kCloth____getitem__).binds fun _ _ _ _ _ _ us hl => match us, hl with | [_, _], _ => rfl⟩⟩,
   ⟨ACloth, fCloth____init__, caCloth, ⟨kiCloth, kfCloth, knCloth, kkCloth⟩, ⟨_, fun_mk (st := sCloth____init__) lCloth____init__ cCloth____init__ kCloth____init__, (fun_mk (st := sCloth____init__) lCloth____init__ cCloth____init__ kCloth____init__).binds fun _ _ _ _ _ _ us hl => match us, hl with | [_, _], _ => rfl⟩⟩,
   ⟨ACloth, fCloth__below, .inl caCloth, ⟨cpCloth, cdCloth, coCloth, csCloth⟩, ⟨mfCloth__below, mnCloth__below, kCloth__below⟩, ⟨_, fun_mk (st := sCloth__below) lCloth__below cCloth__below kCloth__below, (fun_mk (st := sCloth__below) lCloth__below cCloth__below kCloth__below).binds fun _ _ _ _ _ _ us hl => match us, hl with | [_, _], _ => rfl⟩⟩,
   ⟨ACloth, fCloth__crossed, .inl caCloth, ⟨cpCloth, cdCloth, coCloth, csCloth⟩, ⟨mfCloth__crossed, mnCloth__crossed, kCloth__crossed⟩, ⟨_, fun_mk (st := sCloth__crossed) lCloth__crossed cCloth__crossed kCloth__crossed, (fun_mk (st := sCloth__crossed) lCloth__crossed cCloth__crossed kCloth__crossed).binds fun _ _ _ _ _ _ us hl => match us, hl with | [_, _], _ => rfl⟩⟩,
   ⟨ACloth, fCloth__over, .inl caCloth, ⟨cpCloth, cdCloth, coCloth, csCloth⟩, ⟨mfCloth__over, mnCloth__over, kCloth__over⟩, ⟨_, fun_mk (st := sCloth__over) lCloth__over cCloth__over kCloth__over, (fun_mk (st := sCloth__over) lCloth__over cCloth__over kCloth__over).binds fun _ _ _ _ _ _ us hl => match us, hl with | [_, _, _], _ => rfl⟩⟩,
   ⟨ACloth, fCloth__threads, .inl caCloth, ⟨cpCloth, cdCloth, coCloth, csCloth⟩, ⟨mfCloth__threads, mnCloth__threads, kCloth__threads⟩, ⟨_, fun_mk (st := sCloth__threads) lCloth__threads cCloth__threads kCloth__threads, (fun_mk (st := sCloth__threads) lCloth__threads cCloth__threads kCloth__threads).binds fun _ _ _ _ _ _ us hl => match us, hl with | [_], _ => rfl⟩⟩,
   ⟨ACloth, pCloth__warp_count, fCloth__warp_count, .inl caCloth, ⟨cpCloth, cdCloth, coCloth, csCloth⟩, ⟨pfCloth__warp_count, pgCloth__warp_count, ptCloth__warp_count, ⟨rsCloth__warp_count, prCloth__warp_count⟩⟩, ⟨_, fun_mk (st := sCloth__warp_count) lCloth__warp_count cCloth__warp_count kCloth__warp_count, (fun_mk (st := sCloth__warp_count) lCloth__warp_count cCloth__warp_count kCloth__warp_count).binds fun _ _ _ _ _ _ us hl => match us, hl with | [_], _ => rfl⟩⟩,
   ⟨ACloth, pCloth__weft_count, fCloth__weft_count, .inl caCloth, ⟨cpCloth, cdCloth, coCloth, csCloth⟩, ⟨pfCloth__weft_count, pgCloth__weft_count, ptCloth__weft_count, ⟨rsCloth__weft_count, prCloth__weft_count⟩⟩, ⟨_, fun_mk (st := sCloth__weft_count) lCloth__weft_count cCloth__weft_count kCloth__weft_count, (fun_mk (st := sCloth__weft_count) lCloth__weft_count cCloth__weft_count kCloth__weft_count).binds fun _ _ _ _ _ _ us hl => match us, hl with | [_], _ => rfl⟩⟩,
   ⟨f_law_box, _, PySem.W.mg_of X G a_law_box, fun_mk (st := s_law_box) l_law_box c_law_box k_law_box, (fun_mk (st := s_law_box) l_law_box c_law_box k_law_box).binds fun _ _ _ _ _ _ us hl => match us, hl with | [_], _ => rfl⟩,
   ⟨f_law_cell, _, PySem.W.mg_of X G a_law_cell, fun_mk (st := s_law_cell) l_law_cell c_law_cell k_law_cell, (fun_mk (st := s_law_cell) l_law_cell c_law_cell k_law_cell).binds fun _ _ _ _ _ _ us hl => match us, hl with | [_, _], _ => rfl⟩,
   ⟨fis_sequence, _, PySem.W.mg_of X G ais_sequence, fun_mk (st := sis_sequence) lis_sequence cis_sequence kis_sequence, (fun_mk (st := sis_sequence) lis_sequence cis_sequence kis_sequence).binds fun _ _ _ _ _ _ us hl => match us, hl with | [_], _ => rfl⟩,
   ⟨fis_pattern, _, PySem.W.mg_of X G ais_pattern, fun_mk (st := sis_pattern) lis_pattern cis_pattern kis_pattern, (fun_mk (st := sis_pattern) lis_pattern cis_pattern kis_pattern).binds fun _ _ _ _ _ _ us hl => match us, hl with | [_, _], _ => rfl⟩,
   ⟨fare_rows, _, PySem.W.mg_of X G aare_rows, fun_mk (st := sare_rows) lare_rows care_rows kare_rows, (fun_mk (st := sare_rows) lare_rows care_rows kare_rows).binds fun _ _ _ _ _ _ us hl => match us, hl with | [_, _], _ => rfl⟩,
   ⟨f_law_threads, _, PySem.W.mg_of X G a_law_threads, fun_mk (st := s_law_threads) l_law_threads c_law_threads k_law_threads, (fun_mk (st := s_law_threads) l_law_threads c_law_threads k_law_threads).binds fun _ _ _ _ _ _ us hl => match us, hl with | [_], _ => rfl⟩,
   ⟨f_law_take, _, PySem.W.mg_of X G a_law_take, fun_mk (st := s_law_take) l_law_take c_law_take k_law_take, (fun_mk (st := s_law_take) l_law_take c_law_take k_law_take).binds fun _ _ _ _ _ _ us hl => match us, hl with | [_, _], _ => rfl⟩,
   ⟨f_law_over, _, PySem.W.mg_of X G a_law_over, fun_mk (st := s_law_over) l_law_over c_law_over k_law_over, (fun_mk (st := s_law_over) l_law_over c_law_over k_law_over).binds fun _ _ _ _ _ _ us hl => match us, hl with | [_, _, _], _ => rfl⟩,
   ⟨f_law_lengths, _, PySem.W.mg_of X G a_law_lengths, fun_mk (st := s_law_lengths) l_law_lengths c_law_lengths k_law_lengths, (fun_mk (st := s_law_lengths) l_law_lengths c_law_lengths k_law_lengths).binds fun _ _ _ _ _ _ us hl => match us, hl with | [_, _], _ => rfl⟩,
   ⟨fneed_cloth, _, PySem.W.mg_of X G aneed_cloth, fun_mk (st := sneed_cloth) lneed_cloth cneed_cloth kneed_cloth, (fun_mk (st := sneed_cloth) lneed_cloth cneed_cloth kneed_cloth).binds fun _ _ _ _ _ _ us hl => match us, hl with | [_], _ => rfl⟩,
   ⟨fis_integer, _, PySem.W.mg_of X G ais_integer, fun_mk (st := sis_integer) lis_integer cis_integer kis_integer, (fun_mk (st := sis_integer) lis_integer cis_integer kis_integer).binds fun _ _ _ _ _ _ us hl => match us, hl with | [_, _, _], _ => rfl⟩,
   ⟨fis_thread, _, PySem.W.mg_of X G ais_thread, fun_mk (st := sis_thread) lis_thread cis_thread kis_thread, (fun_mk (st := sis_thread) lis_thread cis_thread kis_thread).binds fun _ _ _ _ _ _ us hl => match us, hl with | [_, _, _], _ => rfl⟩,
   ⟨fneed_member, _, PySem.W.mg_of X G aneed_member, fun_mk (st := sneed_member) lneed_member cneed_member kneed_member, (fun_mk (st := sneed_member) lneed_member cneed_member kneed_member).binds fun _ _ _ _ _ _ us hl => match us, hl with | [_, _], _ => rfl⟩,
   ⟨fcrossing_of, _, PySem.W.mg_of X G acrossing_of, fun_mk (st := scrossing_of) lcrossing_of ccrossing_of kcrossing_of, (fun_mk (st := scrossing_of) lcrossing_of ccrossing_of kcrossing_of).binds fun _ _ _ _ _ _ us hl => match us, hl with | [_, _], _ => rfl⟩,
   ⟨fis_crossing, _, PySem.W.mg_of X G ais_crossing, fun_mk (st := sis_crossing) lis_crossing cis_crossing kis_crossing, (fun_mk (st := sis_crossing) lis_crossing cis_crossing kis_crossing).binds fun _ _ _ _ _ _ us hl => match us, hl with | [_, _, _], _ => rfl⟩,
   ⟨fpaths_from, _, PySem.W.mg_of X G apaths_from, fun_mk (st := spaths_from) lpaths_from cpaths_from kpaths_from, (fun_mk (st := spaths_from) lpaths_from cpaths_from kpaths_from).binds fun _ _ _ _ _ _ us hl => match us, hl with | [_, _], _ => rfl⟩,
   ⟨fpath_between, _, PySem.W.mg_of X G apath_between, fun_mk (st := spath_between) lpath_between cpath_between kpath_between, (fun_mk (st := spath_between) lpath_between cpath_between kpath_between).binds fun _ _ _ _ _ _ us hl => match us, hl with | [_, _, _], _ => rfl⟩,
   ⟨fshortest_path, _, PySem.W.mg_of X G ashortest_path, fun_mk (st := sshortest_path) lshortest_path cshortest_path kshortest_path, (fun_mk (st := sshortest_path) lshortest_path cshortest_path kshortest_path).binds fun _ _ _ _ _ _ us hl => match us, hl with | [_, _, _], _ => rfl⟩,
   ⟨f_law_path_right, _, PySem.W.mg_of X G a_law_path_right, fun_mk (st := s_law_path_right) l_law_path_right c_law_path_right k_law_path_right, (fun_mk (st := s_law_path_right) l_law_path_right c_law_path_right k_law_path_right).binds fun _ _ _ _ _ _ us hl => match us, hl with | [_, _, _, _], _ => rfl⟩,
   ⟨f_law_right, _, PySem.W.mg_of X G a_law_right, fun_mk (st := s_law_right) l_law_right c_law_right k_law_right, (fun_mk (st := s_law_right) l_law_right c_law_right k_law_right).binds fun _ _ _ _ _ _ us hl => match us, hl with | [_, _], _ => rfl⟩,
   ⟨f_law_rows, _, PySem.W.mg_of X G a_law_rows, fun_mk (st := s_law_rows) l_law_rows c_law_rows k_law_rows, (fun_mk (st := s_law_rows) l_law_rows c_law_rows k_law_rows).binds fun _ _ _ _ _ _ us hl => match us, hl with | [_], _ => rfl⟩,
   ⟨flaw, _, PySem.W.mg_of X G alaw, fun_mk (st := slaw) llaw claw klaw, (fun_mk (st := slaw) llaw claw klaw).binds fun _ _ _ _ _ _ us hl => match us, hl with | [_], _ => rfl⟩⟩
  cases hmg.symm.trans T.flaw.mgf
  refine ⟨T.flaw.fd, fun s u => ?_, fun base _ _ tb => L2.Lw.klaw ⟨T, tb⟩⟩
  obtain ⟨_, _, _, _, _, _, _, _, _, e, _, _⟩ := T.flaw.F.ex
  rw [e]
  exact .of_eq rfl
end L2.Lw

namespace L2.Lw
open PySem PySem.Spec PyProof.Rows L2 L2.Mi
local macro_rules | `(tactic| walk_at "ok0") => `(tactic| first
  | with_reducible refine os_seq ?_ | with_reducible refine os_set ?_ | with_reducible refine os_ret ?_ | with_reducible refine os_asg ?_ | with_reducible refine os_par ?_ | with_reducible refine os_for ?_
  | with_reducible refine os_expr ?_ | with_reducible refine os_nil ?_ | with_reducible refine os_retn ?_ | with_reducible refine os_brk ?_ | with_reducible refine os_cnt ?_
  | with_reducible refine ok_op ?_ | (with_reducible refine ok_var ?_ ?_; (focus rfl)) | with_reducible refine ok_c ?_ | with_reducible refine ok_un ?_ | with_reducible refine ok_cb ?_ | with_reducible refine ok_anil ?_ | with_reducible refine ok_acons ?_
  | with_reducible refine ok_lst ?_ | with_reducible refine ok_tup ?_ | with_reducible refine ok_lstM ?_ | with_reducible refine ok_dict1 ?_
  | with_reducible refine ok_and ?_ | with_reducible refine ok_or ?_ | with_reducible refine ok_not ?_ | with_reducible refine ok_chain ?_ | with_reducible refine ok_t ?_ | with_reducible refine ok_tnot ?_ | with_reducible refine ok_tand ?_
  | with_reducible refine ok_tor ?_ | with_reducible refine ok_if ?_ | with_reducible refine ok_onone ?_ | with_reducible refine ok_osome ?_ | with_reducible refine ok_slice ?_ | with_reducible refine ok_m1 ?_
  | with_reducible refine ok_bm ?_ | with_reducible refine ok_gs ?_ | with_reducible refine ok_cbd ?_ | with_reducible refine ok_cbk ?_ | with_reducible refine os_ifNm ?_ | with_reducible refine ok_frz ?_ | with_reducible refine ok_itup ?_ | with_reducible refine ok_istr ?_ | with_reducible refine ok_r1 ?_ | with_reducible refine ok_r2 ?_ | with_reducible refine ok_il ?_ | with_reducible refine ok_gn ?_ | with_reducible refine ok_lc ?_
  | refine And.intro (Nat.le_of_ble_eq_true rfl) ?_ | refine Exists.intro _ (And.intro rfl ?_) | refine And.intro (fun _ => ?_) (fun hk => Bool.noConfusion hk) | refine And.intro (fun hk => Bool.noConfusion hk) (fun _ => ?_)
  | ((fail_if_success (with_reducible refine Ok.fun ?_ ?_)); refine ok_ret ?_))
local macro_rules | `(tactic| walk_at "ok1") => `(tactic| first | with_reducible refine os_if ?_ | with_reducible refine os_fcons ?_ | with_reducible refine os_fnil ?_ | walk_at "ok0")
local macro_rules | `(tactic| walk_at "okn") => `(tactic| repeat (walk_at "ok0"))
local macro_rules | `(tactic| walk_at "ok") => `(tactic| repeat (walk_at "ok1"))
local macro_rules | `(tactic| walk_at "nolp") => `(tactic| (fail_if_success (with_reducible refine at_lc ?_); fail_if_success (with_reducible refine at_lcW ?_); fail_if_success (with_reducible refine at_for ?_); fail_if_success (with_reducible refine at_forW ?_); fail_if_success (with_reducible refine at_mul ?_); fail_if_success (with_reducible refine at_mod ?_); fail_if_success (with_reducible refine at_div ?_); fail_if_success (with_reducible refine at_pow ?_)))
local macro_rules | `(tactic| walk_at "ok3") => `(tactic| first
  | with_reducible refine os_seq ?_ | with_reducible refine os_set ?_ | with_reducible refine os_ret ?_ | with_reducible refine os_asg ?_ | with_reducible refine os_par ?_ 
  | with_reducible refine os_expr ?_ | with_reducible refine os_nil ?_ | with_reducible refine os_retn ?_ | with_reducible refine os_brk ?_ | with_reducible refine os_cnt ?_
  | with_reducible refine ok_op ?_ | (with_reducible refine ok_var ?_ ?_; (focus rfl)) | with_reducible refine ok_c ?_ | with_reducible refine ok_un ?_ | with_reducible refine ok_cb ?_ | with_reducible refine ok_anil ?_ | with_reducible refine ok_acons ?_
  | with_reducible refine ok_lst ?_ | with_reducible refine ok_tup ?_ | with_reducible refine ok_lstM ?_ | with_reducible refine ok_dict1 ?_
  | with_reducible refine ok_and ?_ | with_reducible refine ok_or ?_ | with_reducible refine ok_not ?_ | with_reducible refine ok_chain ?_ | with_reducible refine ok_t ?_ | with_reducible refine ok_tnot ?_ | with_reducible refine ok_tand ?_
  | with_reducible refine ok_tor ?_ | with_reducible refine ok_if ?_ | with_reducible refine ok_onone ?_ | with_reducible refine ok_osome ?_ | with_reducible refine ok_slice ?_ | with_reducible refine ok_m1 ?_
  | with_reducible refine ok_bm ?_ | with_reducible refine ok_gs ?_ | with_reducible refine ok_cbd ?_ | with_reducible refine ok_cbk ?_ | with_reducible refine os_ifNm ?_ | with_reducible refine ok_frz ?_ | with_reducible refine ok_gn ?_ 
  | refine And.intro (Nat.le_of_ble_eq_true rfl) ?_ | (walk_at "nolp"; refine Exists.intro _ (And.intro rfl ?_)) | refine And.intro (fun _ => ?_) (fun hk => Bool.noConfusion hk) | refine And.intro (fun hk => Bool.noConfusion hk) (fun _ => ?_)
  | (walk_at "nolp"; (fail_if_success (with_reducible refine Ok.fun ?_ ?_)); refine ok_ret ?_))
local macro_rules | `(tactic| walk_at "okm") => `(tactic| repeat (first | with_reducible refine os_if ?_ | walk_at "ok3"))

theorem ok_eq {α : Type} {r : Mi.R α} {x : α} {c : Cs} (h : Ok r fun d c' => d = x ∧ c' = c) : r = .ok x c := by
  obtain ⟨d, c', e, rfl, rfl⟩ := h
  exact e
structure ElV (x : D) (c : Cs) : Prop where
  ex : ∃ t, tyD x c = some t ∧ (t = "str" → ∃ s, x = .str s ∧ s.length ≤ 5000)
structure SeqV (v : D) (c : Cs) (xs : List D) : Prop where
  sq : seqOf v c = some xs
  ty : tyD v c = some "list" ∨ tyD v c = some "tuple"
  ln : xs.length ≤ 10000
  el : ∀ x ∈ xs, ElV x c
  nr : ∀ ys, v ≠ .ro ys
theorem len_seq {v : D} {c : Cs} {xs : List D} (h : seqOf v c = some xs) : lenD [v] c = .ok (.int xs.length) c := by
  cases v with
  | lst ys => cases h; rfl
  | tup ys => cases h; rfl
  | ro ys => cases h; rfl
  | ref k =>
    have h : (match c[k]? with
      | some (.lst xs) => some xs
      | _ => none) = some xs := h
    cases q : c[k]? with
    | none => rw [q] at h; cases h
    | some y =>
      rw [q] at h
      cases y with
      | lst ys => cases h; simp [lenD, lenC, q]
      | _ => cases h
  | _ => cases h
theorem item_seq {v : D} {c : Cs} {xs : List D} {i : Nat} {x : D} (h : seqOf v c = some xs) (hx : xs[i]? = some x) : itemD v (.int (i : Nat)) c = .ok x c := by
  have hl := (List.getElem?_eq_some_iff.mp hx).1
  have e : ∀ ys : List D, ys = xs → itL ys (i : Nat) c = .ok x c := fun ys e => by subst e; simp [itL, atI, ixN, hl, hx]; exact (List.getElem?_eq_some_iff.mp hx).2
  cases v with
  | lst ys => cases h; exact e _ rfl
  | tup ys => cases h; exact e _ rfl
  | ro ys => cases h; exact e _ rfl
  | ref k =>
    have h : (match c[k]? with
      | some (.lst xs) => some xs
      | _ => none) = some xs := h
    cases q : c[k]? with
    | none => rw [q] at h; cases h
    | some y =>
      rw [q] at h
      cases y with
      | lst ys =>
        cases h
        simp only [itemD, q]
        exact e _ rfl
      | _ => cases h
  | _ => cases h
theorem isi_str {x : D} {c : Cs} {t : String} (h : tyD x c = some t) : isiD [x, .ty "str"] c = .ok (.bl (isT t "str")) c := by simp [isiD, h, tyNames]
theorem isT_str {t : String} (h : t ∈ tyNames) : isT t "str" = (t == "str") := by
  simp only [tyNames, List.mem_cons, List.not_mem_nil, or_false] at h
  rcases h with rfl | rfl | rfl | rfl | rfl | rfl | rfl <;> decide
theorem isi_seq {x : D} {c : Cs} {t : String} (h : tyD x c = some t) : isiD [x, .tup [.ty "list", .ty "tuple"]] c = .ok (.bl (t == "list" || t == "tuple")) c := by
  have hm := tyD_mem h
  have e : isiD [x, .tup [.ty "list", .ty "tuple"]] c = .ok (.bl (isiAny t ["list", "tuple"])) c := by simp [isiD, h, clsL, tyNames]
  rw [e]
  simp only [tyNames, List.mem_cons, List.not_mem_nil, or_false] at hm
  rcases hm with rfl | rfl | rfl | rfl | rfl | rfl | rfl <;> rfl
def bitB (k : Nat) : Bool := k == 48 || k == 49
def rowB (n : Int) (d : D) : Bool := match d with
  | .str s => decide ((s.length : Int) = n) && s.cps.toList.all bitB
  | _ => false
theorem in_dec (k : Nat) : (decide (k ∈ ("01" : Str).cps.toList)) = bitB k := by
  have : ("01" : Str).cps.toList = [48, 49] := by decide +kernel
  rw [this]
  simp [bitB, Bool.decide_or]
  rfl
theorem bls_map {α : Type} (f : α → Bool) : ∀ xs : List α, blsOf (xs.map fun x => D.bl (f x)) = some (xs.map f)
  | [] => rfl
  | x :: xs => by simp [blsOf, bls_map f xs]
theorem all_bls {α : Type} (f : α → Bool) (xs : List α) (c : Cs) : allD [.lst (xs.map fun x => D.bl (f x))] c = .ok (.bl (xs.all f)) c := by
  have e : allD [.lst (xs.map fun x => D.bl (f x))] c = .ok (.bl ((xs.map f).all id)) c := by simp [allD, on1, allP, bls_map]
  rw [e, List.all_map]
  rfl
theorem filter_yes {α : Type} (xs : List α) : xs.filter (fun _ => true) = xs := List.filter_eq_self.mpr fun _ _ => rfl
theorem pattern_eq {d : D} {n : Int} {c : Cs} (h : ElV d c) : gis_pattern [d, .int n] c = .ok (.bl (rowB n d)) c := by
  obtain ⟨t, ht, hs⟩ := h.ex
  have hz : sizeLine = 16777216 := sizeLine_eq
  refine ok_eq (Ok.fun rfl ?_)
  unfold cis_pattern
  walk_at "ok"
  refine Ok.of (isi_str ht) ?_
  rw [isT_str (tyD_mem ht)]
  refine ⟨_, rfl, fun q => ?_, fun q => ?_⟩
  · obtain ⟨s, rfl, hl⟩ := hs (eq_of_beq q)
    walk_at "ok"
    refine ok_len_str (by omega) ?_
    walk_at "ok"
    refine ⟨fun q => ?_, fun q => ?_⟩
    · walk_at "ok"
      refine Ok.of (lcW_pure (w := fixW (chrs s)) (xs := chrs s) (P := fun _ => true) (F := fun x => match x with | .str ⟨a⟩ => .bl (a.toList.all bitB) | _ => .bl false) (lt := fun x => (wipeL [some (.str s), some (.int n), none] [2]).set 2 (some x)) rfl (fun _ => rfl) ?_ ?_) ?_
      · simp only [chrs, List.length_map, Array.length_toList]; have : s.cps.size = s.length := rfl; omega
      · intro x hx
        obtain ⟨k, hk, rfl⟩ := List.mem_map.mp hx
        refine ⟨rfl, rfl, fun _ => ?_⟩
        refine ok_eq ?_
        walk_at "ok"
        refine ⟨?_, rfl⟩
        show D.bl (decide (k ∈ ("01" : Str).cps.toList)) = D.bl ([k].all bitB)
        rw [in_dec]
        simp
      · walk_at "ok"
        have e : ((chrs s).filter fun _ => true).map (fun x => match x with | .str ⟨a⟩ => D.bl (a.toList.all bitB) | _ => .bl false) = s.cps.toList.map fun k => D.bl (bitB k) := by
          rw [filter_yes]
          unfold chrs
          rw [List.map_map]
          refine List.map_congr_left fun k _ => ?_
          simp [Function.comp]
        rw [e]
        refine Ok.of (all_bls bitB _ c) ?_
        simp only [rowB, q, Bool.true_and]
        exact ⟨trivial, trivial⟩
    · refine ⟨?_, rfl⟩
      simp only [rowB, q, Bool.false_and]
  · refine ⟨?_, rfl⟩
    have : ∀ s, d ≠ .str s := fun s e => by
      subst e
      cases ht
      cases q
    cases d <;> first | rfl | exact absurd rfl (this _)
def isRows (xs : List D) : Bool := decide (1 ≤ xs.length) && decide (xs.length ≤ 8) && (match xs with
  | .str s :: _ => decide (1 ≤ s.length) && decide (s.length ≤ 8) && xs.all (rowB s.length)
  | _ => false)

theorem is_sequence_eq {v : D} {c : Cs} {t : String} (h : tyD v c = some t) : gis_sequence [v] c = .ok (.bl (t == "list" || t == "tuple")) c := by
  refine ok_eq (Ok.fun rfl ?_)
  unfold cis_sequence
  walk_at "ok"
  refine Ok.of (isi_seq h) ?_
  exact ⟨rfl, rfl⟩
theorem SeqV.tt {v : D} {c : Cs} {xs : List D} (h : SeqV v c xs) : ∃ t, tyD v c = some t ∧ (t == "list" || t == "tuple") = true := by
  rcases h.ty with e | e
  · exact ⟨_, e, rfl⟩
  · exact ⟨_, e, rfl⟩
theorem are_rows_seq {v : D} {c : Cs} {xs : List D} (h : SeqV v c xs) : gare_rows [v, .int 8] c = .ok (.bl (isRows xs)) c := by
  have hz : sizeLine = 16777216 := sizeLine_eq
  obtain ⟨t, ht, htt⟩ := h.tt
  refine ok_eq (Ok.fun rfl ?_)
  unfold care_rows
  walk_at "ok"
  refine Ok.of (is_sequence_eq ht) ?_
  rw [htt]
  walk_at "ok"
  refine Ok.of (len_seq h.sq) ?_
  walk_at "ok"
  refine ⟨fun q1 => ?_, fun q1 => ?_⟩
  · have q1 := of_decide_eq_true q1
    walk_at "ok"
    refine ⟨fun q2 => ?_, fun q2 => ?_⟩
    · have q2 : ¬ ((xs.length : Int) ≤ 8) := by simpa using q2
      walk_at "ok"
      refine ⟨?_, rfl⟩
      have : decide (xs.length ≤ 8) = false := decide_eq_false (by omega)
      simp [isRows, this]
    · have q2 : (xs.length : Int) ≤ 8 := by simpa using q2
      cases xs with
      | nil => simp at q1
      | cons x r =>
        have hx := h.el x List.mem_cons_self
        obtain ⟨t2, ht2, hs2⟩ := hx.ex
        have i0 := item_seq (i := 0) h.sq rfl
        walk_at "ok"
        refine Ok.of i0 ?_
        walk_at "ok"
        refine Ok.of (isi_str ht2) ?_
        rw [isT_str (tyD_mem ht2)]
        by_cases hstr : t2 = "str"
        · obtain ⟨s, rfl, hsl⟩ := hs2 hstr
          subst hstr
          rw [show (("str" : String) == "str") = true from rfl]
          walk_at "ok"
          refine Ok.of i0 ?_
          walk_at "ok"
          refine ok_len_str (by omega) ?_
          walk_at "ok"
          have d1 : decide (1 ≤ (D.str s :: r).length) = true := by simp
          have d2 : decide ((D.str s :: r).length ≤ 8) = true := decide_eq_true (by omega)
          refine ⟨fun q3 => ?_, fun q3 => ?_⟩
          · have q3 := of_decide_eq_true q3
            walk_at "ok"
            refine ⟨fun q4 => ?_, fun q4 => ?_⟩
            · have q4 : ¬ ((s.length : Int) ≤ 8) := by simpa using q4
              walk_at "ok"
              refine ⟨?_, rfl⟩
              have e4 : decide (s.length ≤ 8) = false := decide_eq_false (by omega)
              simp [isRows, e4]
            · have q4 : (s.length : Int) ≤ 8 := by simpa using q4
              obtain ⟨w, hw1, hw2⟩ := wAny_seq h.sq
              walk_at "ok"
              refine Ok.of (lcW_pure (w := w) (xs := D.str s :: r) (P := fun _ => true) (F := fun y => .bl (rowB s.length y)) (lt := fun y => (wipeL [some v, some (.int 8), none] [2]).set 2 (some y)) hw1 hw2 (by have := h.ln; omega) (fun y hy => ⟨rfl, rfl, fun _ => ?_⟩)) ?_
              · refine ok_eq ?_
                walk_at "ok"
                refine Ok.of i0 ?_
                walk_at "ok"
                refine ok_len_str (by omega) ?_
                walk_at "ok"
                refine Ok.of (pattern_eq (h.el y hy)) ?_
                exact ⟨rfl, rfl⟩
              · rw [filter_yes]
                walk_at "ok"
                refine Ok.of (all_bls _ _ c) ?_
                refine ⟨?_, rfl⟩
                have e3 : decide (1 ≤ s.length) = true := decide_eq_true (by omega)
                have e4 : decide (s.length ≤ 8) = true := decide_eq_true (by omega)
                simp only [isRows, d1, d2, e3, e4, Bool.true_and]
          · have q3 := of_decide_eq_false q3
            walk_at "ok"
            refine ⟨?_, rfl⟩
            have e3 : decide (1 ≤ s.length) = false := decide_eq_false (by omega)
            simp [isRows, e3]
        · rw [show (t2 == "str") = false from beq_eq_false_iff_ne.mpr hstr]
          walk_at "ok"
          refine ⟨?_, rfl⟩
          have : ∀ s, x ≠ .str s := fun s e => by
            subst e
            cases ht2
            exact hstr rfl
          cases x <;> first | rfl | exact absurd rfl (this _) | (simp [isRows])
  · have q1 := of_decide_eq_false q1
    walk_at "ok"
    refine ⟨?_, rfl⟩
    have : decide (1 ≤ xs.length) = false := decide_eq_false (by omega)
    simp [isRows, this]

def flat (ys : List Str) : List Nat := (ys.map fun y => y.cps.toList).flatten
theorem len_cps (s : Str) : s.cps.toList.length = s.length := Array.length_toList
theorem isRows_mk {y0 : Str} {yr : List Str} (h1 : (y0 :: yr).length ≤ 8) (h2 : ∀ y ∈ y0 :: yr, y.length = y0.length ∧ y.cps.toList.all bitB = true) (h3 : 1 ≤ y0.length) (h4 : y0.length ≤ 8) : isRows ((y0 :: yr).map D.str) = true := by
  have e1 : decide (1 ≤ ((y0 :: yr).map D.str).length) = true := by simp
  have e2 : decide (((y0 :: yr).map D.str).length ≤ 8) = true := decide_eq_true (by rw [List.length_map]; exact h1)
  have e5 : ((y0 :: yr).map D.str).all (rowB y0.length) = true := by
    refine List.all_eq_true.mpr fun x hx => ?_
    obtain ⟨y, hy, rfl⟩ := List.mem_map.mp hx
    obtain ⟨a, b⟩ := h2 y hy
    show (decide ((y.length : Int) = y0.length) && y.cps.toList.all bitB) = true
    rw [b, decide_eq_true (by rw [a])]
    rfl
  show (decide (1 ≤ ((y0 :: yr).map D.str).length) && decide (((y0 :: yr).map D.str).length ≤ 8) && (decide (1 ≤ y0.length) && decide (y0.length ≤ 8) && ((y0 :: yr).map D.str).all (rowB y0.length))) = true
  rw [e1, e2, e5, decide_eq_true h3, decide_eq_true h4]
  rfl

theorem tyD_app {x : D} {c : Cs} {t : String} (h : tyD x c = some t) (y : Cs) : tyD x (c ++ y) = some t := by
  cases x with
  | ref k =>
    simp only [tyD] at h ⊢
    cases q : c[k]? with
    | none => rw [q] at h; cases h
    | some z =>
      rw [List.getElem?_append_left (List.getElem?_eq_some_iff.mp q).1, q]
      rw [q] at h
      exact h
  | _ => exact h
theorem SeqV.app {v : D} {c : Cs} {xs : List D} (h : SeqV v c xs) (y : Cs) : SeqV v (c ++ y) xs := by
  refine ⟨?_, h.ty.imp (tyD_app · y) (tyD_app · y), h.ln, fun x hx => ?_, h.nr⟩
  · have hq := h.sq
    cases v with
    | ref k =>
      simp only [seqOf] at hq ⊢
      cases q : c[k]? with
      | none => rw [q] at hq; cases hq
      | some z =>
        rw [List.getElem?_append_left (List.getElem?_eq_some_iff.mp q).1, q]
        rw [q] at hq
        exact hq
    | _ => exact hq
  · obtain ⟨t, ht, hs⟩ := (h.el x hx).ex
    exact ⟨t, tyD_app ht y, hs⟩
theorem init_ok {k : Nat} {v : D} {c : Cs} {xs : List D} (h : gare_rows [v, .int 8] c = .ok (.bl true) c) (hs : seqOf v c = some xs) (hk : c[k]? = some (.ins "Cloth" [])) : gCloth____init__ [.ref k, v] c = .ok .non (c.set k (.ins "Cloth" [("kept_rows", .lst xs)])) := by
  have e : listD [v] c = .ok (.lst xs) c := by simp [listD, on1, listP, hs]
  unfold gCloth____init__ mFun cCloth____init__
  generalize gare_rows = F at h ⊢
  simp [sSeq, sIf, tNotM, mT, mCB, aCons, aNil, mVar, mC, h, sNil, sFldM, e, fldS, hk, putFD]
theorem cell_last {c : Cs} (x : Cell) : (c ++ [x])[c.length]? = some x := by rw [List.getElem?_append_right (Nat.le_refl _), Nat.sub_self]; rfl
theorem set_last {c : Cs} (x y : Cell) : (c ++ [x]).set c.length y = c ++ [y] := by
  induction c with
  | nil => rfl
  | cons a c ih => simp [ih]
theorem make_ok {v : D} {c : Cs} {xs : List D} (h : SeqV v c xs) (hr : isRows xs = true) : mkR "Cloth" gCloth____init__ [v] c = .ok (.ref c.length) (c ++ [.ins "Cloth" [("kept_rows", .lst xs)]]) := by
  have h2 := h.app [.ins "Cloth" []]
  have e := init_ok (k := c.length) (by rw [are_rows_seq h2, hr]) h2.sq (cell_last _)
  unfold mkR
  rw [e, set_last]
  rfl

/-! ### the draws -/
theorem take_big (c : Cs) (k : Nat) (a b z many : Int) (hc : c[k]? = some (.lst [.int a, .int b, .int z])) (ha : 0 < a) (hm : 0 < many) (hm2 : many ≤ 1000000) :
    g_law_take [.ref k, .int many] c = .ok (.int (a.fmod many)) (c.set k (.lst [.int (a.fdiv many), .int b, .int z])) := by
  have h1 : many ≠ 0 := by omega
  have h2 : many.natAbs < 1073741824 := by omega
  simp [g_law_take, mFun, c_law_take, sSeq, sIf, mT, mOp, mVar, mC, itemD, hc, itL, atI, ixN, gtD, cmpI, ha, sSet, modI, divI, intC, CNz, CDivN, sRet, sAsg, gS, putD, h1, h2]
theorem take_hash (c : Cs) (k : Nat) (a b z many : Int) (hc : c[k]? = some (.lst [.int a, .int b, .int z])) (ha : ¬ 0 < a) (hm : 0 < many) (hm2 : many ≤ 1000000) (hb : 0 ≤ b) (hb2 : b < 2147483629) (hz : 0 ≤ z) (hz2 : z ≤ 1000000) :
    ∃ d : Int, 0 ≤ d ∧ d < many ∧ g_law_take [.ref k, .int many] c = .ok (.int d) (c.set k (.lst [.int a, .int b, .int (z + 1)])) := by
  have h1 : many ≠ 0 := by omega
  have hs : ∀ x, (c.set k x)[k]? = some x := fun x => by rw [List.getElem?_set_self (List.getElem?_eq_some_iff.mp hc).1]
  have h3 : (b + 7933 * (z + 1) + 313).natAbs < 18446744073709551616 := by omega
  refine ⟨(((((b + 7933 * (z + 1) + 313) ^ 5).fmod 2147483647 + 104729 * (z + 1)) ^ 3).fmod 2147483587).fdiv 16 |>.fmod many, Int.fmod_nonneg_of_pos _ hm, Int.fmod_lt_of_pos _ hm, ?_⟩
  have h5 : 0 ≤ ((b + 7933 * (z + 1) + 313) ^ 5).fmod 2147483647 := Int.fmod_nonneg_of_pos _ (by decide)
  have h6 : ((b + 7933 * (z + 1) + 313) ^ 5).fmod 2147483647 < 2147483647 := Int.fmod_lt_of_pos _ (by decide)
  generalize e : ((b + 7933 * (z + 1) + 313) ^ 5).fmod 2147483647 = y at h5 h6 ⊢
  have h4 : (y + 104729 * (z + 1)).natAbs < 18446744073709551616 := by omega
  simp [g_law_take, mFun, c_law_take, sSeq, sIf, mT, mOp, mVar, mC, itemD, hc, itL, atI, ixN, gtD, cmpI, ha, sSet, modI, divI, intC, CNz, CDivN, sRet, sAsg, gS, putD, h1, addD, mulI, powI, CMul, CPow, h3, h4, e, sNil, hs, -List.getElem?_set_self]
/-- a draw changes the box alone -/
theorem take_ok {c : Cs} {k : Nat} {n many : Int} {Q : D → Cs → Prop} (h : Bx c k n) (hn : n ≤ 1000000) (hm : 0 < many) (hm2 : many ≤ 1000000)
    (q : ∀ (i : Int) (c' : Cs), 0 ≤ i → i < many → Bx c' k (n + 1) → c'.length = c.length → (∀ j, j ≠ k → c'[j]? = c[j]?) → Q (.int i) c') : Ok (g_law_take [.ref k, .int many] c) Q := by
  obtain ⟨a, b, z, hc, ha, hb, hb2, hz, hz2⟩ := h
  have hk := (List.getElem?_eq_some_iff.mp hc).1
  have fin : ∀ x : Cell, (c.set k x).length = c.length ∧ ∀ j, j ≠ k → (c.set k x)[j]? = c[j]? := fun x => ⟨by simp, fun j hj => by rw [List.getElem?_set_ne (Ne.symm hj)]⟩
  by_cases h0 : 0 < a
  · exact ⟨_, _, take_big c k a b z many hc h0 hm hm2, q _ _ (Int.fmod_nonneg_of_pos _ hm) (Int.fmod_lt_of_pos _ hm) ⟨a.fdiv many, b, z, by rw [List.getElem?_set_self hk], by rw [Int.fdiv_eq_ediv_of_nonneg _ (Int.le_of_lt hm)]; exact Int.ediv_nonneg ha (Int.le_of_lt hm), hb, hb2, hz, by omega⟩ (fin _).1 (fin _).2⟩
  · obtain ⟨d, hd, hd2, e⟩ := take_hash c k a b z many hc h0 hm hm2 hb hb2 hz (by omega)
    exact ⟨_, _, e, q _ _ hd hd2 ⟨a, b, z + 1, by rw [List.getElem?_set_self hk], ha, hb, hb2, by omega, by omega⟩ (fin _).1 (fin _).2⟩
theorem bx_mono {c : Cs} {k : Nat} {n n' : Int} (h : Bx c k n) (hn : n ≤ n') : Bx c k n' := by
  obtain ⟨a, b, z, hc, ha, hb, hb2, hz, hz2⟩ := h
  exact ⟨a, b, z, hc, ha, hb, hb2, hz, by omega⟩
theorem cell_ok {ns : List Int} {i : Nat} {c : Cs} {Q : D → Cs → Prop} (hl : ns.length ≤ 63) (hi : i ≤ 1000) (q : ∀ v : Int, Q (.int v) c) : Ok (g_law_cell [.ro (ns.map D.int), .int i] c) Q := by
  refine Ok.fun rfl ?_
  refine os_ret (ok_if (ok_t (ok_op (ok_var rfl (ok_cb (ok_acons (ok_var rfl (ok_anil ⟨_, _, rfl, ⟨_, _, rfl, ⟨_, rfl, fun h => ?_, fun h => ?_⟩⟩⟩))))))))
  · refine ok_op (ok_var rfl (ok_var rfl ?_))
    have hi : i < ns.length := by simpa using h
    refine ⟨.int ns[i], c, ?_, q _⟩
    simp [itemD, itL, atI, ixN, hi]
  · refine ok_op (ok_op (ok_c (ok_var rfl ?_)))
    exact ok_intC (Or.inl ⟨by decide, by decide⟩) (ok_c ⟨_, _, rfl, q _⟩)
theorem box_ok {v : Int} {c : Cs} {Q : D → Cs → Prop} (q : ∀ c', Bx c' c.length 0 → c'.length = c.length + 1 → (∀ j, j ≠ c.length → c'[j]? = c[j]?) → Q (.ref c.length) c') : Ok (g_law_box [.int v] c) Q := by
  refine Ok.fun rfl ?_
  refine os_ret (ok_lstM (ok_acons (ok_cb (ok_acons (ok_c (ok_acons (ok_op (ok_var rfl (ok_op (ok_c (ok_c ?_)))) ) ) ) ) ) ) )
  refine ok_intC ⟨by decide, by decide, by decide⟩ ⟨_, _, rfl, ok_anil ⟨_, _, rfl, ok_acons (ok_op (ok_var rfl (ok_c (ok_intC (show (2147483629 : Int) ≠ 0 by decide) (ok_acons (ok_c (ok_anil ⟨Nat.le_of_ble_eq_true rfl, ?_⟩)))))))⟩⟩
  refine q _ ⟨_, _, _, by rw [List.getElem?_append_right (Nat.le_refl _), Nat.sub_self]; rfl, ?_, Int.fmod_nonneg_of_pos _ (by decide), Int.fmod_lt_of_pos _ (by decide), Int.le_refl _, Int.le_refl _⟩ (by simp) fun j hj => ?_
  · dsimp only
    split <;> omega
  · rcases Nat.lt_or_ge j c.length with h | h
    · rw [List.getElem?_append_left h]
    · rw [List.getElem?_eq_none (by simp; omega), List.getElem?_eq_none (by omega)]

def bitS (s : Str) : Prop := s.cps.toList.all bitB = true
def Rows (rs : List D) : Prop := ∃ y0 yr, rs = (y0 :: yr).map D.str ∧ (y0 :: yr).length ≤ 8 ∧ (∀ y ∈ y0 :: yr, y.length = y0.length ∧ bitS y) ∧ 1 ≤ y0.length ∧ y0.length ≤ 8
theorem Rows.is {rs : List D} (h : Rows rs) : isRows rs = true := by
  obtain ⟨y0, yr, rfl, h1, h2, h3, h4⟩ := h
  exact isRows_mk h1 h2 h3 h4
def FRB (d : D) : Bool := match toPyC 17 [] d with
  | some p => bP p && decide (wP p ≤ 20000) && decide (p.depth ≤ 10)
  | none => false
def top0 : D → Bool
  | .non => true
  | .bl _ => true
  | .int _ => true
  | .str _ => true
  | .tup _ => true
  | _ => false
def PV (v : D) (c : Cs) : Prop := (FRB v = true ∧ (top0 v = true ∨ ∃ xs, v = .lst xs ∧ Rows xs)) ∨ (∃ k xs, v = .ref k ∧ c[k]? = some (.lst xs) ∧ xs.length ≤ 100 ∧ ∀ x ∈ xs, FRB x = true) ∨
  ∃ k kvs, v = .ref k ∧ c[k]? = some (.dct kvs) ∧ (kvs = [] ∨ kvs = [(.inr "a", .int 1)])
theorem frb_of {d : D} (h : FRB d = true) : ∃ p, toPyC 17 [] d = some p ∧ bP p = true ∧ wP p ≤ 20000 ∧ p.depth ≤ 10 := by
  unfold FRB at h
  cases q : toPyC 17 [] d with
  | none => rw [q] at h; cases h
  | some p =>
    rw [q] at h
    simp only [Bool.and_eq_true, decide_eq_true_eq] at h
    exact ⟨p, rfl, h.1.1, h.1.2, h.2⟩
theorem PV.app {v : D} {c : Cs} (h : PV v c) (y : Cs) : PV v (c ++ y) := by
  rcases h with h | ⟨k, xs, rfl, hk, r⟩ | ⟨k, kvs, rfl, hk, r⟩
  · exact .inl h
  · exact .inr (.inl ⟨k, xs, rfl, by rw [List.getElem?_append_left (List.getElem?_eq_some_iff.mp hk).1]; exact hk, r⟩)
  · exact .inr (.inr ⟨k, kvs, rfl, by rw [List.getElem?_append_left (List.getElem?_eq_some_iff.mp hk).1]; exact hk, r⟩)
theorem PV.at {v : D} {c c' : Cs} (h : PV v c) (e : ∀ k, v = .ref k → c'[k]? = c[k]?) : PV v c' := by
  rcases h with h | ⟨k, xs, rfl, hk, r⟩ | ⟨k, kvs, rfl, hk, r⟩
  · exact .inl h
  · exact .inr (.inl ⟨k, xs, rfl, by rw [e k rfl]; exact hk, r⟩)
  · exact .inr (.inr ⟨k, kvs, rfl, by rw [e k rfl]; exact hk, r⟩)
theorem PV.lt {v : D} {c : Cs} (h : PV v c) : ∀ j, v = .ref j → j < c.length := fun j e => by
  rcases h with ⟨hf, _⟩ | ⟨k', xs, e', hk, _⟩ | ⟨k', kvs, e', hk, _⟩
  · subst e
    obtain ⟨p, hp, _⟩ := frb_of hf
    cases hp
  · rw [e] at e'; cases e'
    exact (List.getElem?_eq_some_iff.mp hk).1
  · rw [e] at e'; cases e'
    exact (List.getElem?_eq_some_iff.mp hk).1
theorem PV.keep {v : D} {c c' : Cs} {kb : Nat} (h : PV v c) (hv : v ≠ .ref kb) (f : ∀ j, j ≠ kb → j < c.length → c'[j]? = c[j]?) : PV v c' :=
  h.at fun k e => f k (fun ek => hv (by rw [e, ek])) (h.lt k e)
/-! ### values of threads.py -/
theorem ty_ref {k : Nat} {c : Cs} {t : String} (h : tyD (.ref k) c = some t) : t = "list" ∨ t = "dict" := by
  unfold tyD at h
  cases q : c[k]? with
  | none => simp only [q] at h; cases h
  | some x =>
    simp only [q] at h
    cases x with
    | lst xs => cases h; exact .inl rfl
    | dct xs => cases h; exact .inr rfl
    | frz d => cases d <;> first | (cases h; exact .inl rfl) | cases h
    | _ => cases h
def isInt (d : D) (lo hi : Int) : Bool := match d with
  | .int i => decide (lo ≤ i) && decide (i ≤ hi)
  | _ => false
theorem is_integer_eq {d : D} {lo hi : Int} {c : Cs} (h : (tyD d c).isSome = true) : gis_integer [d, .int lo, .int hi] c = .ok (.bl (isInt d lo hi)) c := by
  obtain ⟨t, ht⟩ := Option.isSome_iff_exists.mp h
  have hm := tyD_mem ht
  have e1 : isiD [d, .ty "int"] c = .ok (.bl (isT t "int")) c := by simp [isiD, ht, tyNames]
  have e2 : isiD [d, .ty "bool"] c = .ok (.bl (isT t "bool")) c := by simp [isiD, ht, tyNames]
  have non : isT t "int" = false → isInt d lo hi = false → gis_integer [d, .int lo, .int hi] c = .ok (.bl (isInt d lo hi)) c := fun h1 h2 => by
    rw [h2]
    simp [gis_integer, mFun, cis_integer, sRet, mAnd, mCB, aCons, aNil, mVar, mC, e1, h1]
  cases d with
  | int i =>
    cases ht
    by_cases h1 : lo ≤ i
    · by_cases h2 : i ≤ hi
      · simp [gis_integer, mFun, cis_integer, sRet, mAnd, mNot, mCB, aCons, aNil, mVar, mC, isiD, tyD, isT, tyNames, mChain, leD, isInt, h1, h2]
      · simp [gis_integer, mFun, cis_integer, sRet, mAnd, mNot, mCB, aCons, aNil, mVar, mC, isiD, tyD, isT, tyNames, mChain, leD, isInt, h1, h2]
    · simp [gis_integer, mFun, cis_integer, sRet, mAnd, mNot, mCB, aCons, aNil, mVar, mC, isiD, tyD, isT, tyNames, mChain, leD, isInt, h1]
  | bl b =>
    cases ht
    simp [gis_integer, mFun, cis_integer, sRet, mAnd, mNot, mCB, aCons, aNil, mVar, mC, isiD, tyD, isT, tyNames, isInt]
  | ref k => rcases ty_ref ht with rfl | rfl <;> exact non rfl rfl
  | obj => cases ht
  | adr => cases ht
  | ty => cases ht
  | gh => cases ht
  | _ => cases ht; exact non rfl rfl
/-- a value as the laws draw it -/
def Val (d : D) (c : Cs) : Prop := match d with
  | .tup xs => ∀ x ∈ xs, (tyD x c).isSome = true
  | .ref k => (∃ xs, c[k]? = some (.lst xs)) ∨ ∃ kvs, c[k]? = some (.dct kvs)
  | .ro _ => False
  | d => (tyD d c).isSome = true
def isThr (d : D) (w h : Int) : Bool := match d with
  | .tup [.str s, x] => if s = "warp" then isInt x 0 (w - 1) else if s = "weft" then isInt x 0 (h - 1) else false
  | _ => false
theorem in_kinds (s : Str) (c : Cs) : inX false (.str s) (.tup [.str "warp", .str "weft"]) c = .ok (.bl (decide (s = "warp") || decide (s = "weft"))) c := by
  have e : ∀ a s : Str, (a == s) = decide (s = a) := fun a s => by rw [Bool.eq_iff_iff, beq_iff_eq, decide_eq_true_iff]; exact ⟨Eq.symm, Eq.symm⟩
  simp [inX, inD, inL, flatD, eqF, sgn, e]
theorem in_kindsY (s : Str) (c : Cs) : inY false (.str s) (.tup [.str "warp", .str "weft"]) c = .ok (.bl (decide (s = "warp") || decide (s = "weft"))) c := by
  unfold inY
  rw [in_kinds]
theorem is_thread_eq {d : D} {w h : Int} {c : Cs} (hv : Val d c) : gis_thread [d, .int w, .int h] c = .ok (.bl (isThr d w h)) c := by
  cases d with
  | tup xs =>
    match xs, hv with
    | [], _ => simp [gis_thread, mFun, cis_thread, sSeq, sMatch2, mVar, pairOf, seqOf, sRet, mC, isThr]
    | [a], _ => simp [gis_thread, mFun, cis_thread, sSeq, sMatch2, mVar, pairOf, seqOf, sRet, mC, isThr]
    | [a, b], hv =>
      have ha : (tyD a c).isSome = true := hv a (by simp)
      have hb : (tyD b c).isSome = true := hv b (by simp)
      obtain ⟨t, ht⟩ := Option.isSome_iff_exists.mp ha
      by_cases hs : t = "str"
      · subst hs
        obtain ⟨s, rfl⟩ : ∃ s, a = .str s := by
          cases a with
          | str s => exact ⟨s, rfl⟩
          | ref k => rcases ty_ref ht with h | h <;> exact absurd h (by decide)
          | _ => simp [tyD] at ht
        by_cases h1 : s = "warp"
        · subst h1
          have e := is_integer_eq (lo := 0) (hi := w - 1) (c := c) hb
          unfold gis_thread mFun cis_thread
          generalize gis_integer = F at e ⊢
          simp [sSeq, sMatch2, mVar, pairOf, seqOf, sRet, mC, isThr, tAndM, mT, mCB, aCons, aNil, isiD, tyD, isT, tyNames, mOp, in_kindsY, subD, mIf, eqX, eqD, e]
        · by_cases h2 : s = "weft"
          · subst h2
            have e := is_integer_eq (lo := 0) (hi := h - 1) (c := c) hb
            unfold gis_thread mFun cis_thread
            generalize gis_integer = F at e ⊢
            simp [sSeq, sMatch2, mVar, pairOf, seqOf, sRet, mC, isThr, tAndM, mT, mCB, aCons, aNil, isiD, tyD, isT, tyNames, mOp, in_kindsY, subD, mIf, eqX, eqD, e, h1]
          · simp [gis_thread, mFun, cis_thread, sSeq, sMatch2, mVar, pairOf, seqOf, sRet, mC, isThr, tAndM, mT, mCB, aCons, aNil, isiD, tyD, isT, tyNames, mOp, in_kindsY, subD, mIf, eqX, eqD, h1, h2]
      · have e1 : isiD [a, .ty "str"] c = .ok (.bl false) c := by
          rw [isi_str ht, isT_str (tyD_mem ht), beq_eq_false_iff_ne.mpr hs]
        have e2 : isThr (.tup [a, b]) w h = false := by
          cases a with
          | str s => cases ht; exact absurd rfl hs
          | _ => rfl
        rw [e2]
        simp [gis_thread, mFun, cis_thread, sSeq, sMatch2, mVar, pairOf, seqOf, sRet, mC, tAndM, mT, mCB, aCons, aNil, isiD, tyD, isT, tyNames] at e1 ⊢
        simp [e1, sRet, mC]
    | a :: b :: e :: r, _ => simp [gis_thread, mFun, cis_thread, sSeq, sMatch2, mVar, pairOf, seqOf, sRet, mC, isThr]
  | lst xs =>
    match xs with
    | [] => simp [gis_thread, mFun, cis_thread, sSeq, sMatch2, mVar, pairOf, seqOf, sRet, mC, isThr]
    | [a] => simp [gis_thread, mFun, cis_thread, sSeq, sMatch2, mVar, pairOf, seqOf, sRet, mC, isThr]
    | [a, b] => simp [gis_thread, mFun, cis_thread, sSeq, sMatch2, mVar, pairOf, seqOf, sRet, mC, isThr, tAndM, mT, mCB, aCons, aNil, isiD, tyD, isT, tyNames]
    | a :: b :: e :: r => simp [gis_thread, mFun, cis_thread, sSeq, sMatch2, mVar, pairOf, seqOf, sRet, mC, isThr]
  | ref k =>
    rcases hv with ⟨xs, e⟩ | ⟨kvs, e⟩
    · match xs, e with
      | [], e => simp [gis_thread, mFun, cis_thread, sSeq, sMatch2, mVar, pairOf, seqOf, e, sRet, mC, isThr]
      | [a], e => simp [gis_thread, mFun, cis_thread, sSeq, sMatch2, mVar, pairOf, seqOf, e, sRet, mC, isThr]
      | [a, b], e => simp [gis_thread, mFun, cis_thread, sSeq, sMatch2, mVar, pairOf, seqOf, e, sRet, mC, tAndM, mT, mCB, aCons, aNil, isiD, tyD, isT, tyNames, isThr]
      | a :: b :: d :: r, e => simp [gis_thread, mFun, cis_thread, sSeq, sMatch2, mVar, pairOf, seqOf, e, sRet, mC, isThr]
    · simp [gis_thread, mFun, cis_thread, sSeq, sMatch2, mVar, pairOf, seqOf, e, tyD, notSeq, sRet, mC, isThr]
  | ro => cases hv
  | obj => cases hv
  | adr => cases hv
  | ty => cases hv
  | gh => cases hv
  | _ => simp [gis_thread, mFun, cis_thread, sSeq, sMatch2, mVar, pairOf, seqOf, tyD, notSeq, sRet, mC, isThr]
/-! ### cloths -/
structure RwS (ys : List Str) (w : Nat) : Prop where
  n1 : 1 ≤ ys.length
  n8 : ys.length ≤ 8
  w1 : 1 ≤ w
  w8 : w ≤ 8
  len : ∀ y ∈ ys, y.length = w
  bit : ∀ y ∈ ys, bitS y
theorem Rows.rws {rs : List D} (h : Rows rs) : ∃ ys w, rs = ys.map D.str ∧ RwS ys w := by
  obtain ⟨y0, yr, e, h1, h2, h3, h4⟩ := h
  exact ⟨y0 :: yr, y0.length, e, by simp, h1, h3, h4, fun y hy => (h2 y hy).1, fun y hy => (h2 y hy).2⟩
theorem RwS.rows {ys : List Str} {w : Nat} (h : RwS ys w) : Rows (ys.map D.str) := by
  cases ys with
  | nil => exact absurd h.n1 (by simp)
  | cons y0 yr =>
    have e := h.len y0 List.mem_cons_self
    exact ⟨y0, yr, rfl, h.n8, fun y hy => ⟨by rw [h.len y hy, e], h.bit y hy⟩, by rw [e]; exact h.w1, by rw [e]; exact h.w8⟩
theorem RwS.is {ys : List Str} {w : Nat} (h : RwS ys w) : isRows (ys.map D.str) = true := h.rows.is
theorem RwS.head {ys : List Str} {w : Nat} (h : RwS ys w) : ∃ y0 yr, ys = y0 :: yr ∧ y0.length = w := by
  cases ys with
  | nil => exact absurd h.n1 (by simp)
  | cons y0 yr => exact ⟨y0, yr, rfl, h.len y0 List.mem_cons_self⟩
def clD (ys : List Str) : List (Str × D) := [("kept_rows", .lst (ys.map D.str))]
def clo (ys : List Str) : D := .obj "Cloth" (clD ys)
def IsCl (x : D) (c : Cs) (ys : List Str) : Prop := insOf x c = some (("Cloth" : Str), clD ys)
theorem clo_is (ys : List Str) (c : Cs) : IsCl (clo ys) c ys := rfl
theorem IsCl.ext {x : D} {c c' : Cs} {ys : List Str} (h : IsCl x c ys) (p : Pfx c c') : IsCl x c' ys := by
  unfold IsCl at h ⊢
  cases x with
  | ref k =>
    unfold insOf at h ⊢
    cases q : c[k]? with
    | none => simp only [q] at h; cases h
    | some z => simp only [q] at h; simp only [p.get q]; exact h
  | _ => exact h
theorem lk_kept (ys : List Str) : (clD ys).lookup ("kept_rows" : Str) = some (D.lst (ys.map D.str)) := by
  simp [clD, List.lookup]
theorem ok_kept {o : ME} {l : Ls} {c : Cs} {Q : D → Cs → Prop} (h : Ok (o l c) fun x c1 => ∃ ys, IsCl x c1 ys ∧ Q (.lst (ys.map D.str)) c1) : Ok (mFld ["Cloth"] "kept_rows" o l c) Q :=
  ok_fld (h.mono fun x c1 ⟨ys, h1, q⟩ => ⟨_, _, h1, lk_kept ys, q⟩)
theorem lk_ne {ys : List Str} {mm : Str} (h : (mm == ("kept_rows" : Str)) = false) : (clD ys).lookup mm = none := by
  simp [clD, List.lookup, h]
theorem ok_clmeth {g : List D → Cs → R D} {mm : Str} {o : ME} {t : MA} {l : Ls} {c : Cs} {Q : D → Cs → Prop} (hm : (mm == ("kept_rows" : Str)) = false) (h : Ok (o l c) fun x c1 => (∃ ys, IsCl x c1 ys) ∧ Ok (t l c1) fun xs c2 => Ok (g (x :: xs) c2) Q) : Ok (mMeth [("Cloth", g)] mm o t l c) Q :=
  ok_meth (h.mono fun x c1 ⟨⟨ys, h1⟩, q⟩ => ⟨⟨_, h1, lk_ne hm⟩, q⟩)
theorem ok_clprop {g : List D → Cs → R D} {o : ME} {l : Ls} {c : Cs} {Q : D → Cs → Prop} (h : Ok (o l c) fun x c1 => (∃ ys, IsCl x c1 ys) ∧ Ok (g [x] c1) Q) : Ok (mProp [("Cloth", g)] o l c) Q :=
  ok_prop (h.mono fun x c1 ⟨⟨ys, h1⟩, q⟩ => ⟨⟨_, h1⟩, q⟩)
theorem weft_eq {x : D} {c : Cs} {ys : List Str} (h : IsCl x c ys) : gCloth__weft_count [x] c = .ok (.int ys.length) c := by
  refine Ok.eq (Ok.fun rfl ?_)
  unfold cCloth__weft_count
  refine os_ret (ok_cb (ok_acons (ok_kept (ok_var rfl ⟨ys, h, ok_anil (Ok.of (len_seq rfl) ?_)⟩))))
  rw [List.length_map]
  exact ⟨rfl, rfl⟩
theorem warp_eq {x : D} {c : Cs} {ys : List Str} {w : Nat} (h : IsCl x c ys) (hr : RwS ys w) : gCloth__warp_count [x] c = .ok (.int w) c := by
  have hz : sizeLine = 16777216 := sizeLine_eq
  obtain ⟨y0, yr, rfl, e0⟩ := hr.head
  have := hr.w8
  refine Ok.eq (Ok.fun rfl ?_)
  unfold cCloth__warp_count
  refine os_ret (ok_cb (ok_acons (ok_op (ok_kept (ok_var rfl ⟨_, h, ok_c (Ok.of (item_seq (i := 0) rfl rfl) (ok_anil (ok_len_str (by omega) ?_)))⟩)))))
  rw [e0]
  exact ⟨rfl, rfl⟩
theorem cl_make {v : D} {c : Cs} {ys : List Str} {w : Nat} (h : SeqV v c (ys.map D.str)) (hr : RwS ys w) : (mkR "Cloth" gCloth____init__ [v] c).bind (fun d c1 => frzI d c1) = .ok (clo ys) (c ++ [.frz (clo ys)]) := by
  rw [make_ok h hr.is]
  show (match (c ++ [Cell.ins "Cloth" [("kept_rows", D.lst (ys.map D.str))]])[c.length]? with
    | some (.ins n fs) => (.ok (.obj n fs) ((c ++ [Cell.ins "Cloth" [("kept_rows", D.lst (ys.map D.str))]]).set c.length (.frz (.obj n fs))) : Mi.R D)
    | _ => .stuck) = _
  rw [cell_last]
  show Mi.R.ok _ ((c ++ [_]).set c.length _) = _
  rw [set_last]
  rfl
theorem ok_clmake {t : MA} {l : Ls} {c : Cs} {Q : D → Cs → Prop} (h : Ok (t l c) fun xs c1 => ∃ v ys w, xs = [v] ∧ SeqV v c1 (ys.map D.str) ∧ RwS ys w ∧ Q (clo ys) (c1 ++ [.frz (clo ys)])) : Ok (mFrzI (mMake "Cloth" gCloth____init__ t) l c) Q := by
  obtain ⟨xs, c1, e, v, ys, w, rfl, hv, hr, q⟩ := h
  refine ⟨clo ys, c1 ++ [.frz (clo ys)], ?_, q⟩
  have := cl_make hv hr
  unfold mFrzI mMake
  rw [e]
  exact this
theorem str_seq {ys : List Str} {v : D} {c : Cs} (hs : seqOf v c = some (ys.map D.str)) (ht : tyD v c = some "list" ∨ tyD v c = some "tuple") (hr : ∀ zs, v ≠ .ro zs) (hl : ys.length ≤ 10000) (h : ∀ y ∈ ys, y.length ≤ 5000) : SeqV v c (ys.map D.str) :=
  ⟨hs, ht, by rw [List.length_map]; exact hl, fun x hx => by
    obtain ⟨y, hy, rfl⟩ := List.mem_map.mp hx
    exact ⟨"str", rfl, fun _ => ⟨y, rfl, h y hy⟩⟩, hr⟩
theorem RwS.seqL {ys : List Str} {w : Nat} (h : RwS ys w) (c : Cs) : SeqV (.lst (ys.map D.str)) c (ys.map D.str) := str_seq rfl (.inl rfl) nofun (by have := h.n8; omega) fun y hy => by rw [h.len y hy]; have := h.w8; omega
theorem RwS.seqT {ys : List Str} {w : Nat} (h : RwS ys w) (c : Cs) : SeqV (.tup (ys.map D.str)) c (ys.map D.str) := str_seq rfl (.inr rfl) nofun (by have := h.n8; omega) fun y hy => by rw [h.len y hy]; have := h.w8; omega
/-! ### slices -/
def cutL {α : Type} (xs : List α) (lo hi : Option Int) : List α := (xs.drop (HT.sIx xs.length 0 lo)).take (HT.sIx xs.length xs.length hi - HT.sIx xs.length 0 lo)
theorem sIx_pos {n d : Nat} {i : Int} (h : 0 ≤ i) : HT.sIx n d (some i) = min i.toNat n := by
  have := HT.sIx_nat n d i.toNat
  rw [Int.toNat_of_nonneg h] at this
  exact this
theorem cutL_to {α : Type} (xs : List α) {i : Int} (h : 0 ≤ i) : cutL xs none (some i) = xs.take i.toNat := by
  unfold cutL
  rw [sIx_pos h, HT.sIx_none, List.drop_zero, Nat.sub_zero]
  rcases Nat.le_total i.toNat xs.length with q | q
  · rw [Nat.min_eq_left q]
  · rw [Nat.min_eq_right q, List.take_of_length_le q, List.take_of_length_le (Nat.le_refl _)]
theorem cutL_from {α : Type} (xs : List α) {i : Int} (h : 0 ≤ i) : cutL xs (some i) none = xs.drop i.toNat := by
  unfold cutL
  rw [sIx_pos h, HT.sIx_none]
  rcases Nat.le_total i.toNat xs.length with q | q
  · rw [Nat.min_eq_left q, List.take_of_length_le (by simp)]
  · rw [Nat.min_eq_right q, List.drop_of_length_le q, List.drop_of_length_le (Nat.le_refl _)]
    simp
theorem cutL_mem {α : Type} {xs : List α} {a b : Option Int} : ∀ x ∈ cutL xs a b, x ∈ xs := fun x hx => List.mem_of_mem_drop (List.mem_of_mem_take hx)
theorem cutS_list (s : Str) (a b : Option Int) : (cutS s a b).cps.toList = cutL s.cps.toList a b := by
  have e : s.cps.toList.length = s.length := Array.length_toList
  unfold cutS cutL
  rw [List.toList_toArray, e]
theorem bitS_cut {s : Str} (h : bitS s) (a b : Option Int) : bitS (cutS s a b) := by
  unfold bitS at h ⊢
  rw [cutS_list]
  exact List.all_eq_true.mpr fun k hk => List.all_eq_true.mp h k (cutL_mem k hk)
theorem app_list (s t : Str) : (s ++ t).cps.toList = s.cps.toList ++ t.cps.toList := Array.toList_append
theorem bitS_app {s t : Str} (h : bitS s) (g : bitS t) : bitS (s ++ t) := by
  unfold bitS at h g ⊢
  rw [app_list, List.all_append, h, g]
  rfl
theorem int_bit {k : Nat} (h : bitB k = true) (c : Cs) : intFD [.str ⟨#[k]⟩] c = .ok (.int (if k = 49 then 1 else 0)) c := by
  have hk : k = 48 ∨ k = 49 := by simpa [bitB] using h
  rcases hk with rfl | rfl <;> first | rfl | kernel_rfl
theorem bit_one {k : Nat} (h : bitB k = true) : bitS ⟨#[k]⟩ := by
  show [k].all bitB = true
  simp [h]
/-- the box may change, else the cells only grow -/
def Gr (kb : Nat) (c c' : Cs) : Prop := c.length ≤ c'.length ∧ ∀ j, j ≠ kb → j < c.length → c'[j]? = c[j]?
theorem Gr.refl (kb : Nat) (c : Cs) : Gr kb c c := ⟨Nat.le_refl _, fun _ _ _ => rfl⟩
theorem Gr.trans {kb : Nat} {a b c : Cs} (h : Gr kb a b) (g : Gr kb b c) : Gr kb a c := ⟨Nat.le_trans h.1 g.1, fun j hj hl => by rw [g.2 j hj (Nat.lt_of_lt_of_le hl h.1), h.2 j hj hl]⟩
theorem Gr.of {kb : Nat} {a b : Cs} (h : Pfx a b) : Gr kb a b := ⟨h.len, fun _ _ hl => h.at hl⟩
theorem Gr.app {kb : Nat} {a b : Cs} (h : Gr kb a b) (x : Cs) : Gr kb a (b ++ x) := h.trans (.of (Pfx.one b x))
theorem Gr.get {kb : Nat} {c c' : Cs} {k : Nat} {x : Cell} (h : Gr kb c c') (hk : k ≠ kb) (e : c[k]? = some x) : c'[k]? = some x := by
  rw [h.2 k hk (List.getElem?_eq_some_iff.mp e).1]
  exact e
theorem Gr.set {kb : Nat} {a b : Cs} (h : Gr kb a b) {k : Nat} (hk : a.length ≤ k) (x : Cell) : Gr kb a (b.set k x) := ⟨by rw [List.length_set]; exact h.1, fun j hj hl => by rw [List.getElem?_set_ne (by omega)]; exact h.2 j hj hl⟩
theorem Gr.take {kb : Nat} {c c' : Cs} (hl : c'.length = c.length) (f : ∀ j, j ≠ kb → c'[j]? = c[j]?) : Gr kb c c' := ⟨by omega, fun j hj _ => f j hj⟩
/-- a draw -/
theorem take_gr {c : Cs} {k : Nat} {n many : Int} {Q : D → Cs → Prop} (h : Bx c k n) (hn : n ≤ 1000000) (hm : 0 < many) (hm2 : many ≤ 1000000)
    (q : ∀ (i : Int) (c' : Cs), 0 ≤ i → i < many → Bx c' k (n + 1) → Gr k c c' → c'.length = c.length → Q (.int i) c') : Ok (g_law_take [.ref k, .int many] c) Q :=
  take_ok h hn hm hm2 fun i c' h0 h1 b l f => q i c' h0 h1 b (.take l f) l

/-! ### turning, in plain lists -/
def tR (j : Nat) (r : List Nat) (ps : List (Nat × Nat)) : List Nat := r.mapIdx fun i k => if (i, j) ∈ ps then exch k else k
theorem tR_len (j : Nat) (r : List Nat) (ps : List (Nat × Nat)) : (tR j r ps).length = r.length := by simp [tR]
def chD (ks : List Nat) : List D := ks.map fun k => D.str ⟨#[k]⟩
def mkS (ks : List Nat) : Str := ⟨ks.toArray⟩
theorem mkS_cps (ks : List Nat) : (mkS ks).cps.toList = ks := by simp [mkS]
theorem mkS_of (s : Str) : mkS s.cps.toList = s := by simp [mkS]
theorem exch_bit {k : Nat} (h : bitB k = true) : bitB (exch k) = true ∧ exch k = if k = 49 then 48 else 49 := by
  have : k = 48 ∨ k = 49 := by simpa [bitB] using h
  rcases this with rfl | rfl <;> decide
theorem tR_bits {j : Nat} {r : List Nat} {ps : List (Nat × Nat)} (h : r.all bitB = true) : (tR j r ps).all bitB = true := by
  refine List.all_eq_true.mpr fun k hk => ?_
  obtain ⟨i, hi, e⟩ := List.mem_mapIdx.mp hk
  have hb := List.all_eq_true.mp h r[i] (List.getElem_mem hi)
  rw [← e]
  split
  · exact (exch_bit hb).1
  · exact hb
/-- the rows, turned -/
def tS (ys : List Str) (ps : List (Nat × Nat)) : List Str := ys.mapIdx fun j y => mkS (tR j y.cps.toList ps)
theorem tS_len (ys : List Str) (ps : List (Nat × Nat)) : (tS ys ps).length = ys.length := by simp [tS]
theorem RwS.turn {ys : List Str} {w : Nat} (h : RwS ys w) (ps : List (Nat × Nat)) : RwS (tS ys ps) w := by
  have hm : ∀ z ∈ tS ys ps, ∃ j, ∃ y ∈ ys, z = mkS (tR j y.cps.toList ps) := fun z hz => by
    obtain ⟨j, hj, e⟩ := List.mem_mapIdx.mp hz
    exact ⟨j, ys[j], List.getElem_mem hj, e.symm⟩
  refine ⟨by rw [tS_len]; exact h.n1, by rw [tS_len]; exact h.n8, h.w1, h.w8, fun z hz => ?_, fun z hz => ?_⟩
  · obtain ⟨j, y, hy, rfl⟩ := hm z hz
    rw [← len_cps, mkS_cps, tR_len, len_cps]
    exact h.len y hy
  · obtain ⟨j, y, hy, rfl⟩ := hm z hz
    unfold bitS
    rw [mkS_cps]
    exact tR_bits (h.bit y hy)
/-! ### crossings -/
def crD (p : Nat × Nat) : D := .tup [.int p.1, .int p.2]
def crOf (w h : Nat) (x : D) : Option (Nat × Nat) := match x with
  | .tup [.int i, .int j] => if 0 ≤ i ∧ i < w ∧ 0 ≤ j ∧ j < h then some (i.toNat, j.toNat) else none
  | _ => none
theorem mapO_map {α : Type} {f : D → Option PyData} {e : α → D} {g : α → PyData} (h : ∀ a, f (e a) = some (g a)) : ∀ xs : List α, mapO f (xs.map e) = some (xs.map g)
  | [] => rfl
  | x :: xs => by
    rw [List.map_cons, List.map_cons]
    unfold mapO
    rw [h, mapO_map h xs]
theorem join_chD (ks : List Nat) (hl : ks.length ≤ 1000) (c : Cs) : joinX (.str "") (.lst (chD ks)) c = .ok (.str (mkS ks)) c := by
  show joinL "" _ c = _
  unfold joinL chD
  rw [strs_ones]
  have e1 : ∀ ks : List Nat, ((ks.map fun k => (⟨#[k]⟩ : Str)).map (·.length)).sum = ks.length := fun ks => by
    induction ks with
    | nil => rfl
    | cons k ks ih =>
      simp only [List.map_cons, List.sum_cons, List.length_cons, ih]
      have : Str.length ⟨#[k]⟩ = 1 := rfl
      omega
  have e0' : ("" : Str).length = 0 := rfl
  refine (if_pos (by rw [e0', e1]; omega)).trans ?_
  rw [join_ones']
  rfl
theorem item_str_at {y : Str} {i : Nat} {c : Cs} (hz : y.length ≤ 100) (hi : i < y.cps.toList.length) : itemD (.str y) (.int (i : Nat)) c = .ok (.str ⟨#[y.cps.toList.getD i 0]⟩) c := by
  have hsz : sizeLine = 16777216 := sizeLine_eq
  show fits y.length _ = _
  unfold fits
  rw [if_pos (by omega), atI_nat (List.getElem?_eq_getElem hi), List.getD_eq_getElem?_getD, List.getElem?_eq_getElem hi]
  rfl
theorem isInt_non {a : D} {lo hi : Int} (h : ∀ i, a ≠ .int i) : isInt a lo hi = false := by
  cases a <;> first | rfl | exact absurd rfl (h _)
theorem crOf_two (a b : D) (w h : Nat) : (crOf w h (.tup [a, b])).isSome = (isInt a 0 (w - 1) && isInt b 0 (h - 1)) := by
  by_cases ha : ∃ i, a = .int i
  · obtain ⟨i, rfl⟩ := ha
    by_cases hb : ∃ j, b = .int j
    · obtain ⟨j, rfl⟩ := hb
      show (if 0 ≤ i ∧ i < (w : Int) ∧ 0 ≤ j ∧ j < (h : Int) then some (i.toNat, j.toNat) else none).isSome = ((decide (0 ≤ i) && decide (i ≤ (w : Int) - 1)) && (decide (0 ≤ j) && decide (j ≤ (h : Int) - 1)))
      split
      · rename_i hc
        obtain ⟨h1, h2, h3, h4⟩ := hc
        rw [decide_eq_true h1, decide_eq_true (show i ≤ (w : Int) - 1 by omega), decide_eq_true h3, decide_eq_true (show j ≤ (h : Int) - 1 by omega)]
        rfl
      · rename_i hc
        symm
        simp only [Option.isSome_none, Bool.and_eq_false_iff, decide_eq_false_iff_not]
        omega
    · have hb2 : ∀ j, b ≠ .int j := fun j e => hb ⟨j, e⟩
      rw [isInt_non (a := b) hb2, Bool.and_false]
      cases b <;> first | rfl | exact absurd rfl (hb2 _)
  · have ha2 : ∀ i, a ≠ .int i := fun i e => ha ⟨i, e⟩
    rw [isInt_non (a := a) ha2, Bool.false_and]
    cases a <;> first | rfl | exact absurd rfl (ha2 _)

theorem isi_tup {x : D} {c : Cs} {t : String} (h : tyD x c = some t) : isiD [x, .ty "tuple"] c = .ok (.bl (isT t "tuple")) c := by simp [isiD, h, tyNames]
def isTup (x : D) : Bool := match x with | .tup _ => true | _ => false
theorem isT_tup {x : D} {c : Cs} {t : String} (h : tyD x c = some t) : isT t "tuple" = isTup x := by
  cases x with
  | ref k =>
    rcases ty_ref h with rfl | rfl
    · exact (by decide : isT "list" "tuple" = false)
    · exact (by decide : isT "dict" "tuple" = false)
  | obj => cases h
  | adr => cases h
  | ty => cases h
  | gh => cases h
  | non => cases h; exact (by decide : isT "NoneType" "tuple" = false)
  | bl _ => cases h; exact (by decide : isT "bool" "tuple" = false)
  | int _ => cases h; exact (by decide : isT "int" "tuple" = false)
  | str _ => cases h; exact (by decide : isT "str" "tuple" = false)
  | lst _ => cases h; exact (by decide : isT "list" "tuple" = false)
  | ro _ => cases h; exact (by decide : isT "list" "tuple" = false)
  | dct _ => cases h; exact (by decide : isT "dict" "tuple" = false)
  | tup _ => cases h; exact (by decide : isT "tuple" "tuple" = true)

/-! ### threads -/
abbrev Th := Bool × Nat
def kdS (b : Bool) : Str := if b = true then "weft" else "warp"
def thD (t : Th) : D := .tup [.str (kdS t.1), .int t.2]
def thOf (w h : Nat) (x : D) : Option Th := match x with
  | .tup [.str s, .int i] => if s = "warp" ∧ 0 ≤ i ∧ i < w then some (false, i.toNat) else if s = "weft" ∧ 0 ≤ i ∧ i < h then some (true, i.toNat) else none
  | _ => none
def inB2 (w h : Nat) (t : Th) : Prop := t.2 < (if t.1 = true then h else w)
theorem ww : ¬ (("weft" : Str) = "warp") := by decide +kernel
theorem thOf_th {w h : Nat} {t : Th} (ht : inB2 w h t) : thOf w h (thD t) = some t := by
  obtain ⟨b, n⟩ := t
  unfold thOf thD kdS
  unfold inB2 at ht
  cases b with
  | false =>
    simp only [Bool.false_eq_true, if_false] at ht ⊢
    rw [if_pos ⟨trivial, by omega, by omega⟩, Int.toNat_natCast]
  | true =>
    simp only [if_true] at ht ⊢
    rw [if_neg (fun e => ww e.1), if_pos ⟨trivial, by omega, by omega⟩, Int.toNat_natCast]
theorem isThr_of (w h : Nat) (x : D) : isThr x w h = (thOf w h x).isSome := by
  unfold isThr thOf
  split
  · rename_i s y
    by_cases hi : ∃ i, y = .int i
    · obtain ⟨i, rfl⟩ := hi
      by_cases h1 : s = "warp"
      · subst h1
        simp only [if_true, true_and]
        have h2 : ¬ (("warp" : Str) = "weft") := by decide +kernel
        simp only [h2, false_and, if_false]
        by_cases hc : 0 ≤ i ∧ i < (w : Int)
        · rw [if_pos hc]
          simp [isInt]; omega
        · rw [if_neg hc]
          simp [isInt]; omega
      · simp only [h1, false_and, if_false]
        by_cases h2 : s = "weft"
        · subst h2
          simp only [if_true, true_and]
          by_cases hc : 0 ≤ i ∧ i < (h : Int)
          · rw [if_pos hc]
            simp [isInt]; omega
          · rw [if_neg hc]
            simp [isInt]; omega
        · simp [h2]
    · have hn : ∀ lo hi2, isInt y lo hi2 = false := fun lo hi2 => by
        cases y <;> first | rfl | exact absurd ⟨_, rfl⟩ hi
      rw [hn, hn]
      have e : ∀ (f : Int → Option Th), (match (D.tup [.str s, y] : D) with | .tup [.str _, .int i] => f i | _ => none) = none := fun f => by
        cases y <;> first | rfl | exact absurd ⟨_, rfl⟩ hi
      cases y <;> first | (simp; done) | exact absurd ⟨_, rfl⟩ hi
  · rename_i hx
    split
    · exact absurd rfl (hx _ _)
    · rfl
def thP (t : Th) : PyData := .tuple [.str (kdS t.1), .int t.2]
theorem kd_inj : ∀ {a b : Bool}, kdS a = kdS b → a = b := by
  have : ¬ (kdS false = kdS true) := by decide +kernel
  intro a b h
  cases a <;> cases b <;> first | rfl | exact absurd h this | exact absurd h.symm this
theorem thP_eqv (p q : Th) : PyData.eqv (thP p) (thP q) = decide (p = q) := by
  obtain ⟨a, n⟩ := p
  obtain ⟨b, m⟩ := q
  have e : PyData.eqv (thP (a, n)) (thP (b, m)) = ((kdS a == kdS b) && (((n : Int) == (m : Int)) && true)) := by simp only [thP, PyData.eqv, PyData.eqvAll]
  rw [e, Bool.eq_iff_iff]
  simp only [Bool.and_true, Bool.and_eq_true, beq_iff_eq, decide_eq_true_eq, Prod.mk.injEq]
  constructor
  · rintro ⟨h1, h2⟩
    exact ⟨kd_inj h1, by omega⟩
  · rintro ⟨rfl, rfl⟩
    exact ⟨rfl, rfl⟩
theorem thP_any (ps : List Th) (p : Th) : ((ps.map thP).any fun z => PyData.eqv z (thP p)) = decide (p ∈ ps) := by
  induction ps with
  | nil => rfl
  | cons q ps ih =>
    rw [List.map_cons, List.any_cons, ih, thP_eqv]
    by_cases h : q = p
    · subst h; simp
    · have h2 : ¬ p = q := fun e => h e.symm
      simp [h, h2]
theorem thP_lay1 (p : Th) : (thP p).canLay0 = true := by
  obtain ⟨a, n⟩ := p
  cases a <;> first | rfl | (simp [thP, PyData.canLay0, PyData.canLayAll0]; decide +kernel) | (show ((PyData.str _).canLay0 && (PyData.canLayAll0 [PyData.int n])) = true; rw [show (PyData.canLayAll0 [PyData.int n]) = true from rfl]; decide +kernel)
theorem thP_lay : ∀ ps : List Th, PyData.canLayAll0 (ps.map thP) = true
  | [] => rfl
  | p :: ps => by
    rw [List.map_cons]
    show ((thP p).canLay0 && PyData.canLayAll0 (ps.map thP)) = true
    rw [thP_lay ps, thP_lay1]
    rfl
theorem thP_ok (ps : List Th) (p : Th) : inOk (thP p) (ps.map thP) = true := by
  show (PyData.canLayAll0 (ps.map thP) && (thP p).canLay0 && decide ((thP p).depth ≤ 60)) = true
  rw [thP_lay, thP_lay1]
  rfl
/-- a thread in a list or tuple of threads -/
theorem in_th {neg : Bool} {p : Th} {v : D} {c : Cs} {ps : List Th} (hs : seqOf v c = some (ps.map thD)) (hr : ∀ xs, v ≠ .ro xs) : inY neg (thD p) v c = .ok (.bl (sgn neg (decide (p ∈ ps)))) c := by
  have hm : mapO (toPyC 29 c) (ps.map thD) = some (ps.map thP) := mapO_map (fun p => rfl) ps
  have e1 : inX neg (thD p) v c = .stuck := by
    cases v with
    | lst xs => rfl
    | tup xs => rfl
    | ro xs => exact absurd rfl (hr xs)
    | ref k =>
      show (match lstOf (.ref k) c with
        | some xs => inL neg (thD p) xs c
        | none => .stuck) = _
      cases lstOf (.ref k) c <;> rfl
    | _ => cases hs
  have e2 : ∃ b, toPyC 30 c v = some b ∧ seqP b = some (ps.map thP) := by
    cases v with
    | lst xs => cases hs; exact ⟨_, by show (mapO (toPyC 29 c) _).map PyData.list = _; rw [hm]; rfl, rfl⟩
    | tup xs => cases hs; exact ⟨_, by show (mapO (toPyC 29 c) _).map PyData.tuple = _; rw [hm]; rfl, rfl⟩
    | ro xs => exact absurd rfl (hr xs)
    | ref k =>
      have hs : (match c[k]? with
        | some (.lst xs) => some xs
        | _ => none) = some (ps.map thD) := hs
      cases q : c[k]? with
      | none => rw [q] at hs; cases hs
      | some y =>
        rw [q] at hs
        cases y with
        | lst zs =>
          cases hs
          exact ⟨_, by rw [toPyC_lst q, hm]; rfl, rfl⟩
        | _ => cases hs
    | _ => cases hs
  obtain ⟨b, e2, e3⟩ := e2
  unfold inY
  rw [e1]
  show inQ neg (thD p) v c = _
  unfold inQ
  rw [show toPyC 30 c (thD p) = some (thP p) from rfl, e2]
  simp only [e3]
  rw [if_pos (thP_ok ps p), thP_any]

def ItQ (x : D) (c : Cs) : Prop := (tyD x c).isSome = true ∧ ∀ ys, x = .tup ys → ∀ y ∈ ys, (tyD y c).isSome = true
theorem is_crossing_eq {x : D} {c : Cs} {w h : Nat} (hx : ItQ x c) : gis_crossing [x, .int w, .int h] c = .ok (.bl (crOf w h x).isSome) c := by
  have hz : sizeLine = 16777216 := sizeLine_eq
  obtain ⟨t, ht⟩ := Option.isSome_iff_exists.mp hx.1
  have e0 := isi_tup ht
  rw [isT_tup ht] at e0
  refine ok_eq (Ok.fun rfl ?_)
  unfold cis_crossing
  refine os_seq (os_if (ok_tor (ok_tnot (ok_t (ok_cb (ok_acons (ok_var rfl (ok_acons (ok_c (ok_anil (Ok.of e0 ⟨_, rfl, ?_⟩)))))))))))
  by_cases hxt : ∃ ys, x = .tup ys
  · obtain ⟨ys, rfl⟩ := hxt
    refine ⟨fun h => Bool.noConfusion h, fun _ => ?_⟩
    refine ok_t (ok_op (ok_cb (ok_acons (ok_var rfl (ok_anil (Ok.of (len_seq rfl) (ok_c ⟨_, _, rfl, _, rfl, fun h => ?_, fun h => os_nil ?_⟩)))))))
    · have h : (!decide ((ys.length : Int) = 2)) = true := h
      refine os_ret (ok_c ⟨?_, rfl⟩)
      match ys, h with
      | [], _ => rfl
      | [a], _ => cases a <;> rfl
      | [a, b], h => simp at h
      | a :: b :: d :: r, _ => cases a <;> (cases b <;> rfl)
    · have h : (!decide ((ys.length : Int) = 2)) = false := h
      match ys, h, hx with
      | [], h, _ => simp at h
      | [a], h, _ => simp at h
      | a :: b :: d :: r, h, _ => simp at h; omega
      | [a, b], _, hx =>
        have ta := hx.2 _ rfl a (by simp)
        have tb := hx.2 _ rfl b (by simp)
        rw [crOf_two]
        refine os_ret (ok_and (ok_cb (ok_acons (ok_op (ok_var rfl (ok_c (Ok.of (show itemD (.tup [a, b]) (.int 0) c = .ok a c from rfl) (ok_acons (ok_c (ok_acons (ok_op (ok_var rfl (ok_c ⟨_, _, rfl, ok_anil (Ok.of (is_integer_eq ta) ⟨_, rfl, fun h => ?_, fun h => ?_⟩)⟩)))))))))))))
        · refine ok_cb (ok_acons (ok_op (ok_var rfl (ok_c (Ok.of (show itemD (.tup [a, b]) (.int 1) c = .ok b c from rfl) (ok_acons (ok_c (ok_acons (ok_op (ok_var rfl (ok_c ⟨_, _, rfl, ok_anil (Ok.of (is_integer_eq tb) ⟨?_, rfl⟩)⟩)))))))))))
          rw [h]; rfl
        · refine ⟨?_, rfl⟩
          rw [h]; rfl
  · have hf : isTup x = false := by
      cases x <;> first | rfl | exact absurd ⟨_, rfl⟩ hxt
    rw [hf]
    refine ⟨fun _ => ⟨fun _ => os_ret (ok_c ⟨?_, rfl⟩), fun h => Bool.noConfusion h⟩, fun h => Bool.noConfusion h⟩
    cases x <;> first | rfl | exact absurd ⟨_, rfl⟩ hxt

/-! ### threads and who lies over whom -/
def thL (w g : Nat) : List Th := (List.range w).map (fun i => (false, i)) ++ (List.range g).map fun i => (true, i)
theorem thL_mem {w g : Nat} {t : Th} : t ∈ thL w g ↔ inB2 w g t := by
  obtain ⟨b, n⟩ := t
  unfold thL inB2
  cases b <;> simp
theorem thL_len (w g : Nat) : (thL w g).length = w + g := by simp [thL]
theorem threads_eq {c : Cs} {ys : List Str} {w : Nat} (hr : RwS ys w) : gCloth__threads [clo ys] c = .ok (.lst ((thL w ys.length).map thD)) c := by
  have hz : sizeLine = 16777216 := sizeLine_eq
  have n8 := hr.n8
  have w8 := hr.w8
  refine ok_eq (Ok.fun rfl ?_)
  unfold cCloth__threads
  have bd : ∀ (b : Bool) (i : Nat) (l : Ls), 3 ≤ l.length → Ok (gN 2 (.int (i : Nat)) (wipeL l [2]) c) fun l1 c1 => c1 = c ∧ Ok (mTup (aCons (mC (.str (kdS b))) (aCons (mVar 2) (aNil))) l1 c) fun d c3 => d = thD (b, i) ∧ c3 = c := fun b i l hl => by
    refine ok_gn ⟨rfl, ok_tup (ok_acons (ok_c (ok_acons (ok_var ?_ (ok_anil ⟨Nat.le_of_ble_eq_true rfl, rfl, rfl⟩)))))⟩
    rw [List.getElem?_set_self (by simp [wipeL]; omega)]
  refine os_seq (os_set (ok_lcR w (fun i => thD (false, i)) (by omega) ?_ (fun i hi => bd false i _ (by simp)) ?_))
  · exact ok_acons (ok_clprop (ok_var rfl ⟨⟨ys, clo_is ys _⟩, Ok.of (warp_eq (clo_is ys _) hr) (ok_anil ⟨rfl, rfl⟩)⟩))
  refine os_ret (ok_lst (ok_star (ok_var rfl ⟨_, rfl, ok_star (ok_lcR ys.length (fun i => thD (true, i)) (by omega) ?_ (fun i hi => bd true i _ (by simp)) ⟨_, rfl, ?_⟩)⟩)))
  · exact ok_acons (ok_clprop (ok_var rfl ⟨⟨ys, clo_is ys _⟩, Ok.of (weft_eq (clo_is ys _)) (ok_anil ⟨rfl, rfl⟩)⟩))
  refine ok_anil ⟨by simp; omega, ?_, rfl⟩
  unfold thL
  rw [List.map_append, List.map_map, List.map_map, List.append_nil]
  rfl
theorem thD_val (t : Th) (c : Cs) : Val (thD t) c := fun x hx => by
  simp only [List.mem_cons, List.not_mem_nil, or_false] at hx
  rcases hx with rfl | rfl <;> rfl
theorem contains_eq {c : Cs} {ys : List Str} {w : Nat} {x : D} (hr : RwS ys w) (hx : Val x c) : gCloth____contains__ [clo ys, x] c = .ok (.bl (thOf w ys.length x).isSome) c := by
  refine ok_eq (Ok.fun rfl ?_)
  unfold cCloth____contains__
  refine os_ret (ok_cb (ok_acons (ok_var rfl (ok_acons (ok_clprop (ok_var rfl ⟨⟨ys, clo_is ys _⟩, Ok.of (warp_eq (clo_is ys _) hr) (ok_acons (ok_clprop (ok_var rfl ⟨⟨ys, clo_is ys _⟩, Ok.of (weft_eq (clo_is ys _)) (ok_anil ?_)⟩)))⟩))))))
  have et := is_thread_eq (w := (w : Int)) (h := (ys.length : Int)) hx
  rw [isThr_of] at et
  exact Ok.of et ⟨rfl, rfl⟩
def sgn1 (ys : List Str) (i j : Nat) : Bool := decide ((ys.getD j "").cps.toList.getD i 0 = 49)
def ovr (ys : List Str) (a b : Th) : Bool := if a.1 = false then sgn1 ys a.2 b.2 else !sgn1 ys b.2 a.2
def crT (a b : Th) : Nat × Nat := if a.1 = false then (a.2, b.2) else (b.2, a.2)
theorem th0 (t : Th) (c : Cs) : itemD (thD t) (.int 0) c = .ok (.str (kdS t.1)) c := rfl
theorem th1 (t : Th) (c : Cs) : itemD (thD t) (.int 1) c = .ok (.int t.2) c := rfl
theorem eq_kd (a b : Bool) (c : Cs) : eqX (.str (kdS a)) (.str (kdS b)) c = .ok (.bl (a == b)) c := by
  cases a <;> cases b <;> kernel_rfl
theorem ne_kd (a b : Bool) (c : Cs) : neX (.str (kdS a)) (.str (kdS b)) c = .ok (.bl (!(a == b))) c := by
  cases a <;> cases b <;> kernel_rfl
theorem crossing_eq (a b : Th) (c : Cs) : gcrossing_of [thD a, thD b] c = .ok (if a.1 = b.1 then .non else crD (crT a b)) c := by
  refine ok_eq (Ok.fun rfl ?_)
  unfold ccrossing_of
  refine os_seq (os_if (ok_t (ok_op (ok_op (ok_var rfl (ok_c (Ok.of (th0 a c) (ok_op (ok_var rfl (ok_c (Ok.of (th0 b c) (Ok.of (eq_kd _ _ _) ⟨_, rfl, fun h => ?_, fun h => os_nil ?_⟩))))))))))))
  · exact os_ret (ok_c ⟨by rw [if_pos (eq_of_beq h)], rfl⟩)
  have hne : ¬ a.1 = b.1 := fun e => by rw [e] at h; simp at h
  rw [if_neg hne]
  refine os_ret (ok_if (ok_t (ok_op (ok_op (ok_var rfl (ok_c (Ok.of (th0 a c) (ok_c (Ok.of (eq_kd a.1 false c) ⟨_, rfl, fun h => ?_, fun h => ?_⟩)))))))))
  · refine ok_tup (ok_acons (ok_op (ok_var rfl (ok_c (Ok.of (th1 a c) (ok_acons (ok_op (ok_var rfl (ok_c (Ok.of (th1 b c) (ok_anil ⟨Nat.le_of_ble_eq_true rfl, ?_, rfl⟩)))))))))))
    unfold crT
    rw [if_pos (eq_of_beq h)]
    rfl
  · refine ok_tup (ok_acons (ok_op (ok_var rfl (ok_c (Ok.of (th1 b c) (ok_acons (ok_op (ok_var rfl (ok_c (Ok.of (th1 a c) (ok_anil ⟨Nat.le_of_ble_eq_true rfl, ?_, rfl⟩)))))))))))
    unfold crT
    rw [if_neg (fun e => by rw [e] at h; cases h)]
    rfl
theorem crD_itQ (p : Nat × Nat) (c : Cs) : ItQ (crD p) c := ⟨rfl, fun ys e y hy => by
  cases e
  simp only [List.mem_cons, List.not_mem_nil, or_false] at hy
  rcases hy with rfl | rfl <;> rfl⟩
theorem crOf_cr2 {w h i j : Nat} (hi : i < w) (hj : j < h) : crOf w h (crD (i, j)) = some (i, j) := by
  show (if 0 ≤ (i : Int) ∧ (i : Int) < (w : Int) ∧ 0 ≤ (j : Int) ∧ (j : Int) < (h : Int) then some ((i : Int).toNat, (j : Int).toNat) else none) = _
  rw [if_pos ⟨by omega, by omega, by omega, by omega⟩]
  rfl
theorem getitem_eq {c : Cs} {ys : List Str} {w i j : Nat} (hr : RwS ys w) (hi : i < w) (hj : j < ys.length) : gCloth____getitem__ [clo ys, crD (i, j)] c = .ok (.bl (sgn1 ys i j)) c := by
  have hz : sizeLine = 16777216 := sizeLine_eq
  have w8 := hr.w8
  have hm := List.getElem_mem hj
  have hl := hr.len _ hm
  have hil : i < ys[j].cps.toList.length := by rw [len_cps, hl]; exact hi
  have hy : ys.getD j "" = ys[j] := by simp [hj]
  refine ok_eq (Ok.fun rfl ?_)
  unfold cCloth____getitem__
  refine os_seq (os_if (ok_tnot (ok_t (ok_cb (ok_acons (ok_var rfl (ok_acons (ok_clprop (ok_var rfl ⟨⟨ys, clo_is ys _⟩, Ok.of (warp_eq (clo_is ys _) hr) (ok_acons (ok_clprop (ok_var rfl ⟨⟨ys, clo_is ys _⟩, Ok.of (weft_eq (clo_is ys _)) (ok_anil (Ok.of (is_crossing_eq (crD_itQ _ _)) ⟨_, rfl, fun h => ?_, fun _ => os_nil ?_⟩))⟩)))⟩)))))))))
  · rw [crOf_cr2 hi hj] at h; cases h
  refine os_ret (ok_op (ok_op (ok_op (ok_kept (ok_var rfl ⟨ys, clo_is ys _, ?_⟩)))))
  refine ok_op (ok_var rfl (ok_c (Ok.of (show itemD (crD (i, j)) (.int 1) c = .ok (.int (j : Nat)) c from rfl) ?_)))
  refine Ok.of (item_seq (x := .str ys[j]) (show seqOf (.lst (ys.map D.str)) c = some (ys.map D.str) from rfl) (by simp [hj])) ?_
  refine ok_op (ok_var rfl (ok_c (Ok.of (show itemD (crD (i, j)) (.int 0) c = .ok (.int (i : Nat)) c from rfl) ?_)))
  refine Ok.of (item_str_at (by omega) hil) (ok_c ⟨_, _, rfl, ?_, rfl⟩)
  unfold sgn1
  rw [hy]
  generalize ys[j].cps.toList.getD i 0 = k
  have : (⟨#[k]⟩ : Str) = "1" ↔ k = 49 := ⟨fun e => by
    have := congrArg (fun s : Str => s.cps.toList) e
    have e1 : ("1" : Str).cps.toList = [49] := by decide +kernel
    simp only [e1] at this
    simpa using this, fun e => by subst e; rfl⟩
  simp only [this]
theorem thOf_some {w g : Nat} {t : Th} (h : inB2 w g t) : (thOf w g (thD t)).isSome = true := by rw [thOf_th h]; rfl
theorem crT_lt {w g : Nat} {a b : Th} (ha : inB2 w g a) (hb : inB2 w g b) (hne : a.1 ≠ b.1) : (crT a b).1 < w ∧ (crT a b).2 < g := by
  obtain ⟨x, i⟩ := a
  obtain ⟨y, j⟩ := b
  unfold crT inB2 at *
  cases x <;> cases y <;> simp_all
theorem over_eq {c : Cs} {ys : List Str} {w : Nat} {a b : Th} (hr : RwS ys w) (ha : inB2 w ys.length a) (hb : inB2 w ys.length b) (hne : a.1 ≠ b.1) : gCloth__over [clo ys, thD a, thD b] c = .ok (.bl (ovr ys a b)) c := by
  refine ok_eq (Ok.fun rfl ?_)
  unfold cCloth__over
  refine os_seq (os_if (ok_t (ok_op (ok_var rfl (ok_var rfl (ok_inI (clo_is ys _) (Ok.of (contains_eq hr (thD_val a c)) ⟨_, rfl, _, rfl, fun h => ?_, fun _ => os_nil ?_⟩)))))))
  · rw [thOf_some ha] at h; cases h
  refine os_seq (os_if (ok_tor (ok_t (ok_op (ok_var rfl (ok_var rfl (ok_inI (clo_is ys _) (Ok.of (contains_eq hr (thD_val b c)) ⟨_, rfl, _, rfl, fun h => ?_, fun _ => ?_⟩))))))))
  · rw [thOf_some hb] at h; cases h
  obtain ⟨c1, c2⟩ := crT_lt ha hb hne
  refine ok_t (ok_op (ok_cb (ok_acons (ok_var rfl (ok_acons (ok_var rfl (ok_anil (Ok.of (crossing_eq a b c) (ok_c ⟨.bl false, c, ?_, _, rfl, fun h => Bool.noConfusion h, fun _ => os_nil ?_⟩)))))))))
  · rw [if_neg hne]; rfl
  refine os_ret (ok_op (ok_op (ok_var rfl (ok_cb (ok_acons (ok_var rfl (ok_acons (ok_var rfl (ok_anil (Ok.of (crossing_eq a b c) ?_))))))))))
  rw [if_neg hne]
  refine ok_ixI (clo_is ys _) (Ok.of (getitem_eq (i := (crT a b).1) (j := (crT a b).2) hr c1 c2) ?_)
  refine ok_op (ok_op (ok_var rfl (ok_c (Ok.of (th0 a c) (ok_c (Ok.of (eq_kd a.1 false c) ⟨_, _, rfl, ?_, rfl⟩))))))
  unfold ovr crT
  obtain ⟨x, i⟩ := a
  cases x
  · show D.bl (decide (sgn1 ys i b.2 = true)) = D.bl (sgn1 ys i b.2)
    cases sgn1 ys i b.2 <;> rfl
  · show D.bl (decide (sgn1 ys b.2 i = false)) = D.bl (!sgn1 ys b.2 i)
    cases sgn1 ys b.2 i <;> rfl

def crsL (w g : Nat) (a : Th) : List Th := (thL w g).filter fun t => !(t.1 == a.1)
theorem crs_mem {w g : Nat} {a t : Th} : t ∈ crsL w g a ↔ inB2 w g t ∧ t.1 ≠ a.1 := by
  unfold crsL
  rw [List.mem_filter, thL_mem]
  simp
theorem crs_len (w g : Nat) (a : Th) : (crsL w g a).length ≤ w + g := by
  have := List.length_filter_le (fun t : Th => !(t.1 == a.1)) (thL w g)
  rw [thL_len] at this
  exact this
theorem crossed_eq {c : Cs} {ys : List Str} {w : Nat} {a : Th} (hr : RwS ys w) (ha : inB2 w ys.length a) : gCloth__crossed [clo ys, thD a] c = .ok (.lst ((crsL w ys.length a).map thD)) c := by
  have n8 := hr.n8
  have w8 := hr.w8
  refine ok_eq (Ok.fun rfl ?_)
  unfold cCloth__crossed
  refine os_seq (os_if (ok_t (ok_op (ok_var rfl (ok_var rfl (ok_inI (clo_is ys _) (Ok.of (contains_eq hr (thD_val a c)) ⟨_, rfl, _, rfl, fun h => ?_, fun _ => os_nil ?_⟩)))))))
  · rw [thOf_some ha] at h; cases h
  have hit : iLst (mMeth [("Cloth", gCloth__threads)] "threads" (mVar 0) aNil) [some (clo ys), some (thD a), none] c = .ok ((thL w ys.length).map thD) c := by
    have : (mMeth [("Cloth", gCloth__threads)] "threads" (mVar 0) aNil) [some (clo ys), some (thD a), none] c = .ok (.lst ((thL w ys.length).map thD)) c := Ok.eq (ok_clmeth (by decide +kernel) (ok_var rfl ⟨⟨ys, clo_is ys _⟩, ok_anil (Ok.of (threads_eq hr) ⟨rfl, rfl⟩)⟩))
    unfold iLst
    rw [this]
    rfl
  refine os_ret (ok_mlc hit (by rw [List.length_map, thL_len]; omega) (ok_lcT (thL w ys.length) thD thD (fun t => !(t.1 == a.1)) (by rw [thL_len]; omega) (ok_kfix hit ⟨rfl, fun _ _ => rfl⟩) (fun t ht => ok_gn ⟨rfl, ?_⟩) ⟨rfl, rfl⟩))
  exact ok_t (ok_op (ok_op (ok_var rfl (ok_c (Ok.of (th0 t c) (ok_op (ok_var rfl (ok_c (Ok.of (th0 a c) (Ok.of (ne_kd _ _ _) ⟨_, rfl, rfl, rfl, fun _ => ok_var rfl ⟨rfl, rfl⟩⟩))))))))))
def blwL (ys : List Str) (w : Nat) (a : Th) : List Th := (crsL w ys.length a).filter fun t => ovr ys a t
theorem crs_hit {c : Cs} {ys : List Str} {w : Nat} {a : Th} {o : Option D} (hr : RwS ys w) (ha : inB2 w ys.length a) : iLst (mMeth [("Cloth", gCloth__crossed)] "crossed" (mVar 0) (aCons (mVar 1) (aNil))) [some (clo ys), some (thD a), o] c = .ok ((crsL w ys.length a).map thD) c := by
  have : (mMeth [("Cloth", gCloth__crossed)] "crossed" (mVar 0) (aCons (mVar 1) (aNil))) [some (clo ys), some (thD a), o] c = .ok (.lst ((crsL w ys.length a).map thD)) c := Ok.eq (ok_clmeth (by decide +kernel) (ok_var rfl ⟨⟨ys, clo_is ys _⟩, ok_acons (ok_var rfl (ok_anil (Ok.of (crossed_eq hr ha) ⟨rfl, rfl⟩)))⟩))
  unfold iLst
  rw [this]
  rfl
theorem below_eq {c : Cs} {ys : List Str} {w : Nat} {a : Th} (hr : RwS ys w) (ha : inB2 w ys.length a) : gCloth__below [clo ys, thD a] c = .ok (.lst ((blwL ys w a).map thD)) c := by
  have n8 := hr.n8
  have w8 := hr.w8
  have hl := crs_len w ys.length a
  refine ok_eq (Ok.fun rfl ?_)
  unfold cCloth__below
  refine os_ret (ok_mlc (crs_hit hr ha) (by rw [List.length_map]; omega) (ok_lcT (crsL w ys.length a) thD thD (fun t => ovr ys a t) (by omega) (ok_kfix (crs_hit hr ha) ⟨rfl, fun _ _ => rfl⟩) (fun t ht => ok_gn ⟨rfl, ?_⟩) ⟨rfl, rfl⟩))
  obtain ⟨h1, h2⟩ := crs_mem.mp ht
  exact ok_t (ok_clmeth (by decide +kernel) (ok_var rfl ⟨⟨ys, clo_is ys _⟩, ok_acons (ok_var rfl (ok_acons (ok_var rfl (ok_anil (Ok.of (over_eq hr ha h1 (fun e => h2 e.symm)) ⟨_, rfl, rfl, rfl, fun _ => ok_var rfl ⟨rfl, rfl⟩⟩)))))⟩))
/-! ### exchanged signs, in plain lists -/
def ngS (ys : List Str) : List Str := ys.map fun y => mkS (y.cps.toList.map exch)
theorem ng_len (ys : List Str) : (ngS ys).length = ys.length := by simp [ngS]
theorem map_exch_bits {ks : List Nat} (h : ks.all bitB = true) : (ks.map exch).all bitB = true := by
  refine List.all_eq_true.mpr fun k hk => ?_
  obtain ⟨x, hx, rfl⟩ := List.mem_map.mp hk
  exact (exch_bit (List.all_eq_true.mp h x hx)).1
theorem RwS.ng {ys : List Str} {w : Nat} (h : RwS ys w) : RwS (ngS ys) w := by
  refine ⟨by rw [ng_len]; exact h.n1, by rw [ng_len]; exact h.n8, h.w1, h.w8, fun z hz => ?_, fun z hz => ?_⟩
  · obtain ⟨y, hy, rfl⟩ := List.mem_map.mp hz
    rw [← len_cps, mkS_cps, List.length_map, len_cps]
    exact h.len y hy
  · obtain ⟨y, hy, rfl⟩ := List.mem_map.mp hz
    unfold bitS
    rw [mkS_cps]
    exact map_exch_bits (h.bit y hy)
/-! ### columns -/
def colL (ys : List Str) (i : Nat) : List Nat := ys.map fun y => y.cps.toList.getD i 0
theorem col_len (ys : List Str) (i : Nat) : (colL ys i).length = ys.length := by simp [colL]
theorem RwS.getD {ys : List Str} {w i : Nat} (h : RwS ys w) (hi : i < w) {y : Str} (hy : y ∈ ys) : ∃ hl : i < y.cps.toList.length, y.cps.toList.getD i 0 = y.cps.toList[i] ∧ bitB (y.cps.toList[i]) = true := by
  have hl : i < y.cps.toList.length := by rw [len_cps, h.len y hy]; exact hi
  exact ⟨hl, by rw [List.getD_eq_getElem?_getD, List.getElem?_eq_getElem hl]; rfl, List.all_eq_true.mp (h.bit y hy) _ (List.getElem_mem hl)⟩
theorem RwS.col_bits {ys : List Str} {w i : Nat} (h : RwS ys w) (hi : i < w) : (colL ys i).all bitB = true := by
  refine List.all_eq_true.mpr fun k hk => ?_
  obtain ⟨y, hy, rfl⟩ := List.mem_map.mp hk
  obtain ⟨hl, e, b⟩ := h.getD hi hy
  rw [e]; exact b
def tpS (ys : List Str) (w : Nat) : List Str := (List.range w).map fun i => mkS ((colL ys i).map exch)
theorem tp_rws {ys : List Str} {w : Nat} (h : RwS ys w) : RwS (tpS ys w) ys.length := by
  refine ⟨by simp [tpS]; exact h.w1, by simp [tpS]; exact h.w8, h.n1, h.n8, fun z hz => ?_, fun z hz => ?_⟩
  · obtain ⟨i, hi, rfl⟩ := List.mem_map.mp hz
    rw [← len_cps, mkS_cps, List.length_map, col_len]
  · obtain ⟨i, hi, rfl⟩ := List.mem_map.mp hz
    unfold bitS
    rw [mkS_cps]
    exact map_exch_bits (h.col_bits (List.mem_range.mp hi))
namespace Tu1
/-! ### crossings, asked -/
def ItC (x : D) (c : Cs) : Prop := (tyD x c).isSome = true ∧ ∀ ys, x = .tup ys → ∀ y ∈ ys, (tyD y c).isSome = true
theorem isi_tup {x : D} {c : Cs} {t : String} (h : tyD x c = some t) : isiD [x, .ty "tuple"] c = .ok (.bl (isT t "tuple")) c := by simp [isiD, h, tyNames]
def isTup (x : D) : Bool := match x with | .tup _ => true | _ => false
theorem isT_tup {x : D} {c : Cs} {t : String} (h : tyD x c = some t) : isT t "tuple" = isTup x := by
  cases x with
  | ref k =>
    rcases ty_ref h with rfl | rfl
    · exact (by decide : isT "list" "tuple" = false)
    · exact (by decide : isT "dict" "tuple" = false)
  | obj => cases h
  | adr => cases h
  | ty => cases h
  | gh => cases h
  | non => cases h; exact (by decide : isT "NoneType" "tuple" = false)
  | bl _ => cases h; exact (by decide : isT "bool" "tuple" = false)
  | int _ => cases h; exact (by decide : isT "int" "tuple" = false)
  | str _ => cases h; exact (by decide : isT "str" "tuple" = false)
  | lst _ => cases h; exact (by decide : isT "list" "tuple" = false)
  | ro _ => cases h; exact (by decide : isT "list" "tuple" = false)
  | dct _ => cases h; exact (by decide : isT "dict" "tuple" = false)
  | tup _ => cases h; exact (by decide : isT "tuple" "tuple" = true)
theorem isInt_non {a : D} {lo hi : Int} (h : ∀ i, a ≠ .int i) : isInt a lo hi = false := by
  cases a <;> first | rfl | exact absurd rfl (h _)
theorem crOf_two (a b : D) (w h : Nat) : (crOf w h (.tup [a, b])).isSome = (isInt a 0 (w - 1) && isInt b 0 (h - 1)) := by
  by_cases ha : ∃ i, a = .int i
  · obtain ⟨i, rfl⟩ := ha
    by_cases hb : ∃ j, b = .int j
    · obtain ⟨j, rfl⟩ := hb
      show (if 0 ≤ i ∧ i < (w : Int) ∧ 0 ≤ j ∧ j < (h : Int) then some (i.toNat, j.toNat) else none).isSome = ((decide (0 ≤ i) && decide (i ≤ (w : Int) - 1)) && (decide (0 ≤ j) && decide (j ≤ (h : Int) - 1)))
      split
      · rename_i hc
        obtain ⟨h1, h2, h3, h4⟩ := hc
        rw [decide_eq_true h1, decide_eq_true (show i ≤ (w : Int) - 1 by omega), decide_eq_true h3, decide_eq_true (show j ≤ (h : Int) - 1 by omega)]
        rfl
      · rename_i hc
        symm
        simp only [Option.isSome_none, Bool.and_eq_false_iff, decide_eq_false_iff_not]
        omega
    · have hb2 : ∀ j, b ≠ .int j := fun j e => hb ⟨j, e⟩
      rw [isInt_non (a := b) hb2, Bool.and_false]
      cases b <;> first | rfl | exact absurd rfl (hb2 _)
  · have ha2 : ∀ i, a ≠ .int i := fun i e => ha ⟨i, e⟩
    rw [isInt_non (a := a) ha2, Bool.false_and]
    cases a <;> first | rfl | exact absurd rfl (ha2 _)
theorem is_crossing_eq {x : D} {c : Cs} {w h : Nat} (hx : ItC x c) : gis_crossing [x, .int w, .int h] c = .ok (.bl (crOf w h x).isSome) c := by
  have hz : sizeLine = 16777216 := sizeLine_eq
  obtain ⟨t, ht⟩ := Option.isSome_iff_exists.mp hx.1
  have e0 := isi_tup ht
  rw [isT_tup ht] at e0
  refine ok_eq (Ok.fun rfl ?_)
  unfold cis_crossing
  refine os_seq (os_if (ok_tor (ok_tnot (ok_t (ok_cb (ok_acons (ok_var rfl (ok_acons (ok_c (ok_anil (Ok.of e0 ⟨_, rfl, ?_⟩)))))))))))
  by_cases hxt : ∃ ys, x = .tup ys
  · obtain ⟨ys, rfl⟩ := hxt
    refine ⟨fun h => Bool.noConfusion h, fun _ => ?_⟩
    refine ok_t (ok_op (ok_cb (ok_acons (ok_var rfl (ok_anil (Ok.of (len_seq rfl) (ok_c ⟨_, _, rfl, _, rfl, fun h => ?_, fun h => os_nil ?_⟩)))))))
    · have h : (!decide ((ys.length : Int) = 2)) = true := h
      refine os_ret (ok_c ⟨?_, rfl⟩)
      match ys, h with
      | [], _ => rfl
      | [a], _ => cases a <;> rfl
      | [a, b], h => simp at h
      | a :: b :: d :: r, _ => cases a <;> (cases b <;> rfl)
    · have h : (!decide ((ys.length : Int) = 2)) = false := h
      match ys, h, hx with
      | [], h, _ => simp at h
      | [a], h, _ => simp at h
      | a :: b :: d :: r, h, _ => simp at h; omega
      | [a, b], _, hx =>
        have ta := hx.2 _ rfl a (by simp)
        have tb := hx.2 _ rfl b (by simp)
        rw [crOf_two]
        refine os_ret (ok_and (ok_cb (ok_acons (ok_op (ok_var rfl (ok_c (Ok.of (show itemD (.tup [a, b]) (.int 0) c = .ok a c from rfl) (ok_acons (ok_c (ok_acons (ok_op (ok_var rfl (ok_c ⟨_, _, rfl, ok_anil (Ok.of (is_integer_eq ta) ⟨_, rfl, fun h => ?_, fun h => ?_⟩)⟩)))))))))))))
        · refine ok_cb (ok_acons (ok_op (ok_var rfl (ok_c (Ok.of (show itemD (.tup [a, b]) (.int 1) c = .ok b c from rfl) (ok_acons (ok_c (ok_acons (ok_op (ok_var rfl (ok_c ⟨_, _, rfl, ok_anil (Ok.of (is_integer_eq tb) ⟨?_, rfl⟩)⟩)))))))))))
          rw [h]; rfl
        · refine ⟨?_, rfl⟩
          rw [h]; rfl
  · have hf : isTup x = false := by
      cases x <;> first | rfl | exact absurd ⟨_, rfl⟩ hxt
    rw [hf]
    refine ⟨fun _ => ⟨fun _ => os_ret (ok_c ⟨?_, rfl⟩), fun h => Bool.noConfusion h⟩, fun h => Bool.noConfusion h⟩
    cases x <;> first | rfl | exact absurd ⟨_, rfl⟩ hxt
/-! ### what is told of a list of crossings -/
inductive Vk where
  | lst
  | cr (x : D)
  | tw (x : D)
  | good (ps : List (Nat × Nat))
def scn (w h : Nat) : List (Nat × Nat) → List D → Vk
  | pre, [] => .good pre
  | pre, x :: xs => match crOf w h x with
    | none => .cr x
    | some p => if p ∈ pre then .tw x else scn w h (pre ++ [p]) xs
def crE (x : D) : Ex := ⟨"InvalidCrossing", [("value", x)]⟩
def twE (x : D) : Ex := ⟨"Duplicate", [("value", x)]⟩
def lsE (x : D) : Ex := ⟨"InvalidList", [("value", x)]⟩
def Vk.ex (v : D) : Vk → Ex
  | .lst => lsE v
  | .cr x => crE x
  | .tw x => twE x
  | .good _ => lsE v
def vk (w h : Nat) (v : D) (c : Cs) : Vk := match seqOf v c with
  | some xs => if xs.length ≤ 64 then scn w h [] xs else .lst
  | none => .lst
end Tu1

namespace Pa1
/-! ### what is told of a list of threads -/
def ItC (x : D) (c : Cs) : Prop := (tyD x c).isSome = true ∧ (∀ ys, x = .tup ys → ∀ y ∈ ys, (tyD y c).isSome = true) ∧ Val x c
theorem ItC.val {x : D} {c : Cs} (h : ItC x c) : Val x c := h.2.2
inductive Vk where
  | lst
  | cr (x : D)
  | tw (x : D)
  | good (ps : List Th)
def scn (w h : Nat) : List Th → List D → Vk
  | pre, [] => .good pre
  | pre, x :: xs => match thOf w h x with
    | none => .cr x
    | some p => if p ∈ pre then .tw x else scn w h (pre ++ [p]) xs
def crE (x : D) : Ex := ⟨"InvalidThread", [("value", x)]⟩
def twE (x : D) : Ex := ⟨"Duplicate", [("value", x)]⟩
def lsE (x : D) : Ex := ⟨"InvalidList", [("value", x)]⟩
def Vk.ex (v : D) : Vk → Ex
  | .lst => lsE v
  | .cr x => crE x
  | .tw x => twE x
  | .good _ => lsE v
def both (ps : List Th) : Bool := (ps.any fun t => t.1 == false) && ps.any fun t => t.1 == true
def Vk.fin : Vk → Vk
  | .good ps => if both ps = true then .good ps else .lst
  | r => r
def vk (w h : Nat) (v : D) (c : Cs) : Vk := match seqOf v c with
  | some xs => if xs.length ≤ 16 then (scn w h [] xs).fin else .lst
  | none => .lst
/-! ### the part -/
end Pa1

/-! ### the methods, where they answer -/
def tyT : D → Bool
  | .non => true
  | .bl _ => true
  | .int _ => true
  | .str _ => true
  | .lst _ => true
  | .tup _ => true
  | .dct _ => true
  | _ => false
/-! ### two cloths together -/
/-! ### a thread removed -/
theorem shape_th (t : Th) : SeqAt.shaped (thP t) = true := by
  have h1 := thP_lay1 t
  have h2 : (thP t).depth ≤ 64 := by unfold thP; simp [PyData.depth, PyData.depthAll]
  unfold SeqAt.shaped
  simp [h1, h2]
theorem ne_th (a b : Th) (c : Cs) : neX (thD a) (thD b) c = .ok (.bl (!decide (a = b))) c := by
  show eqQ true (thD a) (thD b) c = _
  unfold eqQ
  rw [show toPyC 30 c (thD a) = some (thP a) from rfl, show toPyC 30 c (thD b) = some (thP b) from rfl]
  simp only []
  rw [if_pos ⟨shape_th a, shape_th b⟩, thP_eqv]
  rfl
theorem thL_nodup (w g : Nat) : (thL w g).Nodup := by
  unfold thL
  refine List.nodup_append.mpr ⟨?_, ?_, ?_⟩
  · exact List.pairwise_map.mpr (List.nodup_range.imp fun h e => h (Prod.mk.inj e).2)
  · exact List.pairwise_map.mpr (List.nodup_range.imp fun h e => h (Prod.mk.inj e).2)
  · intro x hx y hy e
    obtain ⟨i, _, rfl⟩ := List.mem_map.mp hx
    obtain ⟨j, _, rfl⟩ := List.mem_map.mp hy
    cases e
/-! ### a thread inserted -/
theorem sl_str {s : Str} {a b : Option Int} {c : Cs} (h : s.length ≤ 100) : sliceY (.str s) a b c = .ok (.str (cutS s a b)) c := by
  have hz : sizeLine = 16777216 := sizeLine_eq
  exact if_pos (show s.length ≤ sizeLine by omega)

local macro_rules | `(tactic| walk_at "rws") => `(tactic| first | assumption | exact RwS.ng (by assumption) | exact RwS.turn (by assumption) _ | exact tp_rws (by assumption) | exact tp_rws (RwS.ng (by assumption)) | exact RwS.ng (tp_rws (by assumption)))
local macro_rules | `(tactic| walk_at "pf") => `(tactic| (repeat (first | assumption | exact Pfx.refl _ | exact Pfx.one _ _ | refine Pfx.trans ?_ (by assumption) | refine Pfx.trans ?_ (Pfx.one _ _))))
local macro_rules | `(tactic| walk_at "bx") => `(tactic| first | exact bx_mono (by assumption) (by omega) | refine bx_mono (bx_pfx (by assumption) (by walk_at "pf")) (by omega))
local macro_rules | `(tactic| walk_at "gs0") => `(tactic| first
  | with_reducible refine os_seq ?_ | with_reducible refine os_set ?_ | with_reducible refine os_ret ?_ | with_reducible refine os_asg ?_ | with_reducible refine os_par ?_
  | with_reducible refine os_expr ?_ | with_reducible refine os_nil ?_ | with_reducible refine os_retn ?_ | with_reducible refine os_brk ?_ | with_reducible refine os_cnt ?_
  | with_reducible refine ok_op ?_ | (with_reducible refine ok_var ?_ ?_; (focus rfl)) | with_reducible refine ok_c ?_ | with_reducible refine ok_un ?_ | with_reducible refine ok_cb ?_ | with_reducible refine ok_anil ?_ | with_reducible refine ok_acons ?_
  | with_reducible refine ok_lst ?_ | with_reducible refine ok_tup ?_ | with_reducible refine ok_lstM ?_ | with_reducible refine ok_dict1 ?_
  | with_reducible refine ok_and ?_ | with_reducible refine ok_or ?_ | with_reducible refine ok_not ?_ | with_reducible refine ok_chain ?_ | with_reducible refine ok_t ?_ | with_reducible refine ok_tnot ?_ | with_reducible refine ok_tand ?_
  | with_reducible refine ok_tor ?_ | with_reducible refine ok_if ?_ | with_reducible refine ok_onone ?_ | with_reducible refine ok_osome ?_ | with_reducible refine ok_slice ?_ | with_reducible refine ok_m1 ?_
  | with_reducible refine ok_bm ?_ | with_reducible refine ok_gs ?_ | with_reducible refine ok_cbd ?_ | with_reducible refine ok_cbk ?_ | with_reducible refine os_ifNm ?_ | with_reducible refine ok_frz ?_ | with_reducible refine ok_itup ?_ | with_reducible refine ok_istr ?_ | with_reducible refine ok_r1 ?_ | with_reducible refine ok_r2 ?_ | with_reducible refine ok_il ?_ | with_reducible refine ok_gn ?_)
local macro_rules | `(tactic| walk_at "gs") => `(tactic| first | with_reducible refine os_if ?_ | walk_at "gs0")
local macro_rules | `(tactic| walk_at "gt") => `(tactic| first
  | refine And.intro (Nat.le_of_ble_eq_true rfl) ?_ | refine Exists.intro _ (And.intro rfl ?_) | refine And.intro (fun _ => ?_) (fun hk => Bool.noConfusion hk) | refine And.intro (fun hk => Bool.noConfusion hk) (fun _ => ?_)
  | (walk_at "nolp"; (fail_if_success (with_reducible refine Ok.fun ?_ ?_)); refine ok_ret ?_))
local macro_rules | `(tactic| walk_at "go") => `(tactic| repeat (first | walk_at "gs" | walk_at "use" | walk_at "gt"))
local macro_rules | `(tactic| walk_at "gon") => `(tactic| repeat (first | walk_at "gs0" | walk_at "use" | walk_at "gt"))

section

local macro_rules | `(tactic| walk_at "bt") => `(tactic| first | assumption | exact bx_pfx (by assumption) (by walk_at "pf"))
local macro_rules | `(tactic| walk_at "use") => `(tactic| first
  | (with_reducible refine And.intro ⟨_, clo_is _ _⟩ ?_)
  | (with_reducible refine Exists.intro _ (And.intro (clo_is _ _) ?_))
  | with_reducible refine ok_clmeth (by decide +kernel) ?_ | with_reducible refine ok_kept ?_
  | with_reducible refine ok_slY ?_
  | with_reducible refine ok_len_map ?_
  | with_reducible refine take_gr (by walk_at "bt") (by omega) (by omega) (by omega) (fun _ _ _ _ _ _ _ => ?_))

/-! ### rows of any kind -/
def bitR (w : Nat) (s : Str) : Prop := s.length = w ∧ bitS s
theorem bitR_mk {w : Nat} {ks : List Nat} (h : ks.length = w) (hb : ks.all bitB = true) : bitR w (mkS ks) := ⟨by rw [← len_cps, mkS_cps]; exact h, by unfold bitS; rw [mkS_cps]; exact hb⟩
theorem all_rep {k m : Nat} (h : bitB k = true) : (List.replicate m k).all bitB = true := List.all_eq_true.mpr fun x hx => by rw [List.eq_of_mem_replicate hx]; exact h
theorem mul1 {k : Nat} {m : Int} (h0 : 0 ≤ m) (h1 : m ≤ 100) (c : Cs) : mulX false (.str ⟨#[k]⟩) (.int m) c = .ok (.str (mkS (List.replicate m.toNat k))) c := by
  have hl : mulLim (Str.length ⟨#[k]⟩) m := ⟨by show 1 * m.toNat ≤ 100000; omega, by omega, by omega⟩
  have e : Txt.mul ⟨#[k]⟩ m = mkS (List.replicate m.toNat k) := by
    rw [← mul_one_list k m, mkS_of]
  rw [← e]
  exact if_pos hl
theorem app_mk (a b : List Nat) : mkS a ++ mkS b = mkS (a ++ b) := by rw [← mkS_of (mkS a ++ mkS b), app_list, mkS_cps, mkS_cps]
theorem oz_item {k : Nat} (h : bitB k = true) (c : Cs) : ∃ k2, bitB k2 = true ∧ itemD (.lst [.str "1", .str "0"]) (.int (if k = 49 then 1 else 0)) c = .ok (.str ⟨#[k2]⟩) c := by
  have : k = 48 ∨ k = 49 := by simpa [bitB] using h
  rcases this with rfl | rfl
  · exact ⟨49, rfl, by kernel_rfl⟩
  · exact ⟨48, rfl, by kernel_rfl⟩
theorem bitR_turn {w i k2 : Nat} {s : Str} (h : bitR w s) (hi : i < w) (hk : bitB k2 = true) : bitR w (cutS s none (some (i : Nat)) ++ ⟨#[k2]⟩ ++ cutS s (some ((i : Nat) + 1)) none) := by
  refine ⟨?_, bitS_app (bitS_app (bitS_cut h.2 _ _) (bit_one hk)) (bitS_cut h.2 _ _)⟩
  have e1 : (cutS s none (some ((i : Nat) : Int))).length = i := by rw [← len_cps, cutS_list, cutL_to _ (by omega), Int.toNat_natCast, List.length_take, len_cps, h.1]; omega
  have e2 : (cutS s (some (((i : Nat) : Int) + 1)) none).length = w - (i + 1) := by rw [← len_cps, cutS_list, cutL_from _ (by omega), List.length_drop, len_cps, h.1]; omega
  have e3 : Str.length ⟨#[k2]⟩ = 1 := rfl
  rw [Str.length_append, Str.length_append, e1, e2, e3]
  omega
theorem row_step {k f : Nat} {n : Int} {w h : Nat} {y : Int} {ys : List Str} {o6 o7 o8 : Option D} {c : Cs} {QS : Fl → Cs → Prop} (w1 : 1 ≤ w) (w8 : w ≤ 8) (hy8 : ys.length ≤ 8) (hfk : f ≠ k) (hs : ∀ s ∈ ys, bitR w s) (hc : c[f]? = some (.lst (ys.map D.str))) (hb : Bx c k n) (hn : n ≤ 900000)
    (q : ∀ (s : Str) (o6 o8 : Option D) (c' : Cs), bitR w s → c'[f]? = some (.lst (ys.map D.str)) → Bx c' k (n + 20) → Gr k c c' → QS (.nx [some (.ref k), some (.ref f), some (.int (ys.length : Nat)), some (.int w), some (.int h), some (.int y), o6, some (.str s), o8, none]) (c'.set f (.lst (ys.map D.str ++ [.str s])))) :
    OkS ((sSeq (sSet 6 (mCB g_law_take (aCons (mVar 0) (aCons (mOp addD (mVar 3) (mC (.int 1))) (aNil))))) (sSeq (sSet 7 (mOp addD (mOp (mulX false) (mC (.str "1")) (mVar 6)) (mOp (mulX false) (mC (.str "0")) (mOp subD (mVar 3) (mVar 6))))) (sSeq (sIf (mT (mOp eqX (mVar 5) (mC (.int 0)))) (sSet 7 (mM1 joinX (mC (.str "")) (mLc (iR1 (aCons (mVar 3) (aNil))) [9] (gN 9) (tYesM) (mOp itemD (mLst (aCons (mC (.str "0")) (aCons (mC (.str "1")) (aNil)))) (mCB g_law_take (aCons (mVar 0) (aCons (mC (.int 2)) (aNil)))))))) (sNil)) (sSeq (sIf (tAndM (mT (mOp eqX (mVar 5) (mC (.int 2)))) (mT (mOp eqX (mCB g_law_take (aCons (mVar 0) (aCons (mC (.int 2)) (aNil)))) (mC (.int 0))))) (sSeq (sSet 8 (mCB g_law_take (aCons (mVar 0) (aCons (mVar 3) (aNil))))) (sSet 7 (mOp addD (mOp addD (mSliceY (mVar 7) (oNone) (oSome (mVar 8))) (mOp itemD (mLst (aCons (mC (.str "1")) (aCons (mC (.str "0")) (aNil)))) (mCB intFD (aCons (mOp itemD (mVar 7) (mVar 8)) (aNil))))) (mSliceY (mVar 7) (oSome (mOp addD (mVar 8) (mC (.int 1)))) (oNone))))) (sNil)) (sSeq (sIf (tAndM (mT (mOp eqX (mVar 5) (mC (.int 3)))) (tAndM (mT (mOp gtD (mVar 2) (mC (.int 1)))) (mT (mOp gtD (mCB g_law_take (aCons (mVar 0) (aCons (mC (.int 3)) (aNil)))) (mC (.int 0)))))) (sSet 7 (mOp itemD (mVar 1) (mCB g_law_take (aCons (mVar 0) (aCons (mVar 2) (aNil)))))) (sNil)) (sExpr (mBM appendD (mVar 1) (aCons (mVar 7) (aNil))))))))) [some (.ref k), some (.ref f), some (.int (ys.length : Nat)), some (.int w), some (.int h), some (.int y), o6, o7, o8, none] c) QS := by
  have hz : sizeLine = 16777216 := sizeLine_eq
  have s5 : ∀ (s : Str) (o6 o8 : Option D) (c' : Cs), bitR w s → c'[f]? = some (.lst (ys.map D.str)) → Bx c' k (n + 20) → Gr k c c' → OkS ((sExpr (mBM appendD (mVar 1) (aCons (mVar 7) (aNil)))) [some (.ref k), some (.ref f), some (.int (ys.length : Nat)), some (.int w), some (.int h), some (.int y), o6, some (.str s), o8, none] c') QS := fun s o6 o8 c' hr hc hb' hG => by
    refine os_expr (ok_bm (ok_var rfl ⟨isL_ref hc, ok_acons (ok_var rfl (ok_anil (ok_append hc (by rw [List.length_map]; omega) ?_)))⟩))
    exact q s o6 o8 c' hr hc hb' hG
  have s4 : ∀ (s : Str) (o6 o8 : Option D) (c' : Cs), bitR w s → c'[f]? = some (.lst (ys.map D.str)) → Bx c' k (n + 15) → Gr k c c' → OkS ((sSeq (sIf (tAndM (mT (mOp eqX (mVar 5) (mC (.int 3)))) (tAndM (mT (mOp gtD (mVar 2) (mC (.int 1)))) (mT (mOp gtD (mCB g_law_take (aCons (mVar 0) (aCons (mC (.int 3)) (aNil)))) (mC (.int 0)))))) (sSet 7 (mOp itemD (mVar 1) (mCB g_law_take (aCons (mVar 0) (aCons (mVar 2) (aNil)))))) (sNil)) (sExpr (mBM appendD (mVar 1) (aCons (mVar 7) (aNil))))) [some (.ref k), some (.ref f), some (.int (ys.length : Nat)), some (.int w), some (.int h), some (.int y), o6, some (.str s), o8, none] c') QS := fun s o6 o8 c' hr hc hb' hG => by
    refine os_seq (os_if (ok_tand (ok_t (ok_op (ok_var rfl (ok_c ⟨_, _, rfl, _, rfl, fun _ => ?_, fun _ => ⟨fun h => Bool.noConfusion h, fun _ => os_nil (s5 s _ _ _ hr hc (bx_mono hb' (by omega)) hG)⟩⟩))))))
    refine ok_tand (ok_t (ok_op (ok_var rfl (ok_c ⟨_, _, rfl, _, rfl, fun h1 => ?_, fun _ => ⟨fun h => Bool.noConfusion h, fun _ => os_nil (s5 s _ _ _ hr hc (bx_mono hb' (by omega)) hG)⟩⟩))))
    have h1 : decide ((1 : Int) < (ys.length : Nat)) = true := h1
    have h1 := of_decide_eq_true h1
    refine ok_t (ok_op (ok_cb (ok_acons (ok_var rfl (ok_acons (ok_c (ok_anil (take_gr hb' (by omega) (by decide) (by decide) fun u c2 u0 u1 b2 G2 l2 => ok_c ⟨_, _, rfl, _, rfl, fun _ => ?_, fun _ => os_nil (s5 s _ _ _ hr (G2.get hfk hc) (bx_mono b2 (by omega)) (hG.trans G2))⟩))))))))
    refine os_set (ok_op (ok_var rfl (ok_cb (ok_acons (ok_var rfl (ok_acons (ok_var rfl (ok_anil (take_gr b2 (by omega) (by omega) (by omega) fun v c3 v0 v1 b3 G3 l3 => ?_)))))))))
    have hc3 := G3.get hfk (G2.get hfk hc)
    obtain ⟨j, rfl⟩ : ∃ j : Nat, v = j := ⟨v.toNat, by omega⟩
    have hj : j < ys.length := by omega
    refine Ok.of (item_seq (x := .str ys[j]) (show seqOf (.ref f) c3 = some (ys.map D.str) by simp [seqOf, hc3]) (by simp [hj])) ?_
    exact s5 _ _ _ _ (hs _ (List.getElem_mem hj)) hc3 (bx_mono b3 (by omega)) ((hG.trans G2).trans G3)
  have s3 : ∀ (s : Str) (o6 o8 : Option D) (c' : Cs), bitR w s → c'[f]? = some (.lst (ys.map D.str)) → Bx c' k (n + 12) → Gr k c c' → OkS ((sSeq (sIf (tAndM (mT (mOp eqX (mVar 5) (mC (.int 2)))) (mT (mOp eqX (mCB g_law_take (aCons (mVar 0) (aCons (mC (.int 2)) (aNil)))) (mC (.int 0))))) (sSeq (sSet 8 (mCB g_law_take (aCons (mVar 0) (aCons (mVar 3) (aNil))))) (sSet 7 (mOp addD (mOp addD (mSliceY (mVar 7) (oNone) (oSome (mVar 8))) (mOp itemD (mLst (aCons (mC (.str "1")) (aCons (mC (.str "0")) (aNil)))) (mCB intFD (aCons (mOp itemD (mVar 7) (mVar 8)) (aNil))))) (mSliceY (mVar 7) (oSome (mOp addD (mVar 8) (mC (.int 1)))) (oNone))))) (sNil)) (sSeq (sIf (tAndM (mT (mOp eqX (mVar 5) (mC (.int 3)))) (tAndM (mT (mOp gtD (mVar 2) (mC (.int 1)))) (mT (mOp gtD (mCB g_law_take (aCons (mVar 0) (aCons (mC (.int 3)) (aNil)))) (mC (.int 0)))))) (sSet 7 (mOp itemD (mVar 1) (mCB g_law_take (aCons (mVar 0) (aCons (mVar 2) (aNil)))))) (sNil)) (sExpr (mBM appendD (mVar 1) (aCons (mVar 7) (aNil)))))) [some (.ref k), some (.ref f), some (.int (ys.length : Nat)), some (.int w), some (.int h), some (.int y), o6, some (.str s), o8, none] c') QS := fun s o6 o8 c' hr hc hb' hG => by
    refine os_seq (os_if (ok_tand (ok_t (ok_op (ok_var rfl (ok_c ⟨_, _, rfl, _, rfl, fun _ => ?_, fun _ => ⟨fun h => Bool.noConfusion h, fun _ => os_nil (s4 s _ _ _ hr hc (bx_mono hb' (by omega)) hG)⟩⟩))))))
    refine ok_t (ok_op (ok_cb (ok_acons (ok_var rfl (ok_acons (ok_c (ok_anil (take_gr hb' (by omega) (by decide) (by decide) fun u c2 u0 u1 b2 G2 l2 => ok_c ⟨_, _, rfl, _, rfl, fun _ => ?_, fun _ => os_nil (s4 s _ _ _ hr (G2.get hfk hc) (bx_mono b2 (by omega)) (hG.trans G2))⟩))))))))
    refine os_seq (os_set (ok_cb (ok_acons (ok_var rfl (ok_acons (ok_var rfl (ok_anil (take_gr b2 (by omega) (by omega) (by omega) fun v c3 v0 v1 b3 G3 l3 => ?_))))))))
    have hc3 := G3.get hfk (G2.get hfk hc)
    obtain ⟨j, rfl⟩ : ∃ j : Nat, v = j := ⟨v.toNat, by omega⟩
    have hj : j < w := by omega
    have hl := hr.1
    have hjl : j < s.cps.toList.length := by rw [len_cps, hl]; exact hj
    have hbit : bitB (s.cps.toList.getD j 0) = true := by
      rw [List.getD_eq_getElem?_getD, List.getElem?_eq_getElem hjl]
      exact List.all_eq_true.mp hr.2 _ (List.getElem_mem hjl)
    obtain ⟨k2, hk2, e2⟩ := oz_item hbit c3
    refine os_set (ok_op (ok_op (Ok.bind (ok_var rfl (Ok.bind (ok_onone (Ok.bind (ok_osome (ok_var rfl ⟨_, rfl, Ok.of (sl_str (by omega)) ?_⟩)))))))))
    refine ok_op (ok_lst (ok_acons (ok_c (ok_acons (ok_c (ok_anil ⟨Nat.le_of_ble_eq_true rfl, ?_⟩))))))
    refine ok_cb (ok_acons (ok_op (ok_var rfl (ok_var rfl (Ok.of (item_str_at (by omega) hjl) (ok_anil (Ok.of (int_bit hbit _) (Ok.of e2 ?_))))))))
    have e1 : (cutS s none (some ((j : Nat) : Int))).length ≤ 8 := by rw [← len_cps, cutS_list, cutL_to _ (by omega), Int.toNat_natCast, List.length_take, len_cps, hl]; omega
    have e3 : Str.length ⟨#[k2]⟩ = 1 := rfl
    have hR := bitR_turn hr hj hk2
    refine ok_add_str (by omega) ?_
    refine Ok.bind (ok_var rfl (Ok.bind (ok_osome (ok_op (ok_var rfl (ok_c (Ok.of (show addD (.int (j : Nat)) (.int 1) _ = .ok (.int ((j : Nat) + 1)) _ from rfl) ⟨_, rfl, Ok.bind (ok_onone (Ok.of (sl_str (by omega)) ?_))⟩)))))))
    have e4 := hR.1
    rw [Str.length_append] at e4
    refine ok_add_str (by omega) ?_
    exact s4 _ _ _ _ hR hc3 (bx_mono b3 (by omega)) ((hG.trans G2).trans G3)
  have s2 : ∀ (s : Str) (o6 o8 : Option D) (c' : Cs), bitR w s → c'[f]? = some (.lst (ys.map D.str)) → Bx c' k (n + 1) → Gr k c c' → OkS ((sSeq (sIf (mT (mOp eqX (mVar 5) (mC (.int 0)))) (sSet 7 (mM1 joinX (mC (.str "")) (mLc (iR1 (aCons (mVar 3) (aNil))) [9] (gN 9) (tYesM) (mOp itemD (mLst (aCons (mC (.str "0")) (aCons (mC (.str "1")) (aNil)))) (mCB g_law_take (aCons (mVar 0) (aCons (mC (.int 2)) (aNil)))))))) (sNil)) (sSeq (sIf (tAndM (mT (mOp eqX (mVar 5) (mC (.int 2)))) (mT (mOp eqX (mCB g_law_take (aCons (mVar 0) (aCons (mC (.int 2)) (aNil)))) (mC (.int 0))))) (sSeq (sSet 8 (mCB g_law_take (aCons (mVar 0) (aCons (mVar 3) (aNil))))) (sSet 7 (mOp addD (mOp addD (mSliceY (mVar 7) (oNone) (oSome (mVar 8))) (mOp itemD (mLst (aCons (mC (.str "1")) (aCons (mC (.str "0")) (aNil)))) (mCB intFD (aCons (mOp itemD (mVar 7) (mVar 8)) (aNil))))) (mSliceY (mVar 7) (oSome (mOp addD (mVar 8) (mC (.int 1)))) (oNone))))) (sNil)) (sSeq (sIf (tAndM (mT (mOp eqX (mVar 5) (mC (.int 3)))) (tAndM (mT (mOp gtD (mVar 2) (mC (.int 1)))) (mT (mOp gtD (mCB g_law_take (aCons (mVar 0) (aCons (mC (.int 3)) (aNil)))) (mC (.int 0)))))) (sSet 7 (mOp itemD (mVar 1) (mCB g_law_take (aCons (mVar 0) (aCons (mVar 2) (aNil)))))) (sNil)) (sExpr (mBM appendD (mVar 1) (aCons (mVar 7) (aNil))))))) [some (.ref k), some (.ref f), some (.int (ys.length : Nat)), some (.int w), some (.int h), some (.int y), o6, some (.str s), o8, none] c') QS := fun s o6 o8 c' hr hc hb' hG => by
    refine os_seq (os_if (ok_t (ok_op (ok_var rfl (ok_c ⟨_, _, rfl, _, rfl, fun _ => ?_, fun _ => os_nil (s3 s _ _ _ hr hc (bx_mono hb' (by omega)) hG)⟩)))))
    refine os_set (ok_m1 (ok_c ⟨_, rfl, ok_lc (ok_r1 (ok_acons (ok_var rfl (ok_anil ⟨_, rfl, ⟨by omega, by omega⟩, ?_⟩))))⟩))
    refine comp_ok (fun ds acc c2 => ∃ ks : List Nat, acc = chD ks ∧ ks.all bitB = true ∧ ks.length + ds.length = w ∧ Bx c2 k (n + 1 + ks.length) ∧ Gr k c' c2) ?_ ?_ _ _ _ ⟨[], rfl, rfl, by rw [rangeL_len]; simp, by simpa using hb', Gr.refl k c'⟩
    · rintro acc c2 ⟨ks, rfl, hk1, hk2, hk3, hk4⟩
      rw [List.length_nil] at hk2
      refine Ok.of (join_chD ks (by omega) _) ?_
      exact s3 _ _ _ _ (bitR_mk (by omega) hk1) (hk4.get hfk hc) (bx_mono hk3 (by omega)) (hG.trans hk4)
    · rintro d ds acc c2 ⟨ks, rfl, hk1, hk2, hk3, hk4⟩
      rw [List.length_cons] at hk2
      refine ok_gn ⟨true, _, rfl, ?_⟩
      refine ok_op (ok_lst (ok_acons (ok_c (ok_acons (ok_c (ok_anil ⟨Nat.le_of_ble_eq_true rfl, ?_⟩))))))
      refine ok_cb (ok_acons (ok_var rfl (ok_acons (ok_c (ok_anil (take_gr hk3 (by omega) (by decide) (by decide) fun u c4 u0 u1 b4 G4 l4 => ?_))))))
      refine ok_item_mem u0 u1 fun d hd => ⟨by simp [chD]; omega, ?_⟩
      simp only [List.mem_cons, List.not_mem_nil, or_false] at hd
      rcases hd with rfl | rfl
      · exact ⟨ks ++ [48], by simp [chD]; rfl, by rw [List.all_append, hk1]; rfl, by simp; omega, bx_mono b4 (by simp; omega), hk4.trans G4⟩
      · exact ⟨ks ++ [49], by simp [chD]; rfl, by rw [List.all_append, hk1]; rfl, by simp; omega, bx_mono b4 (by simp; omega), hk4.trans G4⟩
  refine os_seq (os_set (ok_cb (ok_acons (ok_var rfl (ok_acons (ok_op (ok_var rfl (ok_c (Ok.of (show addD (.int (w : Nat)) (.int 1) _ = .ok (.int ((w : Nat) + 1)) _ from rfl) (ok_anil (take_gr hb (by omega) (by omega) (by omega) fun u c2 u0 u1 b2 G2 l2 => ?_)))))))))))
  refine os_seq (os_set (ok_op (ok_op (ok_c (ok_var rfl (Ok.of (mul1 (k := 49) u0 (by omega) _) ?_))))))
  refine ok_op (ok_c (ok_op (ok_var rfl (ok_var rfl (Ok.of (show subD (.int (w : Nat)) (.int u) _ = .ok (.int ((w : Nat) - u)) _ from rfl) (Ok.of (mul1 (k := 48) (by omega) (by omega) _) ?_))))))
  have hR : bitR w (mkS (List.replicate u.toNat 49 ++ List.replicate ((w : Int) - u).toNat 48)) := bitR_mk (by simp; omega) (by rw [List.all_append, all_rep rfl, all_rep rfl]; rfl)
  rw [← app_mk] at hR
  have e4 := hR.1
  rw [Str.length_append] at e4
  refine ok_add_str (by omega) ?_
  exact s2 _ _ _ _ hR (G2.get hfk hc) b2 G2
theorem rows_any {c : Cs} {k : Nat} {n : Int} {Q : D → Cs → Prop} (hb : Bx c k n) (hn : n ≤ 800000)
    (q : ∀ (ys : List Str) (w : Nat) (c' : Cs), RwS ys w → Bx c' k (n + 200) → Gr k c c' → Q (.lst (ys.map D.str)) c') : Ok (g_law_rows [.ref k] c) Q := by
  have hz : sizeLine = 16777216 := sizeLine_eq
  have hlt := bx_lt hb
  refine Ok.fun rfl ?_
  unfold c_law_rows
  refine os_seq (os_par (ok_acons (ok_op (ok_c (ok_cb (ok_acons (ok_var rfl (ok_acons (ok_c (ok_anil (take_gr hb (by omega) (by decide) (by decide) fun a c1 a0 a1 b1 G1 l1 => Ok.of (show addD (.int 1) (.int a) _ = .ok (.int (1 + a)) _ from rfl) ?_)))))))))))
  refine ok_acons (ok_op (ok_c (ok_cb (ok_acons (ok_var rfl (ok_acons (ok_c (ok_anil (take_gr b1 (by omega) (by decide) (by decide) fun b c2 b0 b1' b2 G2 l2 => Ok.of (show addD (.int 1) (.int b) _ = .ok (.int (1 + b)) _ from rfl) ?_)))))))))
  refine ok_acons (ok_cb (ok_acons (ok_var rfl (ok_acons (ok_c (ok_anil (take_gr b2 (by omega) (by decide) (by decide) fun y c3 y0 y1 b3 G3 l3 => ok_anil ⟨_, _, rfl, ?_⟩)))))))
  obtain ⟨w, hw⟩ : ∃ w : Nat, 1 + a = (w : Int) := ⟨(1 + a).toNat, by omega⟩
  obtain ⟨h, hh⟩ : ∃ h : Nat, 1 + b = (h : Int) := ⟨(1 + b).toNat, by omega⟩
  rw [hw, hh]
  have w1 : 1 ≤ w := by omega
  have w8 : w ≤ 8 := by omega
  have h1 : 1 ≤ h := by omega
  have h8 : h ≤ 8 := by omega
  refine os_seq (os_set (ok_lstM (ok_anil ⟨Nat.zero_le _, ?_⟩)))
  have hl3 := bx_lt b3
  have G4 : Gr k c (c3 ++ [Cell.lst []]) := ((G1.trans G2).trans G3).app _
  have b4 := bx_app b3 [Cell.lst []]
  have hf : (c3 ++ [Cell.lst []])[c3.length]? = some (.lst (([] : List Str).map D.str)) := cell_last _
  have hfl : c.length ≤ c3.length := ((G1.trans G2).trans G3).1
  have hfk : c3.length ≠ k := by omega
  generalize c3.length = f at hf hl3 hfl hfk ⊢
  generalize c3 ++ [Cell.lst []] = c4 at hf b4 G4 ⊢
  refine os_seq (os_forR h (fun rest l c' => (∃ o2 o6 o7 o8, l = [some (.ref k), some (.ref f), o2, some (.int w), some (.int h), some (.int y), o6, o7, o8, none]) ∧ ∃ ys : List Str, rest = (List.range h).drop ys.length ∧ ys.length ≤ h ∧ c'[f]? = some (.lst (ys.map D.str)) ∧ (∀ s ∈ ys, bitR w s) ∧ Bx c' k (n + 3 + 20 * ys.length) ∧ Gr k c c') (by omega) (ok_acons (ok_var rfl (ok_anil ⟨rfl, rfl⟩))) ⟨⟨_, _, _, _, rfl⟩, [], rfl, Nat.zero_le _, hf, fun s hs => absurd hs List.not_mem_nil, bx_mono b4 (by simp; omega), G4⟩ ?_ ?_)
  · rintro l c' ⟨⟨o2, o6, o7, o8, rfl⟩, ys, hd, hle, hc, hs, hb', hG⟩
    have hlen : ys.length = h := by
      have := congrArg List.length hd
      simp at this
      omega
    refine os_ret (ok_frz (ok_var rfl ⟨_, _, rfl, hc, ?_⟩))
    exact q ys w _ ⟨by omega, by omega, w1, w8, fun s h => (hs s h).1, fun s h => (hs s h).2⟩ (bx_set (bx_mono hb' (by omega)) hfk _) (hG.set hfl _)
  · rintro x rest l c' ⟨⟨o2, o6, o7, o8, rfl⟩, ys, hd, hle, hc, hs, hb', hG⟩
    have hlt2 : ys.length < h := by
      have := congrArg List.length hd
      simp at this
      omega
    have hdr : (List.range h).drop ys.length = ys.length :: (List.range h).drop (ys.length + 1) := by
      rw [List.drop_eq_getElem_cons (by simpa using hlt2)]
      simp
    rw [hdr] at hd
    obtain ⟨rfl, rfl⟩ := List.cons.inj hd
    refine ok_gn ?_
    exact row_step w1 w8 (by omega) hfk hs hc hb' (by omega) fun s o6 o8 c2 hr hc2 hb2 hG2 => ⟨⟨_, _, _, _, rfl⟩, ys ++ [s], by simp, by simp; omega, by rw [List.getElem?_set_self (List.getElem?_eq_some_iff.mp hc2).1, List.map_append]; rfl, fun z hz => by
      rcases List.mem_append.mp hz with hz | hz
      · exact hs z hz
      · rw [List.mem_singleton.mp hz]; exact hr, bx_set (bx_mono hb2 (by simp; omega)) hfk _, (hG.trans hG2).set hfl _⟩

section
variable {ys : List Str} {c : Cs} {Q : D → Cs → Prop} {g : List D → Cs → R D} {g1 : D → Cs → R D} {g0 : D → D → Cs → R D} {y : D}
end
/-! ### ways that lead back, in plain lists -/
/-! ### the scores -/
theorem sgn_at {ys : List Str} {w i j : Nat} (h : RwS ys w) (hi : i < w) (hj : j < ys.length) : ∃ k, bitB k = true ∧ (ys.getD j "").cps.toList.getD i 0 = k ∧ ∃ hl : i < ys[j].cps.toList.length, ys[j].cps.toList[i] = k := by
  have hm := List.getElem_mem hj
  obtain ⟨hl, e, hb⟩ := h.getD hi hm
  refine ⟨_, hb, ?_, hl, rfl⟩
  rw [← e]
  simp [hj]
/-! ### what the scores say -/
/-! ### what can be shown -/
structure Sh (ds : List D) (ps : List PyData) (W dp : Nat) : Prop where
  py : ∀ n c, dp ≤ n → mapO (toPyC n c) ds = some ps
  b : bPs ps = true
  w : wPs ps ≤ W
  d : PyData.depthAll ps ≤ dp
theorem mapO_app2 {α β : Type} {f : α → Option β} : ∀ {xs ys : List α} {us vs : List β}, mapO f xs = some us → mapO f ys = some vs → mapO f (xs ++ ys) = some (us ++ vs)
  | [], ys, us, vs, e, e2 => by cases e; exact e2
  | x :: xs, ys, us, vs, e, e2 => by
    unfold mapO at e
    cases q : f x with
    | none => rw [q] at e; cases e
    | some u =>
      rw [q] at e
      cases q2 : mapO f xs with
      | none => rw [q2] at e; cases e
      | some us2 =>
        rw [q2] at e
        cases e
        show mapO f (x :: (xs ++ ys)) = _
        unfold mapO
        rw [q, mapO_app2 q2 e2]
        rfl
theorem bPs_app : ∀ {us vs : List PyData}, bPs us = true → bPs vs = true → bPs (us ++ vs) = true
  | [], _, _, h => h
  | u :: us, vs, h, h2 => by
    simp only [bPs, Bool.and_eq_true, List.cons_append] at h ⊢
    exact ⟨h.1, bPs_app h.2 h2⟩
theorem wPs_app : ∀ us vs : List PyData, wPs (us ++ vs) = wPs us + wPs vs
  | [], vs => by simp [wPs]
  | u :: us, vs => by
    simp only [wPs, List.cons_append, wPs_app us vs]
    omega
theorem dP_app : ∀ us vs : List PyData, PyData.depthAll (us ++ vs) = max (PyData.depthAll us) (PyData.depthAll vs)
  | [], vs => by simp [PyData.depthAll]
  | u :: us, vs => by
    simp only [PyData.depthAll, List.cons_append, dP_app us vs]
    omega
theorem Sh.nil : Sh [] [] 0 0 := ⟨fun _ _ _ => rfl, rfl, Nat.le_refl _, Nat.le_refl _⟩
theorem Sh.app {xs ys : List D} {us vs : List PyData} {W1 W2 d1 d2 : Nat} (h : Sh xs us W1 d1) (g : Sh ys vs W2 d2) : Sh (xs ++ ys) (us ++ vs) (W1 + W2) (max d1 d2) :=
  ⟨fun n c hn => mapO_app2 (h.py n c (by omega)) (g.py n c (by omega)), bPs_app h.b g.b, by rw [wPs_app]; have := h.w; have := g.w; omega, by rw [dP_app]; have := h.d; have := g.d; omega⟩
theorem Sh.lift {xs : List D} {us : List PyData} {W1 W2 d1 d2 : Nat} (h : Sh xs us W1 d1) (hW : W1 ≤ W2) (hd : d1 ≤ d2) : Sh xs us W2 d2 :=
  ⟨fun n c hn => h.py n c (by omega), h.b, by have := h.w; omega, by have := h.d; omega⟩
theorem Sh.cons {x : D} {xs : List D} {u : PyData} {us : List PyData} {W1 W2 d1 d2 : Nat} (h : Sh [x] [u] W1 d1) (g : Sh xs us W2 d2) : Sh (x :: xs) (u :: us) (W1 + W2) (max d1 d2) := h.app g
theorem Sh.list {xs : List D} {us : List PyData} {W dp : Nat} (h : Sh xs us W dp) : Sh [.lst xs] [.list us] (W + 4) (dp + 1) :=
  ⟨fun n c hn => by
    obtain ⟨n, rfl⟩ : ∃ k, n = k + 1 := ⟨n - 1, by omega⟩
    have e : toPyC (n + 1) c (.lst xs) = some (.list us) := by
      show (mapO (toPyC n c) xs).map PyData.list = _
      rw [h.py n c (by omega)]
      rfl
    simp only [mapO, e], by
    show (bPs us && true) = true
    rw [h.b]; rfl, by
    show wPs us + 2 + 2 + 0 ≤ _
    have := h.w; omega, by
    have := h.d
    simp only [PyData.depthAll, PyData.depth]
    omega⟩
theorem Sh.tup {xs : List D} {us : List PyData} {W dp : Nat} (h : Sh xs us W dp) : Sh [.tup xs] [.tuple us] (W + 5) (dp + 1) :=
  ⟨fun n c hn => by
    obtain ⟨n, rfl⟩ : ∃ k, n = k + 1 := ⟨n - 1, by omega⟩
    have e : toPyC (n + 1) c (.tup xs) = some (.tuple us) := by
      show (mapO (toPyC n c) xs).map PyData.tuple = _
      rw [h.py n c (by omega)]
      rfl
    simp only [mapO, e], by
    show (bPs us && true) = true
    rw [h.b]; rfl, by
    show wPs us + 3 + 2 + 0 ≤ _
    have := h.w; omega, by
    have := h.d
    simp only [PyData.depthAll, PyData.depth]
    omega⟩
theorem Sh.int {i : Int} (h : i.natAbs < 10 ^ 40) : Sh [.int i] [.int i] 47 1 :=
  ⟨fun n c hn => by
    obtain ⟨n, rfl⟩ : ∃ k, n = k + 1 := ⟨n - 1, by omega⟩
    rfl, by
    show (decide (i.natAbs < 10 ^ 40) && true) = true
    rw [decide_eq_true h]; rfl, Nat.le_refl _, by simp [PyData.depthAll, PyData.depth]⟩
theorem Sh.nat {k : Nat} (h : k ≤ 1000) : Sh [.int (k : Nat)] [.int (k : Nat)] 47 1 := Sh.int (Nat.lt_of_le_of_lt (show (k : Int).natAbs ≤ 1000 by omega) (by decide +kernel))
theorem Sh.bl (b : Bool) : Sh [.bl b] [.bool b] 7 1 :=
  ⟨fun n c hn => by
    obtain ⟨n, rfl⟩ : ∃ k, n = k + 1 := ⟨n - 1, by omega⟩
    rfl, rfl, Nat.le_refl _, by simp [PyData.depthAll, PyData.depth]⟩
theorem Sh.str {s : Str} {L : Nat} (hl : s.length ≤ L) (hb : ∀ k ∈ s.cps.toList, k < 1114112) : Sh [.str s] [.str s] (10 * L + 4) 1 :=
  ⟨fun n c hn => by
    obtain ⟨n, rfl⟩ : ∃ k, n = k + 1 := ⟨n - 1, by omega⟩
    rfl, by
    show ((s.cps.toList.all fun k => decide (k < 1114112)) && true) = true
    rw [List.all_eq_true.mpr fun k hk => decide_eq_true (hb k hk)]; rfl, by
    show 10 * s.length + 2 + 2 + 0 ≤ _
    omega, by simp [PyData.depthAll, PyData.depth]⟩
theorem Sh.map {α : Type} {f : α → D} {g : α → PyData} {W dp : Nat} : ∀ {xs : List α}, (∀ x ∈ xs, Sh [f x] [g x] W dp) → Sh (xs.map f) (xs.map g) (W * xs.length) dp
  | [], _ => Sh.nil.lift (Nat.zero_le _) (Nat.zero_le _)
  | x :: xs, h => ((h x List.mem_cons_self).cons (Sh.map fun y hy => h y (List.mem_cons_of_mem _ hy))).lift (by rw [List.length_cons, Nat.mul_succ]; omega) (by omega)
theorem Sh.th (t : Th) (h : t.2 ≤ 1000) : Sh [thD t] [thP t] 100 2 := by
  have hk : (kdS t.1).length ≤ 4 ∧ ∀ k ∈ (kdS t.1).cps.toList, k < 1114112 := by
    cases t.1 <;> exact ⟨by decide +kernel, by decide +kernel⟩
  exact (((Sh.str hk.1 hk.2).cons (Sh.nat h)).tup).lift (by decide) (by decide)
theorem Sh.repr {xs : List D} {us : List PyData} {W dp : Nat} (h : Sh xs us W dp) (hW : W ≤ 16000000) (hd : dp ≤ 20) (c : Cs) : reprX [.lst xs] c = .ok (.str (PyData.list us).shown) c := by
  have h2 := h.list
  have e := h2.py 30 c (by omega)
  simp only [mapO] at e
  cases q : toPyC 30 c (.lst xs) with
  | none => rw [q] at e; cases e
  | some p =>
    rw [q] at e
    have hp : p = .list us := by
      have := Option.some.inj e
      exact (List.cons.inj this).1
    subst hp
    have hb := h2.b
    have hw := h2.w
    have hd2 := h2.d
    show reprQ (.lst xs) c = _
    unfold reprQ
    rw [q]
    refine if_pos (okR_w ?_ ?_ ?_)
    · simpa [bPs] using hb
    · simp only [wPs] at hw; omega
    · simp only [PyData.depthAll] at hd2; omega

theorem bx_pfx {c c' : Cs} {k : Nat} {n : Int} (h : Bx c k n) (p : Pfx c c') : Bx c' k n := by
  obtain ⟨y, rfl⟩ := p
  exact bx_app h y
/-! ### lists of whole numbers -/
/-! the parts of a draft -/
end

inductive Rch (nx : Th → List Th) (a : Th) : Th → Prop where
  | refl : Rch nx a a
  | step {x y : Th} (h : Rch nx a x) (e : y ∈ nx x) : Rch nx a y
theorem Rch.trans {nx : Th → List Th} {a b : Th} (h : Rch nx a b) : ∀ {d : Th}, Rch nx b d → Rch nx a d := fun g => by
  induction g with
  | refl => exact h
  | step _ e ih => exact .step ih e
/-- of no more than that many -/
theorem sub_len : ∀ {s t : List Th}, s.Nodup → (∀ x ∈ s, x ∈ t) → s.length ≤ t.length
  | [], t, _, _ => Nat.zero_le _
  | x :: s, t, hn, hs => by
    rw [List.nodup_cons] at hn
    have hx := hs x List.mem_cons_self
    have h := sub_len (s := s) (t := t.erase x) hn.2 fun y hy => by
      refine (List.mem_erase_of_ne ?_).mpr (hs y (List.mem_cons_of_mem _ hy))
      intro e; subst e; exact hn.1 hy
    have := List.length_erase_of_mem hx
    have hp : 0 < t.length := List.length_pos_of_mem hx
    rw [List.length_cons]
    omega
/-- what the search holds -/
structure Srch (nx : Th → List Th) (T : List Th) (a : Th) (s : List Th) (k : Nat) : Prop where
  nd : s.Nodup
  sub : ∀ x ∈ s, x ∈ T
  st : a ∈ s
  rc : ∀ x ∈ s, Rch nx a x
  dn : ∀ i x, i < k → s[i]? = some x → ∀ y ∈ nx x, y ∈ s
  le : k ≤ s.length
theorem Srch.start {nx : Th → List Th} {T : List Th} {a : Th} (h : a ∈ T) : Srch nx T a [a] 0 :=
  ⟨by simp, fun x hx => by rw [List.mem_singleton.mp hx]; exact h, by simp, fun x hx => by rw [List.mem_singleton.mp hx]; exact .refl, fun i x hi => absurd hi (Nat.not_lt_zero _), Nat.zero_le _⟩
theorem Srch.next {nx : Th → List Th} {T : List Th} {a x : Th} {s : List Th} {k : Nat} (h : Srch nx T a s k) (hx : s[k]? = some x) (hn : (nx x).Nodup) (hT : ∀ y ∈ nx x, y ∈ T) :
    Srch nx T a (s ++ (nx x).filter fun y => !decide (y ∈ s)) (k + 1) := by
  have hk := (List.getElem?_eq_some_iff.mp hx).1
  have hxs : x ∈ s := List.mem_of_getElem? hx
  refine ⟨?_, fun y hy => ?_, List.mem_append_left _ h.st, fun y hy => ?_, fun i z hi hz y hy => ?_, by rw [List.length_append]; omega⟩
  · refine List.nodup_append.mpr ⟨h.nd, hn.filter _, fun y hy z hz e => ?_⟩
    subst e
    have := (List.mem_filter.mp hz).2
    simp at this
    exact this hy
  · rcases List.mem_append.mp hy with q | q
    · exact h.sub y q
    · exact hT y (List.mem_filter.mp q).1
  · rcases List.mem_append.mp hy with q | q
    · exact h.rc y q
    · exact .step (h.rc x hxs) (List.mem_filter.mp q).1
  · have hil : i < s.length := by omega
    rw [List.getElem?_append_left hil] at hz
    by_cases e : i = k
    · subst e
      rw [hx] at hz
      cases hz
      by_cases q : y ∈ s
      · exact List.mem_append_left _ q
      · exact List.mem_append_right _ (List.mem_filter.mpr ⟨hy, by simp [q]⟩)
    · exact List.mem_append_left _ (h.dn i z (by omega) hz y hy)
theorem Srch.all {nx : Th → List Th} {T : List Th} {a : Th} {s : List Th} {k : Nat} (h : Srch nx T a s k) (hk : s.length ≤ k) {y : Th} : y ∈ s ↔ Rch nx a y := by
  refine ⟨h.rc y, fun r => ?_⟩
  induction r with
  | refl => exact h.st
  | @step x y r e ih =>
    obtain ⟨i, hi⟩ := List.mem_iff_getElem?.mp ih
    exact h.dn i x (by have := (List.getElem?_eq_some_iff.mp hi).1; omega) hi y e
theorem Srch.len {nx : Th → List Th} {T : List Th} {a : Th} {s : List Th} {k : Nat} (h : Srch nx T a s k) : s.length ≤ T.length := sub_len h.nd h.sub
/-! ### what is reached in a cloth, turned about, with exchanged kinds -/
theorem blw_mem {ys : List Str} {w : Nat} {a t : Th} : t ∈ blwL ys w a ↔ inB2 w ys.length t ∧ t.1 ≠ a.1 ∧ ovr ys a t = true := by
  unfold blwL
  rw [List.mem_filter, crs_mem, and_assoc]
theorem blw_in {ys : List Str} {w : Nat} {a t : Th} (h : t ∈ blwL ys w a) : t ∈ thL w ys.length := thL_mem.mpr (blw_mem.mp h).1
theorem blw_nodup (ys : List Str) (w : Nat) (a : Th) : (blwL ys w a).Nodup := ((thL_nodup w ys.length).filter _).filter _
theorem blw_len16 {ys : List Str} {w : Nat} {a : Th} (hr : RwS ys w) : (blwL ys w a).length ≤ 16 := by
  have n8 := hr.n8
  have w8 := hr.w8
  have h1 := crs_len w ys.length a
  have h2 : (blwL ys w a).length ≤ (crsL w ys.length a).length := List.length_filter_le _ _
  omega
theorem thL_len16 {ys : List Str} {w : Nat} (hr : RwS ys w) : (thL w ys.length).length ≤ 16 := by
  have n8 := hr.n8
  have w8 := hr.w8
  rw [thL_len]
  omega
/-! ### ways of so many steps, and the search for the shortest ones -/
inductive Way (nx : Th → List Th) (a : Th) : Nat → Th → Prop where
  | nil : Way nx a 0 a
  | step {m : Nat} {x y : Th} (h : Way nx a m x) (e : y ∈ nx x) : Way nx a (m + 1) y
abbrev Ent := Th × Option Th × Nat
def newE (L : List Ent) (x : Th) (n : Nat) (ps : List Th) : List Ent := (ps.filter fun y => !decide (y ∈ L.map (·.1))).map fun y => (y, some x, n + 1)
theorem newE_mem {L : List Ent} {x : Th} {n : Nat} {ps : List Th} {e : Ent} : e ∈ newE L x n ps ↔ e.1 ∈ ps ∧ e.1 ∉ L.map (·.1) ∧ e.2.1 = some x ∧ e.2.2 = n + 1 := by
  obtain ⟨y, p, m⟩ := e
  unfold newE
  rw [List.mem_map]
  constructor
  · rintro ⟨z, hz, e⟩
    cases e
    obtain ⟨h1, h2⟩ := List.mem_filter.mp hz
    exact ⟨h1, fun q => (by rw [decide_eq_true q] at h2; cases h2), rfl, rfl⟩
  · rintro ⟨h1, h2, h3, h4⟩
    cases h3; cases h4
    exact ⟨y, List.mem_filter.mpr ⟨h1, by rw [decide_eq_false h2]; rfl⟩, rfl⟩
/-- the entries of the search: each thread, the one ahead of it, the number of steps -/
structure Bfs (nx : Th → List Th) (T : List Th) (a : Th) (L : List Ent) (k : Nat) : Prop where
  nd : (L.map (·.1)).Nodup
  sub : ∀ e ∈ L, e.1 ∈ T
  hd : L[0]? = some (a, none, 0)
  par : ∀ e ∈ L, (e.1 = a ∧ e.2.1 = none ∧ e.2.2 = 0) ∨ ∃ u p n, e.2.1 = some u ∧ (u, p, n) ∈ L ∧ e.2.2 = n + 1 ∧ e.1 ∈ nx u
  mono : L.Pairwise fun e f => e.2.2 ≤ f.2.2
  top : ∀ e ∈ L, ∀ x, L[k]? = some x → e.2.2 ≤ x.2.2 + 1
  idx : ∀ (i : Nat) e, L[i]? = some e → e.2.2 ≤ i
  dn : ∀ (i : Nat) e, i < k → L[i]? = some e → ∀ y ∈ nx e.1, ∃ p n, (y, p, n) ∈ L ∧ n ≤ e.2.2 + 1
  le : k ≤ L.length
  wy : ∀ e ∈ L, Way nx a e.2.2 e.1
theorem Bfs.start {nx : Th → List Th} {T : List Th} {a : Th} (h : a ∈ T) : Bfs nx T a [(a, none, 0)] 0 := by
  have one : ∀ e ∈ ([(a, none, 0)] : List Ent), e = (a, none, 0) := fun e he => List.mem_singleton.mp he
  refine ⟨by simp, fun e he => by rw [one e he]; exact h, rfl, fun e he => .inl (by rw [one e he]; exact ⟨rfl, rfl, rfl⟩), by simp, fun e he x _ => by rw [one e he]; exact Nat.zero_le _, fun i e he => ?_, fun i e hi => absurd hi (Nat.not_lt_zero _), Nat.zero_le _, fun e he => by rw [one e he]; exact .nil⟩
  rw [one e (List.mem_of_getElem? he)]
  exact Nat.zero_le _
theorem Bfs.next {nx : Th → List Th} {T : List Th} {a x : Th} {p : Option Th} {n : Nat} {L : List Ent} {k : Nat} (h : Bfs nx T a L k) (hx : L[k]? = some (x, p, n)) (hn : (nx x).Nodup) (hT : ∀ y ∈ nx x, y ∈ T) :
    Bfs nx T a (L ++ newE L x n (nx x)) (k + 1) := by
  have hk := (List.getElem?_eq_some_iff.mp hx).1
  have hxm : (x, p, n) ∈ L := List.mem_of_getElem? hx
  have hnk : n ≤ k := h.idx k _ hx
  have htop : ∀ e ∈ L ++ newE L x n (nx x), e.2.2 ≤ n + 1 := fun e he => by
    rcases List.mem_append.mp he with q | q
    · exact h.top e q _ hx
    · exact Nat.le_of_eq (newE_mem.mp q).2.2.2
  have hmono : (L ++ newE L x n (nx x)).Pairwise fun e f => e.2.2 ≤ f.2.2 := by
    refine List.pairwise_append.mpr ⟨h.mono, ?_, fun e he f hf => ?_⟩
    · refine List.pairwise_iff_getElem.mpr fun i j hi hj _ => ?_
      have h1 := (newE_mem.mp (List.getElem_mem hi)).2.2.2
      have h2 := (newE_mem.mp (List.getElem_mem hj)).2.2.2
      omega
    · have h1 := h.top e he _ hx
      have h2 := (newE_mem.mp hf).2.2.2
      simp only at h1
      omega
  refine ⟨?_, fun e he => ?_, ?_, fun e he => ?_, hmono, fun e he z hz => ?_, fun i e he => ?_, fun i e hi he y hy => ?_, by rw [List.length_append]; omega, fun e he => ?_⟩
  · rw [List.map_append]
    refine List.nodup_append.mpr ⟨h.nd, ?_, fun y hy z hz q => ?_⟩
    · unfold newE
      rw [List.map_map]
      have : ((fun e : Ent => e.1) ∘ fun y => ((y, some x, n + 1) : Ent)) = id := rfl
      rw [this, List.map_id]
      exact hn.filter _
    · subst q
      obtain ⟨e, he, rfl⟩ := List.mem_map.mp hz
      exact (newE_mem.mp he).2.1 hy
  · rcases List.mem_append.mp he with q | q
    · exact h.sub e q
    · exact hT _ (newE_mem.mp q).1
  · rw [List.getElem?_append_left (by omega)]
    exact h.hd
  · rcases List.mem_append.mp he with q | q
    · rcases h.par e q with r | ⟨u, p2, m, h1, h2, h3, h4⟩
      · exact .inl r
      · exact .inr ⟨u, p2, m, h1, List.mem_append_left _ h2, h3, h4⟩
    · obtain ⟨h1, _, h3, h4⟩ := newE_mem.mp q
      exact .inr ⟨x, p, n, h3, List.mem_append_left _ hxm, h4, h1⟩
  · have h1 := htop e he
    obtain ⟨hl, hz⟩ := List.getElem?_eq_some_iff.mp hz
    have hkl : k < (L ++ newE L x n (nx x)).length := by omega
    have h2 := List.pairwise_iff_getElem.mp hmono k (k + 1) hkl hl (Nat.lt_succ_self k)
    rw [List.getElem_append_left hk, (List.getElem?_eq_some_iff.mp hx).2, hz] at h2
    simp only at h2
    omega
  · by_cases hi : i < L.length
    · rw [List.getElem?_append_left hi] at he
      exact h.idx i e he
    · have := htop e (List.mem_of_getElem? he)
      omega
  · have hil : i < L.length := by omega
    rw [List.getElem?_append_left hil] at he
    by_cases q : i = k
    · subst q
      rw [hx] at he
      cases he
      by_cases r : y ∈ L.map (·.1)
      · obtain ⟨f, hf, rfl⟩ := List.mem_map.mp r
        exact ⟨f.2.1, f.2.2, List.mem_append_left _ hf, h.top f hf _ hx⟩
      · exact ⟨some x, n + 1, List.mem_append_right _ (newE_mem.mpr ⟨hy, r, rfl, rfl⟩), Nat.le_refl _⟩
    · obtain ⟨p2, m, h1, h2⟩ := h.dn i e (by omega) he y hy
      exact ⟨p2, m, List.mem_append_left _ h1, h2⟩
  · rcases List.mem_append.mp he with q | q
    · exact h.wy e q
    · obtain ⟨h1, _, _, h4⟩ := newE_mem.mp q
      rw [h4]
      exact .step (h.wy _ hxm) h1
theorem Bfs.len {nx : Th → List Th} {T : List Th} {a : Th} {L : List Ent} {k : Nat} (h : Bfs nx T a L k) : L.length ≤ T.length := by
  have := sub_len h.nd fun x hx => by
    obtain ⟨e, he, rfl⟩ := List.mem_map.mp hx
    exact h.sub e he
  simpa using this
theorem Bfs.uniq {nx : Th → List Th} {T : List Th} {a : Th} {L : List Ent} {k : Nat} (h : Bfs nx T a L k) {e f : Ent} (he : e ∈ L) (hf : f ∈ L) (q : e.1 = f.1) : e = f := by
  obtain ⟨i, hi⟩ := List.mem_iff_getElem?.mp he
  obtain ⟨j, hj⟩ := List.mem_iff_getElem?.mp hf
  have hi' := (List.getElem?_eq_some_iff.mp hi).1
  have hij : i = j := (List.getElem?_inj (l := L.map (·.1)) (by simpa using hi') h.nd).mp (by rw [List.getElem?_map, List.getElem?_map, hi, hj]; simp [q])
  subst hij
  rw [hi] at hj
  exact Option.some.inj hj
theorem Bfs.low {nx : Th → List Th} {T : List Th} {a : Th} {L : List Ent} {k : Nat} (h : Bfs nx T a L k) (hk : L.length ≤ k) {m : Nat} {y : Th} (r : Way nx a m y) : ∃ p n, (y, p, n) ∈ L ∧ n ≤ m := by
  induction r with
  | nil => exact ⟨none, 0, List.mem_of_getElem? h.hd, Nat.le_refl _⟩
  | @step m x y r e ih =>
    obtain ⟨p, n, h1, h2⟩ := ih
    obtain ⟨i, hi⟩ := List.mem_iff_getElem?.mp h1
    have hi' := (List.getElem?_eq_some_iff.mp hi).1
    obtain ⟨p2, n2, h3, h4⟩ := h.dn i _ (by omega) hi y e
    exact ⟨p2, n2, h3, by simp only at h4; omega⟩
theorem Bfs.least {nx : Th → List Th} {T : List Th} {a : Th} {L : List Ent} {k : Nat} (h : Bfs nx T a L k) (hk : L.length ≤ k) {e : Ent} (he : e ∈ L) {m : Nat} (r : Way nx a m e.1) : e.2.2 ≤ m := by
  obtain ⟨p, n, h1, h2⟩ := h.low hk r
  rw [h.uniq he h1 rfl]
  exact h2
theorem Bfs.lt {nx : Th → List Th} {T : List Th} {a : Th} {L : List Ent} {k : Nat} (h : Bfs nx T a L k) {e : Ent} (he : e ∈ L) : e.2.2 < T.length := by
  obtain ⟨i, hi⟩ := List.mem_iff_getElem?.mp he
  have h1 := h.idx i e hi
  have h2 := (List.getElem?_eq_some_iff.mp hi).1
  have h3 := h.len
  omega
/-! ### the same, as a function -/
def bfsN (nx : Th → List Th) : Nat → List Ent → Nat → List Ent
  | 0, L, _ => L
  | f + 1, L, k => match L[k]? with
    | none => L
    | some e => bfsN nx f (L ++ newE L e.1 e.2.2 (nx e.1)) (k + 1)
theorem bfsN_end (nx : Th → List Th) {f : Nat} {L : List Ent} {k : Nat} (h : L.length ≤ k) : bfsN nx f L k = L := by
  cases f with
  | zero => rfl
  | succ f => unfold bfsN; rw [List.getElem?_eq_none_iff.mpr h]
theorem bfsN_step (nx : Th → List Th) {f : Nat} {L : List Ent} {k : Nat} {x : Th} {p : Option Th} {n : Nat} (h : L[k]? = some (x, p, n)) : bfsN nx (f + 1) L k = bfsN nx f (L ++ newE L x n (nx x)) (k + 1) := by
  rw [bfsN, h]
def bfsL (nx : Th → List Th) (a : Th) : List Ent := bfsN nx 40 [(a, none, 0)] 0
def parO (L : List Ent) (u : Th) : Option Th := (L.find? fun e => decide (e.1 = u)).bind (·.2.1)
theorem Bfs.par_of {nx : Th → List Th} {T : List Th} {a : Th} {L : List Ent} {k : Nat} (h : Bfs nx T a L k) {e : Ent} (he : e ∈ L) : parO L e.1 = e.2.1 := by
  unfold parO
  cases q : L.find? fun f => decide (f.1 = e.1) with
  | none =>
    have := List.find?_eq_none.mp q e he
    simp at this
  | some f =>
    have h1 := List.mem_of_find?_eq_some q
    have h2 : f.1 = e.1 := by simpa using List.find?_some q
    rw [h.uniq h1 he h2]
    rfl
def backN (L : List Ent) : Nat → Th → List Th → List Th
  | 0, _, acc => acc
  | f + 1, u, acc => match parO L u with
    | none => acc
    | some v => backN L f v (v :: acc)
/-- each one lies behind the one ahead of it -/
def Lnk (nx : Th → List Th) : List Th → Prop
  | x :: y :: r => y ∈ nx x ∧ Lnk nx (y :: r)
  | _ => True
theorem Lnk.at {nx : Th → List Th} : ∀ {P : List Th} {i : Nat} {x y : Th}, Lnk nx P → P[i]? = some x → P[i + 1]? = some y → y ∈ nx x
  | [], i, x, y, _, h, _ => by simp at h
  | [z], i, x, y, _, _, h => by simp at h
  | z :: u :: r, 0, x, y, h, h1, h2 => by
    cases h1; cases h2; exact h.1
  | z :: u :: r, i + 1, x, y, h, h1, h2 => Lnk.at (P := u :: r) (i := i) h.2 h1 h2
/-! ### lengths by relaxation -/
structure RI (nx : Th → List Th) (a : Th) (F : Th → Nat) : Prop where
  st : F a ≤ 1
  lo : ∀ t, 1 ≤ F t
  hi : ∀ t, F t ≤ 99
  wy : ∀ t, F t = 99 ∨ ∃ m, Way nx a m t ∧ F t = m + 1
def PL (nx : Th → List Th) (a : Th) (l : Nat) (F : Th → Nat) (T : List Th) : Prop := ∀ m, m ≤ l → ∀ t ∈ T, Way nx a m t → F t ≤ m + 1
def ini (a : Th) : Th → Nat := fun t => if t = a then 1 else 99
theorem ini_ri (nx : Th → List Th) (a : Th) : RI nx a (ini a) := by
  refine ⟨by simp [ini], fun t => ?_, fun t => ?_, fun t => ?_⟩ <;> unfold ini <;> split
  · omega
  · omega
  · omega
  · omega
  · next h => exact .inr ⟨0, h ▸ .nil, rfl⟩
  · exact .inl rfl
theorem ini_pl (nx : Th → List Th) (a : Th) (T : List Th) : PL nx a 0 (ini a) T := fun m hm t _ w => by
  obtain rfl : m = 0 := by omega
  cases w
  simp [ini]
def put1 (F : Th → Nat) (x : Th) (v : Nat) : Th → Nat := fun t => if t = x then v else F t
theorem put1_le {F : Th → Nat} {x : Th} {v : Nat} (h : v ≤ F x) (t : Th) : put1 F x v t ≤ F t := by
  unfold put1
  split
  · next q => rw [q]; exact h
  · exact Nat.le_refl _
theorem PL.put {nx : Th → List Th} {a x : Th} {l v : Nat} {F : Th → Nat} {T : List Th} (h : PL nx a l F T) (hv : v ≤ F x) : PL nx a l (put1 F x v) T := fun m hm t ht w => Nat.le_trans (put1_le hv t) (h m hm t ht w)
theorem RI.put {nx : Th → List Th} {a x : Th} {v : Nat} {F : Th → Nat} (h : RI nx a F) (hv : v ≤ F x) (he : v = F x ∨ ∃ u, x ∈ nx u ∧ v = F u + 1) : RI nx a (put1 F x v) := by
  have h1 : 1 ≤ v := by
    rcases he with e | ⟨u, _, e⟩
    · rw [e]; exact h.lo x
    · omega
  refine ⟨Nat.le_trans (put1_le hv a) h.st, fun t => ?_, fun t => Nat.le_trans (put1_le hv t) (h.hi t), fun t => ?_⟩
  · unfold put1
    split
    · exact h1
    · exact h.lo t
  · unfold put1
    split
    · next q =>
      subst q
      rcases he with e | ⟨u, hu, e⟩
      · rw [e]; exact h.wy t
      · rcases h.wy u with e2 | ⟨m, w, e2⟩
        · have := h.hi t; omega
        · exact .inr ⟨m + 1, .step w hu, by omega⟩
    · exact h.wy t
theorem way_in {nx : Th → List Th} {T : List Th} {a t : Th} {m : Nat} (ha : a ∈ T) (hT : ∀ u, ∀ y ∈ nx u, y ∈ T) (w : Way nx a m t) : t ∈ T := by
  cases w with
  | nil => exact ha
  | step _ e => exact hT _ _ e
theorem pl_one {nx : Th → List Th} {T : List Th} {a x : Th} {l v m : Nat} {F : Th → Nat} (h : PL nx a l F T) (hr : RI nx a F) (ha : a ∈ T) (hT : ∀ u, ∀ y ∈ nx u, y ∈ T) (hv : v ≤ F x) (hu : ∀ u ∈ T, x ∈ nx u → v ≤ F u + 1)
    (hm : m ≤ l + 1) (w : Way nx a m x) : v ≤ m + 1 := by
  cases w with
  | nil => have := hr.st; omega
  | @step m u _ w e =>
    have h1 := way_in ha hT w
    have h2 := hu u h1 e
    have h3 := h m (by omega) u h1 w
    omega
/-! ### the path -/
def pathOf (nx : Th → List Th) (a t : Th) : List Th := backN (bfsL nx a) 40 t [t]
structure Pok (nx : Th → List Th) (T : List Th) (a t : Th) (m : Nat) (P : List Th) : Prop where
  len : P.length = m + 1
  hd : P[0]? = some a
  ls : P[m]? = some t
  lk : Lnk nx P
  sub : ∀ x ∈ P, x ∈ T
/-- a path that is being followed back -/
structure Bk (nx : Th → List Th) (T : List Th) (a t : Th) (L : List Ent) (m : Nat) (u : Th) (n : Nat) (P : List Th) : Prop where
  mem : ∃ p, (u, p, n) ∈ L
  len : n + P.length = m + 1
  hd : P[0]? = some u
  ls : P.getLast? = some t
  lk : Lnk nx P
  sub : ∀ x ∈ P, x ∈ T
theorem Bk.start {nx : Th → List Th} {T : List Th} {a t : Th} {L : List Ent} {k m : Nat} (h : Bfs nx T a L k) (ht : ∃ p, (t, p, m) ∈ L) : Bk nx T a t L m t m [t] :=
  ⟨ht, rfl, rfl, rfl, trivial, fun x hx => by rw [List.mem_singleton.mp hx]; obtain ⟨p, hp⟩ := ht; exact h.sub _ hp⟩
theorem Bk.zero {nx : Th → List Th} {T : List Th} {a t u : Th} {L : List Ent} {k m n : Nat} {P : List Th} (h : Bfs nx T a L k) (b : Bk nx T a t L m u n P) (hu : u = a) : parO L u = none ∧ Pok nx T a t m P := by
  obtain ⟨p, hp⟩ := b.mem
  have e := h.uniq hp (List.mem_of_getElem? h.hd) hu
  cases e
  have e2 := h.par_of hp
  have hl := b.len
  refine ⟨e2, by omega, b.hd, ?_, b.lk, b.sub⟩
  have := b.ls
  rw [List.getLast?_eq_getElem?] at this
  rw [← this]
  congr 1
  omega
theorem Bk.next {nx : Th → List Th} {T : List Th} {a t u : Th} {L : List Ent} {k m n : Nat} {P : List Th} (h : Bfs nx T a L k) (b : Bk nx T a t L m u n P) (hu : u ≠ a) : ∃ v p n', (u, some v, n) ∈ L ∧ parO L u = some v ∧ n = n' + 1 ∧ (v, p, n') ∈ L ∧ Bk nx T a t L m v n' (v :: P) := by
  obtain ⟨p, hp⟩ := b.mem
  rcases h.par _ hp with ⟨h1, _⟩ | ⟨v, p2, n', h1, h2, h3, h4⟩
  · exact absurd h1 hu
  · have h1 : p = some v := h1
    subst h1
    have h3 : n = n' + 1 := h3
    have hl := b.len
    refine ⟨v, p2, n', hp, h.par_of hp, h3, h2, ⟨p2, h2⟩, by rw [List.length_cons]; omega, rfl, ?_, ?_, fun x hx => ?_⟩
    · rw [List.getLast?_cons, b.ls]; rfl
    · have hh := b.hd
      cases P with
      | nil => simp at hh
      | cons z r =>
        have : z = u := by simpa using hh
        subst this
        exact ⟨h4, b.lk⟩
    · rcases List.mem_cons.mp hx with rfl | hx
      · exact h.sub _ h2
      · exact b.sub x hx
/-! ### both agree -/
theorem rel_none {nx : Th → List Th} {a t : Th} {F : Th → Nat} (h : RI nx a F) (hw : ∀ m, ¬ Way nx a m t) : F t = 99 := by
  rcases h.wy t with e | ⟨m, w, _⟩
  · exact e
  · exact absurd w (hw m)
theorem rel_some {nx : Th → List Th} {T : List Th} {a t : Th} {F : Th → Nat} {m : Nat} (h : RI nx a F) (pl : PL nx a T.length F T) (hT : T.length ≤ 16) (ht : t ∈ T) (w : Way nx a m t) (hl : ∀ m', Way nx a m' t → m ≤ m') (hm : m < T.length) : F t = m + 1 := by
  have h1 := pl m (by omega) t ht w
  rcases h.wy t with e | ⟨m', w', e⟩
  · omega
  · have := hl m' w'
    omega

section

local macro_rules | `(tactic| walk_at "bt") => `(tactic| first | assumption | exact bx_pfx (by assumption) (by walk_at "pf"))
local macro_rules | `(tactic| walk_at "use") => `(tactic| first
  | (with_reducible refine And.intro ⟨_, clo_is _ _⟩ ?_)
  | (with_reducible refine Exists.intro _ (And.intro (clo_is _ _) ?_))
  | with_reducible refine ok_clmeth (by decide +kernel) ?_ | with_reducible refine ok_kept ?_
  | with_reducible refine ok_slY ?_
  | with_reducible refine ok_len_map ?_
  | with_reducible refine take_gr (by walk_at "bt") (by omega) (by omega) (by omega) (fun _ _ _ _ _ _ _ => ?_))

theorem eq_one (k : Nat) (c : Cs) : eqX (.str ⟨#[k]⟩) (.str "1") c = .ok (.bl (decide (k = 49))) c := by
  show Mi.R.ok (D.bl ((⟨#[k]⟩ : Str) == "1")) c = _
  by_cases h : k = 49
  · subst h; rfl
  · have : ((⟨#[k]⟩ : Str) == "1") = false := beq_eq_false_iff_ne.mpr fun e => h (by
      have := congrArg (fun s : Str => s.cps.toList) e
      have e1 : ("1" : Str).cps.toList = [49] := by decide +kernel
      simp only [e1] at this
      simpa using this)
    rw [this, decide_eq_false h]
theorem eq_nil0 (k : Nat) (c : Cs) : eqX (.str ⟨#[k]⟩) (.str "0") c = .ok (.bl (decide (k = 48))) c := by
  show Mi.R.ok (D.bl ((⟨#[k]⟩ : Str) == "0")) c = _
  by_cases h : k = 48
  · subst h; rfl
  · have : ((⟨#[k]⟩ : Str) == "0") = false := beq_eq_false_iff_ne.mpr fun e => h (by
      have := congrArg (fun s : Str => s.cps.toList) e
      have e1 : ("0" : Str).cps.toList = [48] := by decide +kernel
      simp only [e1] at this
      simpa using this)
    rw [this, decide_eq_false h]
theorem ne_ints (a b : Int) (c : Cs) : neX (.int a) (.int b) c = .ok (.bl (!decide (a = b))) c := by
  show Mi.R.ok (D.bl (!(a == b))) c = _
  by_cases h : a = b
  · subst h; simp
  · rw [decide_eq_false h, beq_eq_false_iff_ne.mpr h]
theorem eq_ints (a b : Int) (c : Cs) : eqX (.int a) (.int b) c = .ok (.bl (decide (a = b))) c := by
  show Mi.R.ok (D.bl (a == b)) c = _
  by_cases h : a = b
  · subst h; simp
  · rw [decide_eq_false h, beq_eq_false_iff_ne.mpr h]
theorem RwS.item0 {ys : List Str} {w : Nat} (h : RwS ys w) (c : Cs) : ∃ y0, itemD (.lst (ys.map D.str)) (.int 0) c = .ok (.str y0) c ∧ lenD [.str y0] c = .ok (.int w) c ∧ y0 ∈ ys := by
  obtain ⟨y0, yr, hys, hy0⟩ := h.head
  have hz : sizeLine = 16777216 := sizeLine_eq
  have hw := h.w8
  refine ⟨y0, item_seq (xs := ys.map D.str) (i := 0) rfl (by rw [hys]; rfl), ?_, by rw [hys]; simp⟩
  obtain ⟨d, c', e, rfl, rfl⟩ := ok_len_str (s := y0) (c := c) (Q := fun d c' => d = .int (w : Nat) ∧ c' = c) (by omega) ⟨by rw [hy0], rfl⟩
  exact e
theorem row_at {ys : List Str} {w i j : Nat} {c : Cs} (hr : RwS ys w) (hi : i < w) (hj : j < ys.length) : itemD (.lst (ys.map D.str)) (.int (j : Nat)) c = .ok (.str (ys.getD j "")) c ∧ itemD (.str (ys.getD j "")) (.int (i : Nat)) c = .ok (.str ⟨#[(ys.getD j "").cps.toList.getD i 0]⟩) c := by
  have w8 := hr.w8
  have eg : ys.getD j "" = ys[j] := by rw [List.getD_eq_getElem?_getD, List.getElem?_eq_getElem hj]; rfl
  have hy : ys.getD j "" ∈ ys := by rw [eg]; exact List.getElem_mem hj
  refine ⟨item_seq (xs := ys.map D.str) rfl (by rw [List.getElem?_map, List.getElem?_eq_getElem hj, eg]; rfl), item_str_at (by rw [hr.len _ hy]; omega) ?_⟩
  rw [len_cps, hr.len _ hy]
  exact hi
theorem lthr_ok {ys : List Str} {w : Nat} {c : Cs} (hr : RwS ys w) : g_law_threads [.lst (ys.map D.str)] c = .ok (.lst ((thL w ys.length).map thD)) c := by
  have n8 := hr.n8
  have w8 := hr.w8
  have hz : sizeLine = 16777216 := sizeLine_eq
  refine Ok.eq (Ok.fun rfl ?_)
  unfold c_law_threads
  have hlen : Ok ((aCons (mCB lenD (aCons (mOp itemD (mVar 0) (mC (.int 0))) (aNil))) (aNil)) [some (.lst (ys.map D.str)), none, none] c) fun xs c1 => c1 = c ∧ xs = [.int (w : Int)] := by
    obtain ⟨y0, e1, e2, _⟩ := hr.item0 c
    exact ok_acons (ok_cb (ok_acons (ok_op (ok_var rfl (ok_c (Ok.of e1 (ok_anil (Ok.of e2 (ok_anil ⟨rfl, rfl⟩)))))))))
  have hlen2 : Ok ((aCons (mCB lenD (aCons (mVar 0) (aNil))) (aNil)) [some (.lst (ys.map D.str)), none, none] c) fun xs c1 => c1 = c ∧ xs = [.int (ys.length : Int)] :=
    ok_acons (ok_cb (ok_acons (ok_var rfl (ok_anil (ok_len_map (ok_anil ⟨rfl, rfl⟩))))))
  refine os_ret (ok_op ?_)
  refine ok_lcR w (fun i => thD (false, i)) (by omega) hlen (fun i hi => ?_) ?_
  · exact ok_gn ⟨rfl, ok_tup (ok_acons (ok_c (ok_acons (ok_var rfl (ok_anil ⟨Nat.le_of_ble_eq_true rfl, rfl, rfl⟩)))))⟩
  refine ok_lcR ys.length (fun i => thD (true, i)) (by omega) hlen2 (fun i hi => ?_) ?_
  · exact ok_gn ⟨rfl, ok_tup (ok_acons (ok_c (ok_acons (ok_var rfl (ok_anil ⟨Nat.le_of_ble_eq_true rfl, rfl, rfl⟩)))))⟩
  refine ok_add_lst (by simp only [List.length_map, List.length_range]; omega) ⟨?_, rfl⟩
  unfold thL
  rw [List.map_append, List.map_map, List.map_map]
  rfl
theorem lover_ok {ys : List Str} {w : Nat} {c : Cs} {a b : Th} (hr : RwS ys w) (ha : inB2 w ys.length a) (hb : inB2 w ys.length b) : g_law_over [.lst (ys.map D.str), thD a, thD b] c = .ok (.bl (ovr ys a b && !(b.1 == a.1))) c := by
  obtain ⟨x, i⟩ := a
  obtain ⟨y, j⟩ := b
  refine Ok.eq (Ok.fun rfl ?_)
  unfold c_law_over
  refine os_seq (os_if (ok_t (ok_op (ok_op (ok_var rfl (ok_c (Ok.of (th0 (x, i) c) (ok_c (Ok.of (eq_kd x false c) ?_)))))))))
  cases x with
  | false =>
    have hi : i < w := ha
    refine ⟨_, rfl, fun _ => ?_, fun h => Bool.noConfusion h⟩
    refine os_ret (ok_and (ok_op (ok_op (ok_var rfl (ok_c (Ok.of (th0 (y, j) c) (ok_c (Ok.of (eq_kd y true c) ?_))))))))
    cases y with
    | false => exact ⟨_, rfl, fun h => Bool.noConfusion h, fun _ => ⟨by simp, rfl⟩⟩
    | true =>
      have hj : j < ys.length := hb
      obtain ⟨e1, e2⟩ := row_at (c := c) hr hi hj
      refine ⟨_, rfl, fun _ => ?_, fun h => Bool.noConfusion h⟩
      refine ok_op (ok_op (ok_op (ok_var rfl (ok_op (ok_var rfl (ok_c (Ok.of (th1 (true, j) c) (Ok.of e1 (ok_op (ok_var rfl (ok_c (Ok.of (th1 (false, i) c) (Ok.of e2 (ok_c (Ok.of (eq_one _ c) ⟨?_, rfl⟩)))))))))))))))
      simp [ovr, sgn1]
  | true =>
    have hi : i < ys.length := ha
    refine ⟨_, rfl, fun h => Bool.noConfusion h, fun _ => os_nil ?_⟩
    refine os_ret (ok_and (ok_op (ok_op (ok_var rfl (ok_c (Ok.of (th0 (y, j) c) (ok_c (Ok.of (eq_kd y false c) ?_))))))))
    cases y with
    | true => exact ⟨_, rfl, fun h => Bool.noConfusion h, fun _ => ⟨by simp, rfl⟩⟩
    | false =>
      have hj : j < w := hb
      obtain ⟨e1, e2⟩ := row_at (c := c) hr hj hi
      refine ⟨_, rfl, fun _ => ?_, fun h => Bool.noConfusion h⟩
      refine ok_op (ok_op (ok_op (ok_var rfl (ok_op (ok_var rfl (ok_c (Ok.of (th1 (true, i) c) (Ok.of e1 (ok_op (ok_var rfl (ok_c (Ok.of (th1 (false, j) c) (Ok.of e2 (ok_c (Ok.of (eq_nil0 _ c) ⟨?_, rfl⟩)))))))))))))))
      obtain ⟨k, hk, ek, _⟩ := sgn_at hr hj hi
      simp only [ovr, sgn1, ek]
      have : k = 48 ∨ k = 49 := by simpa [bitB] using hk
      rcases this with rfl | rfl <;> rfl
def keyTh (t : Th) : List Key := [.inr (kdS t.1), .inl (t.2 : Int)]
theorem keyTh_inj {a b : Th} (h : keyTh a = keyTh b) : a = b := by
  unfold keyTh at h
  simp only [List.cons.injEq, Sum.inr.injEq, Sum.inl.injEq, and_true] at h
  exact Prod.ext (kd_inj h.1) (by have := h.2; omega)
def enT (F : Th → D) (t : Th) : List Key × D := (keyTh t, F t)
theorem put_newG {es : List (List Key × D)} {k : List Key} {d : D} (h : ∀ e ∈ es, e.1 ≠ k) : putKT es k d = es ++ [(k, d)] := by
  unfold putKT
  rw [if_neg]
  intro e
  obtain ⟨x, hx, hk⟩ := List.any_eq_true.mp e
  exact h x hx (of_decide_eq_true hk)
theorem merge_new {F : Th → D} : ∀ {ts : List Th} {acc : List Th}, (acc ++ ts).Nodup → mergeTD (acc.map (enT F)) (ts.map (enT F)) = (acc ++ ts).map (enT F)
  | [], acc, _ => by simp [mergeTD]
  | t :: ts, acc, hn => by
    have ht : t ∉ acc := fun h => (List.nodup_append.mp hn).2.2 t h t List.mem_cons_self rfl
    have e : putKT (acc.map (enT F)) (keyTh t) (F t) = (acc ++ [t]).map (enT F) := by
      rw [put_newG, List.map_append]
      · rfl
      · intro e he
        obtain ⟨u, hu, rfl⟩ := List.mem_map.mp he
        exact fun h => ht (keyTh_inj h ▸ hu)
    have := merge_new (F := F) (ts := ts) (acc := acc ++ [t]) (by simpa using hn)
    rw [List.append_assoc] at this
    show mergeTD (putKT (acc.map (enT F)) (keyTh t) (F t)) (ts.map (enT F)) = _
    rw [e]
    exact this
theorem pairs_th {F : Th → D} : ∀ ts : List Th, pairsT (ts.map fun t => D.tup [thD t, F t]) = some (ts.map (enT F))
  | [] => rfl
  | t :: ts => by
    rw [List.map_cons]
    unfold pairsT
    have e : keyT (thD t) = some (keyTh t) := rfl
    simp only [e, pairs_th ts]
    rfl
theorem getKT_th {F : Th → D} {x : Th} : ∀ {ts : List Th}, x ∈ ts → getKT (ts.map (enT F)) (keyTh x) = some (F x)
  | t :: ts, h => by
    unfold getKT
    rw [List.map_cons, List.find?_cons]
    by_cases e : t = x
    · subst e
      simp [enT]
    · have : ¬ (enT F t).1 = keyTh x := fun h => e (keyTh_inj h)
      simp only [decide_eq_false this]
      rcases List.mem_cons.mp h with h | h
      · exact absurd h.symm e
      · exact getKT_th h
/-! ### paths_from -/
def PSt (c : Cs) (es : List (List Key × D)) (s : List Th) : Cs := c ++ [Cell.dT es] ++ [Cell.lst (s.map thD)]
theorem pst_d (c : Cs) (es : List (List Key × D)) (s : List Th) : (PSt c es s)[c.length]? = some (.dT es) := by simp [PSt]
theorem pst_q (c : Cs) (es : List (List Key × D)) (s : List Th) : (PSt c es s)[c.length + 1]? = some (.lst (s.map thD)) := by simp [PSt]
theorem pst_setd (c : Cs) (es fs : List (List Key × D)) (s : List Th) : (PSt c es s).set c.length (.dT fs) = PSt c fs s := by simp [PSt, List.set_append]
theorem pst_setq (c : Cs) (es : List (List Key × D)) (s t : List Th) : (PSt c es s).set (c.length + 1) (.lst (t.map thD)) = PSt c es t := by simp [PSt, List.set_append]
theorem pst_pfx (c : Cs) (es : List (List Key × D)) (s : List Th) : Pfx c (PSt c es s) := (Pfx.one _ _).trans (Pfx.one _ _)
theorem getKT_isSome {k : List Key} : ∀ es : List (List Key × D), (getKT es k).isSome = true ↔ k ∈ es.map Prod.fst
  | [] => by simp [getKT]
  | e :: es => by
    unfold getKT
    rw [List.find?_cons, List.map_cons, List.mem_cons]
    by_cases h : e.1 = k
    · simp only [h, decide_true]
      exact ⟨fun _ => by simp, fun _ => rfl⟩
    · have ih := getKT_isSome (k := k) es
      unfold getKT at ih
      simp only [decide_eq_false h]
      rw [ih]
      exact ⟨.inr, fun q => q.elim (fun e2 => absurd e2.symm h) id⟩
theorem key_mem {y : Th} {s : List Th} : keyTh y ∈ s.map keyTh ↔ y ∈ s := by
  rw [List.mem_map]
  exact ⟨fun ⟨a, h, e⟩ => keyTh_inj e ▸ h, fun h => ⟨y, h, rfl⟩⟩
theorem din_pst {c : Cs} {es : List (List Key × D)} {s : List Th} {y : Th} (he : es.map Prod.fst = s.map keyTh) : dinT true (thD y) (.ref c.length) (PSt c es s) = .ok (.bl (!decide (y ∈ s))) (PSt c es s) := by
  unfold dinT
  have e1 : keyT (thD y) = some (keyTh y) := rfl
  have e2 : dctT (.ref c.length) (PSt c es s) = some es := by simp [dctT, pst_d]
  rw [e1, e2]
  simp only []
  have e3 : (getKT es (keyTh y)).isSome = decide (y ∈ s) := by
    rw [Bool.eq_iff_iff, getKT_isSome, he, key_mem, decide_eq_true_iff]
  rw [e3]
  rfl
theorem os_aug1 {i : Nat} {n : Int} {l : Ls} {c : Cs} {Q : Fl → Cs → Prop} (h : l[i]? = some (some (.int n))) (q : Q (.nx (l.set i (some (.int (n + 1))))) c) : OkS (sAug i augA (mC (.int 1)) l c) Q := by
  unfold sAug
  rw [h]
  exact ⟨_, _, rfl, q⟩
/-! ### is_connected -/

/-! ### paths_from -/
def parD : Option Th → D
  | none => .non
  | some u => thD u
def entK (e : Ent) : List Key × D := (keyTh e.1, parD e.2.1)
def fstE (L : List Ent) : List Th := L.map (·.1)
def PS2 (c : Cs) (L : List Ent) : Cs := PSt c (L.map entK) (fstE L)
theorem ent_fst (L : List Ent) : (L.map entK).map Prod.fst = (fstE L).map keyTh := by
  unfold fstE
  rw [List.map_map, List.map_map]
  rfl
theorem newE_snoc {L : List Ent} {x y : Th} {n : Nat} {pre : List Th} : newE L x n (pre ++ [y]) = if y ∈ fstE L then newE L x n pre else newE L x n pre ++ [(y, some x, n + 1)] := by
  unfold newE fstE
  rw [List.filter_append, List.map_append]
  by_cases h : y ∈ L.map (·.1)
  · rw [if_pos h, List.filter_cons_of_neg (by rw [decide_eq_true h]; decide)]
    exact List.append_nil _
  · rw [if_neg h, List.filter_cons_of_pos (by rw [decide_eq_false h]; rfl)]
    rfl
theorem pf2_ok {ys : List Str} {w : Nat} {c : Cs} {a : Th} {Q : D → Cs → Prop} (hr : RwS ys w) (ha : a ∈ thL w ys.length)
    (q : ∀ L k, L = bfsL (blwL ys w) a → Bfs (blwL ys w) (thL w ys.length) a L k → L.length ≤ k → Q (.ref c.length) (PS2 c L)) : Ok (gpaths_from [clo ys, thD a] c) Q := by
  have hz : sizeLine = 16777216 := sizeLine_eq
  have hT := thL_len16 hr
  refine Ok.fun rfl ?_
  unfold cpaths_from
  refine os_seq (os_set ?_)
  refine ⟨.ref c.length, c ++ [.dT [(keyTh a, .non)]], rfl, ?_⟩
  refine os_seq (os_set (ok_lstM (ok_acons (ok_var rfl (ok_anil ⟨Nat.le_of_ble_eq_true rfl, ?_⟩)))))
  refine os_seq (os_set (ok_c ?_))
  have hlen1 : (c ++ [Cell.dT [(keyTh a, D.non)]]).length = c.length + 1 := by simp
  rw [hlen1]
  refine os_seq (os_while (fun k l c' => ∃ L at_ o5 o6, c' = PS2 c L ∧ Bfs (blwL ys w) (thL w ys.length) a L at_ ∧ bfsN (blwL ys w) k L at_ = bfsL (blwL ys w) a ∧ k + at_ = 40 ∧ at_ ≤ 20 ∧ l = [some (clo ys), some (thD a), some (.ref c.length), some (.ref (c.length + 1)), some (.int (at_ : Nat)), o5, o6]) ?_ 100000 40 _ _ (by decide) ⟨[(a, none, 0)], 0, _, _, rfl, Bfs.start ha, rfl, rfl, by decide, rfl⟩)
  rintro k l c' ⟨L, at_, o5, o6, rfl, hs, hn, hk, h20, rfl⟩
  have hsl := hs.len
  have hfl : (fstE L).length = L.length := by unfold fstE; rw [List.length_map]
  refine ok_t (ok_op (ok_var rfl (ok_cb (ok_acons (ok_var rfl (ok_anil (Ok.of (len_seq (xs := (fstE L).map thD) (by simp [seqOf, PS2, pst_q])) ?_)))))))
  rw [List.length_map, hfl]
  refine ⟨_, _, rfl, _, rfl, fun hbt => ?_, fun hbf => ?_⟩
  · have hbt : at_ < L.length := by have := of_decide_eq_true hbt; omega
    obtain ⟨⟨x, p, n⟩, hx⟩ : ∃ x, L[at_]? = some x := ⟨_, List.getElem?_eq_getElem hbt⟩
    have hxT : x ∈ thL w ys.length := hs.sub _ (List.mem_of_getElem? hx)
    refine os_seq (os_set (ok_op (ok_var rfl (ok_var rfl (Ok.of (item_seq (xs := (fstE L).map thD) (x := thD x) (by simp [seqOf, PS2, pst_q]) (by unfold fstE; rw [List.getElem?_map, List.getElem?_map, hx]; rfl)) ?_)))))
    have hnd := blw_nodup ys w x
    refine os_seq (os_forY (blwL ys w x) thD (fun rest l c' => ∃ pre t, pre ++ rest = blwL ys w x ∧ t = L ++ newE L x n pre ∧ c' = PS2 c t ∧ ∃ o6, l = [some (clo ys), some (thD a), some (.ref c.length), some (.ref (c.length + 1)), some (.int (at_ : Nat)), some (thD x), o6])
      (ok_il (ok_clmeth (by decide +kernel) (ok_var rfl ⟨⟨_, clo_is _ _⟩, ok_acons (ok_var rfl (ok_anil (Ok.of (below_eq hr (thL_mem.mp hxT)) ⟨_, rfl, rfl, [], L, rfl, by simp [newE], rfl, _, rfl⟩)))⟩))) ?_ ?_)
    · rintro l c' ⟨pre, t, e1, e2, rfl, o6, rfl⟩
      rw [List.append_nil] at e1
      subst e1
      have hnx := hs.next hx hnd fun y hy => blw_in hy
      rw [← e2] at hnx
      have hle := hnx.len
      have hle2 := hnx.le
      have hkk : k = (k - 1) + 1 := by omega
      rw [hkk, bfsN_step _ hx, ← e2] at hn
      refine os_aug1 rfl ?_
      exact ⟨k - 1, by omega, t, at_ + 1, _, _, rfl, hnx, hn, by omega, by omega, rfl⟩
    · rintro y rest l c' ⟨pre, t, e1, e2, rfl, o6, rfl⟩
      have hyp : y ∉ pre := fun h => by
        rw [← e1] at hnd
        exact (List.nodup_append.mp hnd).2.2 y h y List.mem_cons_self rfl
      have hyt : y ∈ fstE t ↔ y ∈ fstE L := by
        unfold fstE
        rw [e2, List.map_append, List.mem_append]
        refine ⟨fun h => h.elim id fun h => ?_, .inl⟩
        obtain ⟨e, he, rfl⟩ := List.mem_map.mp h
        exact absurd (newE_mem.mp he).1 hyp
      have e4 := newE_snoc (L := L) (x := x) (y := y) (n := n) (pre := pre)
      refine ok_gn (os_if (ok_t (ok_op (ok_var rfl (ok_var rfl (Ok.of (din_pst (ent_fst t)) ⟨_, rfl, fun h => ?_, fun h => ?_⟩))))))
      · have hnt : y ∉ fstE t := fun h2 => by rw [decide_eq_true h2] at h; cases h
        have hny : y ∉ fstE L := fun h2 => hnt (hyt.mpr h2)
        have htl : t.length ≤ 40 := by
          rw [e2, List.length_append]
          have h0 : (newE L x n pre).length ≤ pre.length := by unfold newE; rw [List.length_map]; exact List.length_filter_le _ _
          have h2 := congrArg List.length e1
          have h3 := blw_len16 (a := x) hr
          rw [List.length_append] at h2
          omega
        have hft : (fstE t).length = t.length := by unfold fstE; rw [List.length_map]
        refine os_seq (os_asg (ok_var rfl (ok_gST (ok_var rfl (ok_var rfl ?_)))))
        refine ⟨_, _, putTR_at (pst_d c (t.map entK) (fstE t)) (by rw [List.length_map]; omega), ?_⟩
        have ek : putKT (t.map entK) [Sum.inr (kdS y.1), Sum.inl (y.2 : Int)] (thD x) = t.map entK ++ [(keyTh y, thD x)] := put_newG fun e hem hek => by
          have : e.1 ∈ (t.map entK).map Prod.fst := List.mem_map.mpr ⟨e, hem, rfl⟩
          rw [ent_fst, hek] at this
          exact hnt (key_mem.mp this)
        rw [ek, pst_setd]
        refine os_expr (ok_bm (ok_var rfl ⟨isL_ref (pst_q c _ _), ok_acons (ok_var rfl (ok_anil (ok_append (pst_q c _ _) (by rw [List.length_map]; omega) ?_)))⟩))
        have eq2 : (fstE t).map thD ++ [thD y] = (fstE (t ++ [(y, some x, n + 1)])).map thD := by unfold fstE; rw [List.map_append, List.map_append]; rfl
        have eq3 : t.map entK ++ [(keyTh y, thD x)] = (t ++ [(y, some x, n + 1)]).map entK := by rw [List.map_append]; rfl
        rw [eq2, pst_setq, eq3]
        rw [if_neg hny] at e4
        exact ⟨pre ++ [y], t ++ [(y, some x, n + 1)], by rw [← e1]; simp, by rw [e4, e2, List.append_assoc], rfl, _, rfl⟩
      · have hy : y ∈ fstE L := by
          by_cases h2 : y ∈ fstE t
          · exact hyt.mp h2
          · rw [decide_eq_false h2] at h; cases h
        rw [if_pos hy] at e4
        exact os_nil ⟨pre ++ [y], t, by rw [← e1]; simp, by rw [e4]; exact e2, rfl, _, rfl⟩
  · have hbf : ¬ at_ < L.length := fun h => by have := of_decide_eq_false hbf; omega
    rw [bfsN_end _ (by omega)] at hn
    exact os_ret (ok_var rfl (q L at_ hn hs (by omega)))

/-! ### path_between, shortest_path -/
theorem item_last {v : D} {c : Cs} {xs : List D} {x : D} (h : seqOf v c = some xs) (hx : xs.getLast? = some x) : itemD v (.int (-1)) c = .ok x c := by
  have e : ∀ ys : List D, ys = xs → itL ys (-1) c = .ok x c := fun ys e => by
    subst e
    have hp : 0 < ys.length := by
      cases ys with
      | nil => simp at hx
      | cons _ _ => simp
    rw [List.getLast?_eq_getElem?] at hx
    have h2 : atI ys (-1) = some x := by
      have e3 : ys[ys.length - 1]? = some x := hx
      have e4 : ys[ys.length - 1] = x := (List.getElem?_eq_some_iff.mp e3).2
      simp only [atI, ixN]
      have e5 : (-1 + (ys.length : Int)).toNat = ys.length - 1 := by omega
      simp
      rw [if_pos (by omega)]
      show ys[(-1 + (ys.length : Int)).toNat]? = some x
      rw [e5]
      exact e3
    unfold itL
    rw [h2]
  cases v with
  | lst ys => cases h; exact e _ rfl
  | tup ys => cases h; exact e _ rfl
  | ro ys => cases h; exact e _ rfl
  | ref k =>
    have h : (match c[k]? with
      | some (.lst xs) => some xs
      | _ => none) = some xs := h
    cases q : c[k]? with
    | none => rw [q] at h; cases h
    | some y =>
      rw [q] at h
      cases y with
      | lst ys =>
        cases h
        simp only [itemD, q]
        exact e _ rfl
      | _ => cases h
  | _ => cases h
theorem getKT_ent {nx : Th → List Th} {T : List Th} {a : Th} {L : List Ent} {k : Nat} (h : Bfs nx T a L k) {e : Ent} (he : e ∈ L) : getKT (L.map entK) (keyTh e.1) = some (parD e.2.1) := by
  unfold getKT
  cases q : (L.map entK).find? fun kv => decide (kv.1 = keyTh e.1) with
  | none =>
    have := List.find?_eq_none.mp q (entK e) (List.mem_map.mpr ⟨e, he, rfl⟩)
    simp [entK] at this
  | some f =>
    have h1 := List.mem_of_find?_eq_some q
    have h2 : f.1 = keyTh e.1 := by simpa using List.find?_some q
    obtain ⟨g, hg, rfl⟩ := List.mem_map.mp h1
    rw [h.uniq hg he (keyTh_inj h2)]
    rfl
theorem ok_sl3M {a : ME} {lo hi st : MO} {l : Ls} {c : Cs} {Q : D → Cs → Prop} (h : Ok (a l c) fun x c1 => Ok (lo l c1) fun i c2 => Ok (hi l c2) fun j c3 => Ok (st l c3) fun k c4 => Ok (sl3M x i j k c4) Q) : Ok (mSl3M a lo hi st l c) Q :=
  Ok.bind (h.mono fun _ _ h => Ok.bind (h.mono fun _ _ h => Ok.bind (h.mono fun _ _ h => Ok.bind h)))
theorem pb_ok {ys : List Str} {w : Nat} {c : Cs} {a t : Th} {Q : D → Cs → Prop} (hr : RwS ys w) (ha : a ∈ thL w ys.length)
    (q0 : (∀ m, ¬ Way (blwL ys w) a m t) → ∀ c', Pfx c c' → Q .non c')
    (q1 : ∀ m, Way (blwL ys w) a m t → (∀ m', Way (blwL ys w) a m' t → m ≤ m') → m < (thL w ys.length).length → Pok (blwL ys w) (thL w ys.length) a t m (pathOf (blwL ys w) a t) →
      ∀ c', Pfx c c' → Q (.ref c'.length) (c' ++ [Cell.lst ((pathOf (blwL ys w) a t).map thD)])) : Ok (gpath_between [clo ys, thD a, thD t] c) Q := by
  have hz : sizeLine = 16777216 := sizeLine_eq
  have hT := thL_len16 hr
  refine Ok.fun rfl ?_
  unfold cpath_between
  refine os_seq (os_set (ok_cb (ok_acons (ok_var rfl (ok_acons (ok_var rfl (ok_anil ?_)))))))
  refine pf2_ok hr ha fun L k hL hs hk => ?_
  have P1 : Pfx c (PS2 c L) := pst_pfx c _ _
  have hdin : dinT true (thD t) (.ref c.length) (PS2 c L) = .ok (.bl (!decide (t ∈ fstE L))) (PS2 c L) := din_pst (ent_fst L)
  refine os_seq (os_if (ok_t (ok_op (ok_var rfl (ok_var rfl (Ok.of hdin ⟨_, rfl, fun h => ?_, fun h => os_nil ?_⟩))))))
  · have hn : t ∉ fstE L := fun h2 => by rw [decide_eq_true h2] at h; cases h
    refine os_ret (ok_c (q0 (fun m hw => ?_) _ P1))
    obtain ⟨p, n, h1, _⟩ := hs.low hk hw
    exact hn (List.mem_map.mpr ⟨_, h1, rfl⟩)
  · have hy : t ∈ fstE L := by
      by_cases h2 : t ∈ fstE L
      · exact h2
      · rw [decide_eq_false h2] at h; cases h
    obtain ⟨⟨t', p, m⟩, he, ht'⟩ := List.mem_map.mp hy
    have ht : t = t' := ht'.symm
    subst ht
    have hdct : ∀ z : Cell, dctT (.ref c.length) (PS2 c L ++ [z]) = some (L.map entK) := fun z => by
      have : (PS2 c L ++ [z])[c.length]? = some (.dT (L.map entK)) := by
        rw [List.getElem?_append_left (by simp [PS2, PSt])]
        exact pst_d c _ _
      simp [dctT, this]
    generalize PS2 c L = C at P1 hdct ⊢
    refine os_seq (os_set (ok_lstM (ok_acons (ok_var rfl (ok_anil ⟨Nat.le_of_ble_eq_true rfl, ?_⟩)))))
    have cc : ∀ z : Cell, (C ++ [z])[C.length]? = some z := fun z => by simp
    have hw : Way (blwL ys w) a m t := hs.wy _ he
    have hlt : m < (thL w ys.length).length := hs.lt he
    have hll : ∀ m', Way (blwL ys w) a m' t → m ≤ m' := fun m' r => hs.least hk he r
    refine os_seq (os_while (fun k l c' => ∃ u n P f, Bk (blwL ys w) (thL w ys.length) a t L m u n P ∧ backN L f u P = pathOf (blwL ys w) a t ∧ n < f ∧ k = n ∧ c' = C ++ [Cell.lst (P.reverse.map thD)] ∧ l = [some (clo ys), some (thD a), some (thD t), some (.ref c.length), some (.ref C.length)]) ?_ 100000 m _ _ (by omega) ⟨t, m, [t], 40, Bk.start hs ⟨p, he⟩, by rw [hL]; rfl, by omega, rfl, rfl, rfl⟩)
    rintro k l c' ⟨u, n, P, f, hb, hp, hnf, rfl, rfl, rfl⟩
    have hlast : ((P.reverse).map thD).getLast? = some (thD u) := by
      rw [List.getLast?_map, List.getLast?_reverse, List.head?_eq_getElem?, hb.hd]; rfl
    have hso : seqOf (.ref C.length) (C ++ [Cell.lst (P.reverse.map thD)]) = some (P.reverse.map thD) := by simp [seqOf]
    have hlen := hb.len
    refine ok_t (ok_op (ok_op (ok_var rfl (ok_un (ok_c ⟨_, _, rfl, Ok.of (item_last hso hlast) (ok_var rfl ?_)⟩)))))
    refine Ok.of (ne_th u a _) ⟨_, rfl, fun hbt => ?_, fun hbf => ?_⟩
    · have hne : u ≠ a := fun e => by rw [decide_eq_true e] at hbt; cases hbt
      obtain ⟨v, p2, n', h1, h2, rfl, h3, hb2⟩ := hb.next hs hne
      refine os_expr (ok_bm (ok_var rfl ⟨isL_ref (cc _), ok_acons (ok_op (ok_var rfl (ok_op (ok_var rfl (ok_un (ok_c ⟨_, _, rfl, Ok.of (item_last hso hlast) ?_⟩))))))⟩))
      have hg : dgetTI (.ref c.length) (thD u) (C ++ [Cell.lst (P.reverse.map thD)]) = .ok (thD v) (C ++ [Cell.lst (P.reverse.map thD)]) := by
        unfold dgetTI
        have e1 : keyT (thD u) = some (keyTh u) := rfl
        have e2 : getKT (L.map entK) (keyTh u) = some (thD v) := getKT_ent hs h1
        rw [e1, hdct]
        simp only [e2]
      refine Ok.of hg (ok_anil (ok_append (cc _) (by simp only [List.length_map, List.length_reverse]; omega) ?_))
      obtain ⟨f, rfl⟩ : ∃ g, f = g + 1 := ⟨f - 1, by omega⟩
      have hp2 : backN L f v (v :: P) = pathOf (blwL ys w) a t := by rw [← hp]; conv => rhs; unfold backN; rw [h2]
      refine ⟨n', by omega, v, n', v :: P, f, hb2, hp2, by omega, rfl, ?_, rfl⟩
      rw [List.reverse_cons, List.map_append]
      simp
    · have heq : u = a := by
        by_cases h2 : u = a
        · exact h2
        · rw [decide_eq_false h2] at hbf; cases hbf
      obtain ⟨h1, h2⟩ := hb.zero hs heq
      have hp2 : P = pathOf (blwL ys w) a t := by
        rw [← hp]
        cases f with
        | zero => rfl
        | succ f => unfold backN; rw [h1]
      subst hp2
      refine os_ret (ok_sl3M (ok_var rfl (ok_onone (ok_onone (ok_osome (ok_un (ok_c ⟨_, _, rfl, ⟨_, rfl, ?_⟩⟩)))))))
      have hl2 : lstC (.ref C.length) (C ++ [Cell.lst ((pathOf (blwL ys w) a t).reverse.map thD)]) = some ((pathOf (blwL ys w) a t).reverse.map thD) := by simp [lstC]
      have e : sl3M (.ref C.length) none none (some (-1)) (C ++ [Cell.lst ((pathOf (blwL ys w) a t).reverse.map thD)]) = .ok (.ref (C ++ [Cell.lst ((pathOf (blwL ys w) a t).reverse.map thD)]).length) (C ++ [Cell.lst ((pathOf (blwL ys w) a t).reverse.map thD)] ++ [Cell.lst ((pathOf (blwL ys w) a t).map thD)]) := by
        unfold sl3M
        rw [hl2]
        simp only []
        rw [cut3_rev, ← List.map_reverse, List.reverse_reverse, if_pos ⟨by decide, by rw [List.length_map]; omega⟩]
      exact Ok.of e (q1 m hw hll hlt h2 _ (P1.trans (Pfx.one _ _)))

/-! ### shortest_path -/
theorem need_ok {ys : List Str} {c : Cs} {Q : D → Cs → Prop} (q : ∀ d, Q d c) : Ok (gneed_cloth [clo ys] c) Q := by
  refine Ok.fun rfl ?_
  unfold cneed_cloth
  refine os_if (ok_tnot (ok_t (ok_iso1 (ok_var rfl ⟨clD ys, clo_is _ _, by simp, _, rfl, ?_, ?_⟩))))
  · intro h; simp at h
  intro _
  exact os_nil (q _)
theorem member_ok {ys : List Str} {w : Nat} {c : Cs} {t : Th} {Q : D → Cs → Prop} (hr : RwS ys w) (ht : t ∈ thL w ys.length) (q : ∀ d, Q d c) : Ok (gneed_member [clo ys, thD t] c) Q := by
  refine Ok.fun rfl ?_
  unfold cneed_member
  refine os_if (ok_t (ok_op (ok_var rfl (ok_var rfl (ok_inI (clo_is ys _) (Ok.of (contains_eq hr (thD_val t c)) ⟨_, rfl, _, rfl, fun h => ?_, fun _ => os_nil (q _)⟩))))))
  rw [thOf_some (thL_mem.mp ht)] at h; cases h
theorem sp_ok {ys : List Str} {w : Nat} {c : Cs} {a t : Th} {Q : D → Cs → Prop} (hr : RwS ys w) (ha : a ∈ thL w ys.length) (ht : t ∈ thL w ys.length)
    (q0 : (∀ m, ¬ Way (blwL ys w) a m t) → ∀ c', Pfx c c' → Q .non c')
    (q1 : ∀ m, Way (blwL ys w) a m t → (∀ m', Way (blwL ys w) a m' t → m ≤ m') → m < (thL w ys.length).length → Pok (blwL ys w) (thL w ys.length) a t m (pathOf (blwL ys w) a t) →
      ∀ c', Pfx c c' → Q (.ref c'.length) (c' ++ [Cell.lst ((pathOf (blwL ys w) a t).map thD)])) : Ok (gshortest_path [clo ys, thD a, thD t] c) Q := by
  refine Ok.fun rfl ?_
  unfold cshortest_path
  refine os_seq (os_expr (ok_cb (ok_acons (ok_var rfl (ok_anil (need_ok fun _ => ?_))))))
  refine os_seq (os_expr (ok_cb (ok_acons (ok_var rfl (ok_acons (ok_var rfl (ok_anil (member_ok hr ha fun _ => ?_))))))))
  refine os_seq (os_expr (ok_cb (ok_acons (ok_var rfl (ok_acons (ok_var rfl (ok_anil (member_ok hr ht fun _ => ?_))))))))
  exact os_ret (ok_cb (ok_acons (ok_var rfl (ok_acons (ok_var rfl (ok_acons (ok_var rfl (ok_anil (pb_ok hr ha q0 q1)))))))))
/-! ### lengths, kept by thread -/
def lenE (T : List Th) (F : Th → Nat) : List (List Key × D) := T.map (enT fun t => .int (F t : Nat))
theorem put_len {T : List Th} {F : Th → Nat} {x : Th} {v : Nat} (hx : x ∈ T) : putKT (lenE T F) (keyTh x) (.int (v : Nat)) = lenE T (put1 F x v) := by
  unfold putKT lenE
  have h1 : ((T.map (enT fun t => .int (F t : Nat))).any fun kv => decide (kv.1 = keyTh x)) = true := List.any_eq_true.mpr ⟨_, List.mem_map.mpr ⟨x, hx, rfl⟩, decide_eq_true rfl⟩
  rw [if_pos h1, List.map_map]
  refine List.map_congr_left fun t _ => ?_
  show (if keyTh t = keyTh x then (keyTh t, D.int (v : Nat)) else (keyTh t, D.int (F t : Nat))) = (keyTh t, D.int (put1 F x v t : Nat))
  unfold put1
  by_cases h : t = x
  · subst h
    rw [if_pos rfl, if_pos rfl]
  · have h2 : ¬ keyTh t = keyTh x := fun e => h (keyTh_inj e)
    rw [if_neg h2, if_neg h]
theorem dget_len {T : List Th} {F : Th → Nat} {x : Th} {v : D} {c : Cs} (hb : dctT v c = some (lenE T F)) (hx : x ∈ T) : dgetTI v (thD x) c = .ok (.int (F x : Nat)) c := by
  unfold dgetTI
  have e : keyT (thD x) = some (keyTh x) := rfl
  rw [e, hb]
  simp only []
  have e2 : getKT (lenE T F) (keyTh x) = some (.int (F x : Nat)) := getKT_th (F := fun t => .int (F t : Nat)) hx
  rw [e2]
theorem dct_at {k : Nat} {es : List (List Key × D)} {c : Cs} (h : c[k]? = some (.dT es)) : dctT (.ref k) c = some es := by simp [dctT, h]

/-! ### the lengths by relaxation -/
theorem min_ints {is : List Int} {k : Int} {c : Cs} (e : is.min? = some k) : minY [.lst (is.map D.int)] c = .ok (.int k) c := by
  have h : intsOf (is.map D.int) = some is := intsOf_map is
  show onInts (fun ns => ns.min?) (.lst (is.map D.int)) c = _
  unfold onInts
  rw [show lstC (D.lst (is.map D.int)) c = some (is.map D.int) from rfl]
  simp only [h, e]
/-- the smallest one of the neighbours' lengths and the own one -/
theorem near_min {T : List Th} {P : Th → Bool} {F : Th → Nat} {x : Th} : ∃ v : Nat, (((T.filter P).map fun u => ((F u : Nat) : Int) + 1) ++ [((F x : Nat) : Int)]).min? = some (v : Int) ∧ v ≤ F x ∧ (∀ u ∈ T, P u = true → v ≤ F u + 1) ∧ (v = F x ∨ ∃ u, P u = true ∧ v = F u + 1) := by
  generalize hl : ((T.filter P).map fun u => ((F u : Nat) : Int) + 1) ++ [((F x : Nat) : Int)] = is
  have hm : ∀ b, b ∈ is ↔ (∃ u, (u ∈ T ∧ P u = true) ∧ ((F u : Nat) : Int) + 1 = b) ∨ b = (F x : Nat) := fun b => by
    rw [← hl]
    simp [List.mem_append, List.mem_map, List.mem_filter]
  cases q : is.min? with
  | none =>
    have := List.min?_eq_none_iff.mp q
    have h2 := (hm (F x : Nat)).mpr (.inr rfl)
    rw [this] at h2
    cases h2
  | some k =>
    obtain ⟨h1, h2⟩ := List.min?_eq_some_iff.mp q
    have h3 := h2 _ ((hm (F x : Nat)).mpr (.inr rfl))
    have h4 : 0 ≤ k := by
      rcases (hm k).mp h1 with ⟨u, _, e⟩ | e <;> omega
    obtain ⟨v, rfl⟩ := Int.eq_ofNat_of_zero_le h4
    refine ⟨v, rfl, by omega, fun u hu hp => ?_, ?_⟩
    · have := h2 _ ((hm (((F u : Nat) : Int) + 1)).mpr (.inl ⟨u, ⟨hu, hp⟩, rfl⟩))
      omega
    · rcases (hm v).mp h1 with ⟨u, ⟨_, hp⟩, e⟩ | e
      · exact .inr ⟨u, hp, by omega⟩
      · exact .inl (by omega)
theorem len_ok {ys : List Str} {w : Nat} {c : Cs} {a : Th} {Q : D → Cs → Prop} (hr : RwS ys w) (ha : a ∈ thL w ys.length)
    (q : ∀ F, RI (blwL ys w) a F → PL (blwL ys w) a (thL w ys.length).length F (thL w ys.length) → Q (.ref c.length) (c ++ [.dT (lenE (thL w ys.length) F)])) : Ok (g_law_lengths [.lst (ys.map D.str), thD a] c) Q := by
  have hz : sizeLine = 16777216 := sizeLine_eq
  have hT := thL_len16 hr
  have hin : ∀ u, ∀ y ∈ blwL ys w u, y ∈ thL w ys.length := fun u y h => blw_in h
  have cc : ∀ z : Cell, (c ++ [z])[c.length]? = some z := fun z => by simp
  have cs : ∀ z z' : Cell, (c ++ [z]).set c.length z' = c ++ [z'] := fun z z' => by simp
  refine Ok.fun rfl ?_
  unfold c_law_lengths
  refine os_seq (os_set (ok_cb (ok_acons (ok_var rfl (ok_anil (Ok.of (lthr_ok hr) ?_))))))
  refine os_seq (os_set (ok_cb (ok_acons ?_)))
  refine ok_lcY (thL w ys.length) thD (fun t => D.tup [thD t, .int 99]) (by omega) (ok_ktree (ok_var rfl ⟨rfl, rfl⟩)) (fun t ht => ok_gn ⟨rfl, ok_tup (ok_acons (ok_var rfl (ok_acons (ok_c (ok_anil ⟨Nat.le_of_ble_eq_true rfl, rfl, rfl⟩)))))⟩) ?_
  refine ok_anil ⟨.ref c.length, c ++ [.dT (lenE (thL w ys.length) fun _ => 99)], ?_, ?_⟩
  · show dictTP (.lst ((thL w ys.length).map fun t => D.tup [thD t, .int 99])) c = _
    unfold dictTP
    have e1 : lstC (.lst ((thL w ys.length).map fun t => D.tup [thD t, .int 99])) c = some ((thL w ys.length).map fun t => D.tup [thD t, .int 99]) := rfl
    rw [e1]
    simp only [pairs_th (F := fun _ => .int 99)]
    have e2 := merge_new (F := fun _ => .int 99) (ts := thL w ys.length) (acc := []) (by simpa using thL_nodup w ys.length)
    simp only [List.map_nil, List.nil_append] at e2
    rw [e2]
    rfl
  have hll : ∀ F, (lenE (thL w ys.length) F).length < 1000 := fun F => by unfold lenE; rw [List.length_map]; omega
  refine os_seq (os_asg (ok_c (ok_gST (ok_var rfl (ok_var rfl ⟨_, _, putTR_at (cc _) (hll _), ?_⟩)))))
  have ek : putKT (lenE (thL w ys.length) fun _ => 99) [Sum.inr (kdS a.1), Sum.inl (a.2 : Int)] (.int 1) = lenE (thL w ys.length) (ini a) := put_len (F := fun _ => 99) (v := 1) ha
  rw [ek, cs]
  refine os_seq (os_forR (thL w ys.length).length (fun rest l c' => ∃ lap F, lap + rest.length = (thL w ys.length).length ∧ RI (blwL ys w) a F ∧ PL (blwL ys w) a lap F (thL w ys.length) ∧ c' = c ++ [.dT (lenE (thL w ys.length) F)] ∧ ∃ o4 o5 o6, l = [some (.lst (ys.map D.str)), some (thD a), some (.lst ((thL w ys.length).map thD)), some (.ref c.length), o4, o5, o6, none]) (by omega)
    (ok_acons (ok_cb (ok_acons (ok_var rfl (ok_anil (ok_len_map (ok_anil ⟨rfl, rfl⟩))))))) ⟨0, ini a, by simp, ini_ri _ _, ini_pl _ _ _, rfl, _, _, _, rfl⟩ ?_ ?_)
  · rintro l c' ⟨lap, F, e, h1, h2, rfl, o4, o5, o6, rfl⟩
    have e : lap = (thL w ys.length).length := by simpa using e
    subst e
    exact os_ret (ok_var rfl (q F h1 h2))
  · rintro i rest l c' ⟨lap, F, e, h1, h2, rfl, o4, o5, o6, rfl⟩
    refine ok_gn (os_forX (thL w ys.length) thD (fun rest' l c' => ∃ pre G, pre ++ rest' = thL w ys.length ∧ RI (blwL ys w) a G ∧ PL (blwL ys w) a lap G (thL w ys.length) ∧ (∀ t ∈ pre, ∀ m, m ≤ lap + 1 → Way (blwL ys w) a m t → G t ≤ m + 1) ∧ c' = c ++ [.dT (lenE (thL w ys.length) G)] ∧ ∃ o5 o6, l = [some (.lst (ys.map D.str)), some (thD a), some (.lst ((thL w ys.length).map thD)), some (.ref c.length), some (.int (i : Nat)), o5, o6, none]) (by omega)
      (ok_var rfl ⟨rfl, [], F, rfl, h1, h2, fun t ht => absurd ht List.not_mem_nil, rfl, _, _, rfl⟩) ?_ ?_)
    · rintro l c' ⟨pre, G, e1, g1, g2, g3, rfl, o5, o6, rfl⟩
      rw [List.append_nil] at e1
      exact ⟨lap + 1, G, by simp only [List.length_cons] at e; omega, g1, fun m hm t ht w => g3 t (by rw [e1]; exact ht) m hm w, rfl, _, _, _, rfl⟩
    · rintro x rest' l c' ⟨pre, G, e1, g1, g2, g3, rfl, o5, o6, rfl⟩
      have hx : x ∈ thL w ys.length := by rw [← e1]; simp
      have hd : dctT (.ref c.length) (c ++ [.dT (lenE (thL w ys.length) G)]) = some (lenE (thL w ys.length) G) := dct_at (cc _)
      refine ok_gn (os_seq (os_set ?_))
      refine ok_lcT (thL w ys.length) thD (fun u => .int (((G u : Nat) : Int) + 1)) (fun u => decide (x ∈ blwL ys w u)) (by omega) (ok_ktree (ok_var rfl ⟨rfl, rfl⟩)) (fun u hu => ?_) ?_
      · refine ok_gn ⟨rfl, ok_t (ok_cb (ok_acons (ok_var rfl (ok_acons (ok_var rfl (ok_acons (ok_var rfl (ok_anil (Ok.of (lover_ok hr (thL_mem.mp hu) (thL_mem.mp hx)) ⟨_, rfl, ?_, rfl, fun _ => ?_⟩)))))))))⟩
        · rw [Bool.eq_iff_iff, decide_eq_true_iff, blw_mem]
          have := thL_mem.mp hx
          simp only [Bool.and_eq_true, Bool.not_eq_true', beq_eq_false_iff_ne, ne_eq]
          exact ⟨fun h => ⟨this, h.2, h.1⟩, fun h => ⟨h.2.2, h.2.1⟩⟩
        · exact ok_op (ok_op (ok_var rfl (ok_var rfl (Ok.of (dget_len hd hu) (ok_c ⟨_, _, rfl, rfl, rfl⟩)))))
      obtain ⟨v, hv, v1, v2, v3⟩ := near_min (T := thL w ys.length) (P := fun u => decide (x ∈ blwL ys w u)) (F := G) (x := x)
      have hfl := List.length_filter_le (fun u => decide (x ∈ blwL ys w u)) (thL w ys.length)
      refine os_asg (ok_cb (ok_acons (ok_op (ok_var rfl (ok_lst (ok_acons (ok_op (ok_var rfl (ok_var rfl (Ok.of (dget_len hd hx) (ok_anil ⟨Nat.le_of_ble_eq_true rfl, ?_⟩)))))))))))
      refine ok_add_lst (by simp only [List.length_map, List.length_cons, List.length_nil]; omega) (ok_anil ?_)
      have e3 : ((thL w ys.length).filter fun u => decide (x ∈ blwL ys w u)).map (fun u => D.int (((G u : Nat) : Int) + 1)) ++ [D.int (G x : Nat)] = ((((thL w ys.length).filter fun u => decide (x ∈ blwL ys w u)).map fun u => ((G u : Nat) : Int) + 1) ++ [((G x : Nat) : Int)]).map D.int := by
        rw [List.map_append, List.map_map]; rfl
      rw [e3]
      refine Ok.of (min_ints hv) (ok_gST (ok_var rfl (ok_var rfl ⟨_, _, putTR_at (cc _) (hll _), ?_⟩)))
      have ek2 : putKT (lenE (thL w ys.length) G) [Sum.inr (kdS x.1), Sum.inl (x.2 : Int)] (.int (v : Nat)) = lenE (thL w ys.length) (put1 G x v) := put_len hx
      rw [ek2, cs]
      have hv3 : v = G x ∨ ∃ u, x ∈ blwL ys w u ∧ v = G u + 1 := v3.imp id fun ⟨u, h, e⟩ => ⟨u, of_decide_eq_true h, e⟩
      refine ⟨pre ++ [x], put1 G x v, by rw [← e1]; simp, g1.put v1 hv3, g2.put v1, fun t ht m hm hw => ?_, rfl, _, _, rfl⟩
      rcases List.mem_append.mp ht with h | h
      · exact Nat.le_trans (put1_le v1 t) (g3 t h m hm hw)
      · obtain rfl : t = x := List.mem_singleton.mp h
        have e4 : put1 G t v t = v := by simp [put1]
        rw [e4]
        exact pl_one g2 g1 ha hin v1 (fun u hu h => v2 u hu (decide_eq_true h)) hm hw

/-! ### _law_path_right -/
theorem depth_ths : ∀ ts : List Th, PyData.depthAll (ts.map thP) ≤ 2
  | [] => by simp [PyData.depthAll]
  | t :: ts => by
    have := depth_ths ts
    simp only [List.map_cons, PyData.depthAll]
    have h : (thP t).depth ≤ 2 := by unfold thP; simp [PyData.depth, PyData.depthAll]
    omega
theorem eqv_ths : ∀ as bs : List Th, PyData.eqvAll (as.map thP) (bs.map thP) = decide (as = bs)
  | [], [] => rfl
  | [], _ :: _ => by simp [PyData.eqvAll]
  | _ :: _, [] => by simp [PyData.eqvAll]
  | a :: as, b :: bs => by
    simp only [List.map_cons, PyData.eqvAll, thP_eqv, eqv_ths as bs]
    rw [Bool.eq_iff_iff]
    simp
theorem ne_ths (as bs : List Th) (c : Cs) : neX (.lst (as.map thD)) (.lst (bs.map thD)) c = .ok (.bl (!decide (as = bs))) c := by
  have py : ∀ ts : List Th, toPyC 30 c (.lst (ts.map thD)) = some (.list (ts.map thP)) := fun ts => by
    show (mapO (toPyC 29 c) (ts.map thD)).map PyData.list = _
    rw [mapO_map (g := thP) fun p => rfl]
    rfl
  have sh : ∀ ts : List Th, SeqAt.shaped (.list (ts.map thP)) = true := fun ts => by
    have h1 : (PyData.list (ts.map thP)).canLay0 = true := thP_lay ts
    have h2 := depth_ths ts
    have h3 : (PyData.list (ts.map thP)).depth ≤ 64 := by simp only [PyData.depth]; omega
    unfold SeqAt.shaped
    rw [h1, decide_eq_true h3]
    rfl
  show eqQ true (.lst (as.map thD)) (.lst (bs.map thD)) c = _
  unfold eqQ
  rw [py, py]
  simp only []
  rw [if_pos ⟨sh as, sh bs⟩]
  show R.ok (D.bl (!PyData.eqvAll (as.map thP) (bs.map thP))) c = _
  rw [eqv_ths]
theorem dig_in {i : Nat} (h : i < 8) (c : Cs) : ∃ s : Str, reprX [.int (i : Nat)] c = .ok (.str s) c ∧ inY true (.str s) (.str "01234567") c = .ok (.bl false) c := by
  have key : ∀ (s : Str) (k : Nat), cps1 s = some k → k ∈ [48, 49, 50, 51, 52, 53, 54, 55] → inY true (.str s) (.str "01234567") c = .ok (.bl false) c := fun s k h1 h2 => by
    have e0 : ("01234567" : Str).cps.toList = [48, 49, 50, 51, 52, 53, 54, 55] := by decide +kernel
    have e1 : inX true (.str s) (.str "01234567") c = (match cps1 s with
      | some k => (.ok (.bl (sgn true (decide (k ∈ ("01234567" : Str).cps.toList)))) c : Mi.R D)
      | none => .stuck) := rfl
    rw [h1, e0] at e1
    simp only [decide_eq_true h2] at e1
    unfold inY
    rw [e1]
    rfl
  have rp : ∀ j : Int, okR (.int j) = true → reprX [.int j] c = .ok (.str (PyData.int j).shown) c := fun j hj => by
    show reprQ (.int j) c = _
    unfold reprQ
    have e : toPyC 30 c (.int j) = some (.int j) := rfl
    rw [e]
    exact if_pos hj
  have hc : i = 0 ∨ i = 1 ∨ i = 2 ∨ i = 3 ∨ i = 4 ∨ i = 5 ∨ i = 6 ∨ i = 7 := by omega
  rcases hc with rfl | rfl | rfl | rfl | rfl | rfl | rfl | rfl
  · exact ⟨_, rp 0 (by decide +kernel), key _ 48 (by decide +kernel) (by decide)⟩
  · exact ⟨_, rp 1 (by decide +kernel), key _ 49 (by decide +kernel) (by decide)⟩
  · exact ⟨_, rp 2 (by decide +kernel), key _ 50 (by decide +kernel) (by decide)⟩
  · exact ⟨_, rp 3 (by decide +kernel), key _ 51 (by decide +kernel) (by decide)⟩
  · exact ⟨_, rp 4 (by decide +kernel), key _ 52 (by decide +kernel) (by decide)⟩
  · exact ⟨_, rp 5 (by decide +kernel), key _ 53 (by decide +kernel) (by decide)⟩
  · exact ⟨_, rp 6 (by decide +kernel), key _ 54 (by decide +kernel) (by decide)⟩
  · exact ⟨_, rp 7 (by decide +kernel), key _ 55 (by decide +kernel) (by decide)⟩
theorem filter_none {α : Type} (xs : List α) : (xs.filter fun _ => false) = [] := by simp
theorem th_lt8 {ys : List Str} {w : Nat} {x : Th} (hr : RwS ys w) (h : x ∈ thL w ys.length) : x.2 < 8 := by
  have n8 := hr.n8
  have w8 := hr.w8
  have h : x.2 < (if x.1 = true then ys.length else w) := thL_mem.mp h
  split at h <;> omega
theorem lpr_ok {ys : List Str} {w : Nat} {c : Cs} {a t : Th} {m p : Nat} {P : List Th} (hr : RwS ys w) (h : Pok (blwL ys w) (thL w ys.length) a t m P) (hm : m < 16) (hp : c[p]? = some (.lst (P.map thD))) :
    g_law_path_right [.lst (ys.map D.str), .ref p, .lst [thD a, thD t], .int ((m + 1 : Nat) : Int)] c = .ok (.bl true) c := by
  have hz : sizeLine = 16777216 := sizeLine_eq
  have hl := h.len
  have hs : seqOf (.ref p) c = some (P.map thD) := by simp [seqOf, hp]
  have hi : isiD [.ref p, .ty "list"] c = .ok (.bl true) c := by simp [isiD, tyD, hp, tyNames, isT]
  have hfst : itemD (.ref p) (.int 0) c = .ok (thD a) c := item_seq (i := 0) hs (by rw [List.getElem?_map, h.hd]; rfl)
  have hlst : itemD (.ref p) (.int (-1)) c = .ok (thD t) c := item_last hs (by
    have e : m = P.length - 1 := by omega
    rw [List.getLast?_map, List.getLast?_eq_getElem?, ← e, h.ls]; rfl)
  have hlen : lenD [.ref p] c = .ok (.int ((m + 1 : Nat) : Int)) c := by
    have := len_seq hs
    rw [List.length_map, hl] at this
    exact this
  refine Ok.eq (Ok.fun rfl ?_)
  unfold c_law_path_right
  refine os_seq (os_if (ok_tor (ok_tnot (ok_t (ok_cb (ok_acons (ok_var rfl (ok_acons (ok_c (ok_anil (Ok.of hi ⟨_, rfl, fun h => Bool.noConfusion h, fun _ => ?_⟩)))))))))))
  refine ok_tor (ok_t (ok_op (ok_cb (ok_acons (ok_var rfl (ok_anil (Ok.of hlen (ok_var rfl (Ok.of (ne_ints _ _ _) ⟨_, rfl, fun h => ?_, fun _ => ?_⟩)))))))))
  · rw [decide_eq_true rfl] at h; cases h
  refine ok_t (ok_op (ok_lst (ok_acons (ok_op (ok_var rfl (ok_c (Ok.of hfst (ok_acons (ok_op (ok_var rfl (ok_un (ok_c ⟨_, _, rfl, Ok.of hlst (ok_anil ⟨Nat.le_of_ble_eq_true rfl, ok_var rfl (Ok.of (ne_ths [a, t] [a, t] c) ⟨_, rfl, fun h => ?_, fun _ => os_nil ?_⟩)⟩)⟩))))))))))))
  · rw [decide_eq_true rfl] at h; cases h
  refine os_seq (os_if (ok_t (ok_op ?_)))
  refine ok_lcT P thD thD (fun _ => false) (by omega) (ok_kseq (ok_var rfl ⟨rfl, hs⟩)) (fun x hx => ?_) ?_
  · have hxT := h.sub x hx
    obtain ⟨s, e1, e2⟩ := dig_in (th_lt8 hr hxT) c
    refine ok_gn ⟨rfl, ok_tor (ok_t (ok_op (ok_var rfl (ok_cb (ok_acons (ok_var rfl (ok_anil (Ok.of (lthr_ok hr) (Ok.of (in_th (neg := true) (ps := thL w ys.length) rfl nofun) ⟨_, rfl, fun h => ?_, fun _ => ?_⟩)))))))))⟩
    · rw [decide_eq_true hxT] at h; cases h
    exact ok_t (ok_op (ok_cb (ok_acons (ok_op (ok_var rfl (ok_c (Ok.of (th1 x c) (ok_anil (Ok.of e1 (ok_c (Ok.of e2 ⟨_, rfl, rfl, rfl, fun h => Bool.noConfusion h⟩)))))))))))
  rw [filter_none]
  refine ok_lst (ok_anil ⟨Nat.le_of_ble_eq_true rfl, _, _, rfl, _, rfl, fun h => Bool.noConfusion h, fun _ => os_nil ?_⟩)
  refine os_ret (ok_op ?_)
  have hrg : Ok ((aCons (mOp subD (mVar 3) (mC (.int 1))) (aNil)) [some (.lst (ys.map D.str)), some (.ref p), some (.lst [thD a, thD t]), some (.int ((m + 1 : Nat) : Int)), none, none] c) fun xs c1 => c1 = c ∧ xs = [.int (m : Int)] :=
    ok_acons (ok_op (ok_var rfl (ok_c ⟨_, _, rfl, ok_anil ⟨rfl, by congr 2; omega⟩⟩)))
  refine ok_mlc (r1_eq hrg (by omega)) (by simp; omega) (ok_lcT (List.range m) (fun i => D.int (i : Nat)) (fun i => D.int (i : Nat)) (fun _ => false) (by simp; omega) (ok_kr hrg (by omega)) (fun i hi => ?_) ?_)
  · have hi := List.mem_range.mp hi
    obtain ⟨x, hx⟩ : ∃ x, P[i]? = some x := ⟨_, List.getElem?_eq_getElem (by omega)⟩
    obtain ⟨y, hy⟩ : ∃ y, P[i + 1]? = some y := ⟨_, List.getElem?_eq_getElem (by omega)⟩
    have hxT := h.sub x (List.mem_of_getElem? hx)
    have hyT := h.sub y (List.mem_of_getElem? hy)
    obtain ⟨_, h2, h3⟩ := blw_mem.mp (h.lk.at hx hy)
    have i1 : itemD (.ref p) (.int (i : Nat)) c = .ok (thD x) c := item_seq hs (by rw [List.getElem?_map, hx]; rfl)
    have i2 : itemD (.ref p) (.int ((i : Int) + 1)) c = .ok (thD y) c := by
      have := item_seq (i := i + 1) hs (x := thD y) (by rw [List.getElem?_map, hy]; rfl)
      rwa [Int.natCast_succ] at this
    refine ok_gn ⟨rfl, ok_tnot (ok_t (ok_cb (ok_acons (ok_var rfl (ok_acons (ok_op (ok_var rfl (ok_var rfl (Ok.of i1 ?_)))))))))⟩
    refine ok_acons (ok_op (ok_var rfl (ok_op (ok_var rfl (ok_c ⟨_, _, rfl, Ok.of i2 (ok_anil (Ok.of (lover_ok hr (thL_mem.mp hxT) (thL_mem.mp hyT)) ⟨_, rfl, ?_, rfl, fun h => Bool.noConfusion h⟩))⟩)))))
    rw [h3, beq_eq_false_iff_ne.mpr h2]
    rfl
  rw [filter_none]
  exact ok_lst (ok_anil ⟨Nat.le_of_ble_eq_true rfl, _, _, rfl, rfl, rfl⟩)

/-! ### _law_right -/
theorem ne_refs {P : List Th} {i j : Nat} {c : Cs} (hi : c[i]? = some (.lst (P.map thD))) (hj : c[j]? = some (.lst (P.map thD))) : neX (.ref i) (.ref j) c = .ok (.bl false) c := by
  have py : ∀ k : Nat, c[k]? = some (.lst (P.map thD)) → toPyC 30 c (.ref k) = some (.list (P.map thP)) := fun k h => by
    have e : toPyC 30 c (.ref k) = (match c[k]? with
      | some (.lst xs) => (mapO (toPyC 29 c) xs).map .list
      | some (.dct kvs) => (mapO (fun p => (toPyC 29 c p.2).map fun q => (kP p.1, q)) kvs).map .dict
      | some (.frz d) => toPyC 29 c d
      | _ => none) := rfl
    rw [e, h]
    show (mapO (toPyC 29 c) (P.map thD)).map PyData.list = _
    rw [mapO_map (g := thP) fun p => rfl]
    rfl
  have sh : SeqAt.shaped (.list (P.map thP)) = true := by
    have h1 : (PyData.list (P.map thP)).canLay0 = true := thP_lay P
    have h2 := depth_ths P
    have h3 : (PyData.list (P.map thP)).depth ≤ 64 := by simp only [PyData.depth]; omega
    unfold SeqAt.shaped
    rw [h1, decide_eq_true h3]
    rfl
  show eqQ true (.ref i) (.ref j) c = _
  unfold eqQ
  rw [py i hi, py j hj]
  simp only []
  rw [if_pos ⟨sh, sh⟩]
  show R.ok (D.bl (!PyData.eqvAll (P.map thP) (P.map thP))) c = _
  rw [eqv_ths, decide_eq_true rfl]
  rfl
theorem cut3_map {α β : Type} (f : α → β) (xs : List α) (i j k : Option Int) : cut3 (xs.map f) i j k = (cut3 xs i j k).map f := by
  unfold cut3
  rw [List.length_map, List.map_filterMap]
  refine congrArg (fun g => List.filterMap g _) (funext fun n => ?_)
  simp
theorem cut3_mem {α : Type} {xs : List α} {i j k : Option Int} {x : α} (h : x ∈ cut3 xs i j k) : x ∈ xs := by
  unfold cut3 at h
  obtain ⟨n, _, e⟩ := List.mem_filterMap.mp h
  exact List.mem_of_getElem? e
theorem cut3_len {α : Type} (xs : List α) (i j k : Option Int) : (cut3 xs i j k).length ≤ (sliceRange (sliceBounds i j k xs.length).1 (sliceBounds i j k xs.length).2.1 (sliceBounds i j k xs.length).2.2).length := by
  unfold cut3
  exact List.length_filterMap_le _ _
theorem sl_some {T : List Th} {i j : Option Int} {k : Int} {c : Cs} (hk : k ≠ 0) (hl : (sliceRange (sliceBounds i j (some k) T.length).1 (sliceBounds i j (some k) T.length).2.1 (sliceBounds i j (some k) T.length).2.2).length ≤ 16) :
    ∃ S : List Th, sl3 (.lst (T.map thD)) i j (some k) c = .ok (.lst (S.map thD)) c ∧ S.length ≤ 16 ∧ ∀ x ∈ S, x ∈ T := by
  have hz : sizeLine = 16777216 := sizeLine_eq
  have h1 := Nat.le_trans (cut3_len T i j (some k)) hl
  refine ⟨cut3 T i j (some k), ?_, h1, fun x h => cut3_mem h⟩
  show (if (some k : Option Int) ≠ some 0 ∧ (cut3 (T.map thD) i j (some k)).length ≤ sizeLine then (.ok (.lst (cut3 (T.map thD) i j (some k))) c : Mi.R D) else .stuck) = _
  rw [cut3_map, if_pos ⟨fun e => hk (Option.some.inj e), by rw [List.length_map]; omega⟩]
theorem len4 : ∀ n, n < 17 → ∀ i, i < 4 → (sliceRange (sliceBounds (some (i : Nat)) none (some 4) n).1 (sliceBounds (some (i : Nat)) none (some 4) n).2.1 (sliceBounds (some (i : Nat)) none (some 4) n).2.2).length ≤ 16 := by decide +kernel
theorem len3 : ∀ n, n < 17 → (sliceRange (sliceBounds none none (some 3) n).1 (sliceBounds none none (some 3) n).2.1 (sliceBounds none none (some 3) n).2.2).length ≤ 16 := by decide +kernel
theorem os_forXD {α : Type} {a : ME} {g : MG} {f : MS} {l : Ls} {c : Cs} {QS : Fl → Cs → Prop} (enc : α → D) (P : List α → Ls → Cs → Prop) (ha : Ok (a l c) fun x c1 => ∃ xs, xs.length ≤ 1000000 ∧ treeSeq x = some (xs.map enc) ∧ P xs l c1)
    (hd : ∀ l c, P [] l c → QS (.nx l) c)
    (ht : ∀ x rest l c, P (x :: rest) l c → Ok (g (enc x) l c) fun l1 c1 => OkS (f l1 c1) fun fl c2 => match fl with
      | .nx l2 => P rest l2 c2
      | .ct l2 => P rest l2 c2
      | .bk l2 => QS (.nx l2) c2
      | .rt d => QS (.rt d) c2) : OkS (sForW (kAny a) g f l c) QS := by
  obtain ⟨x, c1, e, xs, hl, h1, h2⟩ := ha
  exact os_forX xs enc P hl ⟨x, c1, e, h1, h2⟩ hd ht
theorem thL_last {ys : List Str} {w : Nat} (hr : RwS ys w) : ∃ z, (thL w ys.length).getLast? = some z ∧ z ∈ thL w ys.length := by
  have w1 := hr.w1
  have hl : 0 < (thL w ys.length).length := by rw [thL_len]; omega
  cases q : (thL w ys.length).getLast? with
  | none => rw [List.getLast?_eq_none_iff.mp q] at hl; exact absurd hl (Nat.lt_irrefl _)
  | some z => exact ⟨z, rfl, List.mem_of_getLast? q⟩
theorem lright_ok {c : Cs} {k : Nat} {n : Int} {ys : List Str} {w : Nat} {Q : D → Cs → Prop} (hb : Bx c k n) (hn : n ≤ 800000) (hr : RwS ys w)
    (q : ∀ c', Q (.bl true) c') : Ok (g_law_right [.ref k, .lst (ys.map D.str)] c) Q := by
  have hz : sizeLine = 16777216 := sizeLine_eq
  have hT := thL_len16 hr
  refine Ok.fun rfl ?_
  unfold c_law_right
  refine os_seq (os_set (ok_clmake (ok_acons (ok_var rfl (ok_anil ⟨_, ys, w, rfl, hr.seqL c, hr, ?_⟩)))))
  have bb := bx_pfx hb (Pfx.one c [Cell.frz (clo ys)])
  refine os_seq (os_forXD thD (fun rest l _ => (∀ t ∈ rest, t ∈ thL w ys.length) ∧ ∃ o3 o5 o6 o9 o10, l = [some (.ref k), some (.lst (ys.map D.str)), some (clo ys), o3, none, o5, o6, none, none, o9, o10]) ?_ ?_ ?_)
  · refine ok_sl3 (ok_cb (ok_acons (ok_var rfl (ok_anil (Ok.of (lthr_ok hr) ?_)))))
    refine ok_osome (ok_cb (ok_acons (ok_var rfl (ok_acons (ok_c (ok_anil (take_gr bb (by omega) (by decide) (by decide) fun u c4 u0 u1 b4 G4 l4 => ?_)))))))
    obtain ⟨i, rfl⟩ := Int.eq_ofNat_of_zero_le u0
    obtain ⟨S, e1, e2, e3⟩ := sl_some (T := thL w ys.length) (i := some (i : Nat)) (j := none) (k := 4) (c := c4) (by decide) (len4 _ (by omega) i (by omega))
    exact ⟨_, rfl, ok_onone (ok_osome (ok_c ⟨_, rfl, Ok.of e1 ⟨S, by omega, rfl, e3, _, _, _, _, _, rfl⟩⟩))⟩
  · rintro l c1 ⟨_, o3, o5, o6, o9, o10, rfl⟩
    obtain ⟨z, hzl, hzT⟩ := thL_last hr
    have hlst : ∀ c', itemD (.lst ((thL w ys.length).map thD)) (.int (-1)) c' = .ok (thD z) c' := fun c' => item_last rfl (by rw [List.getLast?_map, hzl]; rfl)
    refine os_seq (os_asg (ok_tup (ok_acons (ok_clmake (ok_acons (ok_cb (ok_acons (ok_var rfl (ok_anil ?_)))))))))
    refine ⟨.tup (ys.map D.str), c1, rfl, ok_anil ⟨_, ys, w, rfl, hr.seqT _, hr, ?_⟩⟩
    refine ok_acons (ok_op (ok_cb (ok_acons (ok_var rfl (ok_anil (Ok.of (lthr_ok hr) (ok_un (ok_c ⟨_, _, rfl, Ok.of (hlst _) (ok_anil ⟨Nat.le_of_ble_eq_true rfl, ⟨_, _, rfl, ?_⟩⟩)⟩))))))))
    refine os_seq (os_set (ok_sl3 (ok_cb (ok_acons (ok_var rfl (ok_anil (Ok.of (lthr_ok hr) (ok_onone (ok_onone (ok_osome (ok_c ⟨_, rfl, ?_⟩)))))))))))
    obtain ⟨S, e1, e2, e3⟩ := sl_some (T := thL w ys.length) (i := none) (j := none) (k := 3) (c := c1 ++ [Cell.frz (clo ys)]) (by decide) (len3 _ (by omega))
    refine Ok.of e1 (os_ret (ok_op ?_))
    refine ok_lcG S thD thD (fun _ => false) (by omega) (ok_ktreeG (ok_var rfl ⟨Pfx.refl _, rfl⟩)) (fun x hx c2 hp => ?_) (fun c2 hp2 => ?_)
    · have hxT := e3 x hx
      refine ok_gn ⟨Pfx.refl _, ok_t (ok_op (ok_cb (ok_acons (ok_var rfl (ok_acons (ok_var rfl (ok_acons (ok_var rfl (ok_anil ?_)))))))))⟩
      refine sp_ok hr hxT hzT (fun h0 c3 p3 => ?_) (fun m h1 h2 h3 h4 c3 p3 => ?_)
      · refine ok_cb (ok_acons (ok_var rfl (ok_acons (ok_var rfl (ok_acons (ok_var rfl (ok_anil (sp_ok hr hxT hzT (fun _ c4 p4 => ?_) (fun m h1 _ _ _ _ _ => absurd h1 (h0 m))))))))))
        have e4 : neX .non .non c4 = .ok (.bl false) c4 := rfl
        exact Ok.of e4 ⟨_, rfl, rfl, p3.trans p4, fun h => Bool.noConfusion h⟩
      · refine ok_cb (ok_acons (ok_var rfl (ok_acons (ok_var rfl (ok_acons (ok_var rfl (ok_anil (sp_ok hr hxT hzT (fun h0 _ _ => absurd h1 (h0 m)) (fun m' _ _ _ _ c4 p4 => ?_)))))))))
        have e5 : (c3 ++ [Cell.lst ((pathOf (blwL ys w) x z).map thD)])[c3.length]? = some (Cell.lst ((pathOf (blwL ys w) x z).map thD)) := by simp
        have e6 := (p4.trans (Pfx.one c4 [Cell.lst ((pathOf (blwL ys w) x z).map thD)])).get e5
        have e4 := ne_refs e6 (j := c4.length) (by simp)
        exact Ok.of e4 ⟨_, rfl, rfl, (p3.trans (Pfx.one _ _)).trans (p4.trans (Pfx.one _ _)), fun h => Bool.noConfusion h⟩
    rw [filter_none]
    exact ok_lst (ok_anil ⟨Nat.le_of_ble_eq_true rfl, _, _, rfl, q _⟩)
  · rintro a rest l c1 ⟨hS, o3, o5, o6, o9, o10, rfl⟩
    have haT := hS a List.mem_cons_self
    refine ok_gn (os_seq (os_set (ok_cb (ok_acons (ok_var rfl (ok_acons (ok_var rfl (ok_anil (len_ok hr haT fun F h1 h2 => ?_)))))))))
    refine os_forY (thL w ys.length) thD (fun rest l c' => (∀ t ∈ rest, t ∈ thL w ys.length) ∧ c'[c1.length]? = some (.dT (lenE (thL w ys.length) F)) ∧ ∃ o6 o9 o10, l = [some (.ref k), some (.lst (ys.map D.str)), some (clo ys), some (thD a), none, some (.ref c1.length), o6, none, none, o9, o10]) (ok_il (ok_cb (ok_acons (ok_var rfl (ok_anil (Ok.of (lthr_ok hr) ⟨_, rfl, rfl, fun t h => h, by simp, _, _, _, rfl⟩)))))) ?_ ?_
    · rintro l c' ⟨_, _, o6, o9, o10, rfl⟩
      exact ⟨fun t h => hS t (List.mem_cons_of_mem _ h), _, _, _, _, _, rfl⟩
    · rintro t rest' l c2 ⟨hR, hc, o6, o9, o10, rfl⟩
      have htT := hR t List.mem_cons_self
      refine ok_gn (os_forR 2 (fun _ l c' => c'[c1.length]? = some (.dT (lenE (thL w ys.length) F)) ∧ ∃ o9 o10, l = [some (.ref k), some (.lst (ys.map D.str)), some (clo ys), some (thD a), none, some (.ref c1.length), some (thD t), none, none, o9, o10]) (by omega) (ok_acons (ok_c (ok_anil ⟨rfl, rfl⟩))) ⟨hc, _, _, rfl⟩ ?_ ?_)
      · rintro l c' ⟨hc, o9, o10, rfl⟩
        exact ⟨fun t h => hR t (List.mem_cons_of_mem _ h), hc, _, _, _, rfl⟩
      · rintro i rest'' l c3 ⟨hc3, o9, o10, rfl⟩
        refine ok_gn (os_seq (os_set (ok_cb (ok_acons (ok_var rfl (ok_acons (ok_var rfl (ok_acons (ok_var rfl (ok_anil ?_))))))))))
        refine sp_ok hr haT htT (fun h0 c4 p4 => ?_) (fun m w1 w2 w3 w4 c4 p4 => ?_)
        · have e1 := rel_none h1 h0
          have hc4 := p4.get hc3
          refine os_if (ok_t (ok_op (ok_op (ok_var rfl (ok_var rfl (Ok.of (dget_len (dct_at hc4) htT) (ok_c (Ok.of (eq_ints _ _ _) ⟨_, rfl, fun _ => ?_, fun h => ?_⟩))))))))
          · exact os_if (ok_t (ok_op (ok_var rfl (ok_c ⟨_, _, rfl, _, rfl, fun h => Bool.noConfusion h, fun _ => os_nil ⟨hc4, _, _, rfl⟩⟩))))
          · have h := of_decide_eq_false h
            omega
        · have e1 := rel_some h1 h2 hT htT w1 w2 w3
          have cc : (c4 ++ [Cell.lst ((pathOf (blwL ys w) a t).map thD)])[c4.length]? = some (Cell.lst ((pathOf (blwL ys w) a t).map thD)) := by simp
          have cs : ∀ z' : Cell, (c4 ++ [Cell.lst ((pathOf (blwL ys w) a t).map thD)]).set c4.length z' = c4 ++ [z'] := fun z' => by simp
          have hpl := w4.len
          have hc4 := (p4.trans (Pfx.one c4 [Cell.lst ((pathOf (blwL ys w) a t).map thD)])).get hc3
          refine os_if (ok_t (ok_op (ok_op (ok_var rfl (ok_var rfl (Ok.of (dget_len (dct_at hc4) htT) (ok_c (Ok.of (eq_ints _ _ _) ⟨_, rfl, fun h => ?_, fun _ => ?_⟩))))))))
          · have h := of_decide_eq_true h
            omega
          · refine os_if (ok_tnot (ok_t (ok_cb (ok_acons (ok_var rfl (ok_acons (ok_var rfl (ok_acons (ok_lst (ok_acons (ok_var rfl (ok_acons (ok_var rfl (ok_anil ⟨Nat.le_of_ble_eq_true rfl, ?_⟩))))))))))))))
            refine ok_acons (ok_op (ok_var rfl (ok_var rfl (Ok.of (dget_len (dct_at hc4) htT) (ok_anil ?_)))))
            rw [e1]
            refine Ok.of (lpr_ok hr w4 (by omega) cc) ⟨_, rfl, fun h => Bool.noConfusion h, fun _ => ?_⟩
            refine os_expr (ok_bm (ok_var rfl ⟨isL_ref cc, ok_acons (ok_c (ok_anil (ok_append cc (by rw [List.length_map]; omega) ?_)))⟩))
            rw [cs]
            exact ⟨(p4.trans (Pfx.one _ _)).get hc3, _, _, rfl⟩

theorem law_true (ns : List Int) (hl : ns.length ≤ 63) : ∃ c, glaw [.ro (ns.map D.int)] [] = .ok (.bl true) c := by
  have hz : sizeLine = 16777216 := sizeLine_eq
  have r : Ok (glaw [.ro (ns.map D.int)] []) fun d _ => d = .bl true := by
    refine Ok.fun rfl ?_
    unfold claw
    walk_at "ok"
    refine ⟨⟨by simp only [List.length_map]; split <;> split <;> omega, by simp only [List.length_map]; split <;> split <;> omega⟩, ?_⟩
    refine OkS.for (fun ds l c => (∃ o1 o2, l = [some (.ro (ns.map D.int)), o1, o2]) ∧ ∀ d ∈ ds, ∃ i : Nat, i ≤ 1000 ∧ d = .int i) ?_ ?_ _ _ _ ?_
    · rintro l c ⟨⟨o1, o2, rfl⟩, _⟩
      walk_at "go"
      rfl
    · rintro d ds l c ⟨⟨o1, o2, rfl⟩, hd⟩
      obtain ⟨i, hi, rfl⟩ := hd d List.mem_cons_self
      refine ok_gn (os_seq (os_set (ok_cb (ok_acons (ok_cb (ok_acons (ok_var rfl (ok_acons (ok_var rfl (ok_anil ?_))))))))))
      refine cell_ok hl hi fun v => ok_anil ?_
      refine box_ok fun c1 b1 l1 f1 => ?_
      refine os_if (ok_tnot (ok_t (ok_cb (ok_acons (ok_var rfl (ok_acons (ok_cb (ok_acons (ok_var rfl (ok_anil ?_))))))))))
      refine rows_any b1 (by omega) fun ys w c2 hr b2 _ => ok_anil ?_
      refine lright_ok b2 (by omega) hr fun c3 => ?_
      refine ⟨_, rfl, fun h => Bool.noConfusion h, fun _ => os_nil ?_⟩
      exact ⟨⟨_, _, rfl⟩, fun d h => hd d (List.mem_cons_of_mem _ h)⟩
    · refine ⟨⟨_, _, rfl⟩, fun d h => ?_⟩
      obtain ⟨i, h1, rfl⟩ := rangeL_mem h
      refine ⟨i, ?_, by rw [Int.zero_add]⟩
      simp only [List.length_map] at h1
      revert h1
      split <;> split <;> omega
  obtain ⟨d, c, e, rfl⟩ := r
  exact ⟨c, e⟩

end

end L2.Lw
open PySem PySem.W PyProof.Rows
set_option maxRecDepth 100000 in
set_option maxHeartbeats 0 in
theorem PySem.Challenge.cw_weavegraph_k15_shortest_paths_holds : PySem.Challenge.rw_weavegraph_k15_shortest_paths.Holds := by
  w_on; o_law; k_head; (case hw => w_witness2)
  k_fill
  refine L2.Mi.law_g (l := PySem.Challenge.rw_weavegraph_k15_shortest_paths) (n := 63) (k := 11) (x := "_law_script") (g := fun _ => L2.Lw.glaw) rfl (by decide) rfl ⟨rfl, by decide, by decide⟩ (fun w h Y => PySem.W.kIn_of Y) (fun w h Y => ⟨fun p hp => (nomatch hp), fun p hp => (nomatch hp), fun p hp => (nomatch hp)⟩) ?F (fun _ ns hl => L2.Lw.law_true ns hl)
  case F =>
    intro w mg fa h KX G hmg
    refine' L2.Lw.law_fin KX G hmg ?z_all ?z_bool ?z_dict ?z_int ?z_isinstance ?z_len ?z_list ?z_max ?z_min ?z_range ?z_repr ?z_str ?z_tuple ?a_KINDS ?l_KINDS ?a_SIGNS ?z_super ?z_third ?z_top ?xaInvalidCloth ?xcInvalidCloth ?xtInvalidCloth ?xsInvalidCloth ?xbInvalidCloth ?xiInvalidCloth ?xyInvalidCloth ?xlInvalidCloth ?xoInvalidCloth ?xdInvalidCloth ?xvInvalidCloth ?xfInvalidCloth ?xeInvalidCloth ?xmInvalidCloth ?xpInvalidCloth ?xnInvalidCloth ?xqInvalidCloth ?xrInvalidCloth ?xkInvalidCloth ?xgInvalidCloth ?xhInvalidCloth ?xjInvalidCloth ?xaInvalidCrossing ?xcInvalidCrossing ?xtInvalidCrossing ?xsInvalidCrossing ?xbInvalidCrossing ?xiInvalidCrossing ?xyInvalidCrossing ?xlInvalidCrossing ?xoInvalidCrossing ?xdInvalidCrossing ?xvInvalidCrossing ?xfInvalidCrossing ?xeInvalidCrossing ?xmInvalidCrossing ?xpInvalidCrossing ?xnInvalidCrossing ?xqInvalidCrossing ?xrInvalidCrossing ?xkInvalidCrossing ?xgInvalidCrossing ?xhInvalidCrossing ?xjInvalidCrossing ?xaInvalidRows ?xcInvalidRows ?xtInvalidRows ?xsInvalidRows ?xbInvalidRows ?xiInvalidRows ?xyInvalidRows ?xlInvalidRows ?xoInvalidRows ?xdInvalidRows ?xvInvalidRows ?xfInvalidRows ?xeInvalidRows ?xmInvalidRows ?xpInvalidRows ?xnInvalidRows ?xqInvalidRows ?xrInvalidRows ?xkInvalidRows ?xgInvalidRows ?xhInvalidRows ?xjInvalidRows ?xaInvalidThread ?xcInvalidThread ?xtInvalidThread ?xsInvalidThread ?xbInvalidThread ?xiInvalidThread ?xyInvalidThread ?xlInvalidThread ?xoInvalidThread ?xdInvalidThread ?xvInvalidThread ?xfInvalidThread ?xeInvalidThread ?xmInvalidThread ?xpInvalidThread ?xnInvalidThread ?xqInvalidThread ?xrInvalidThread ?xkInvalidThread ?xgInvalidThread ?xhInvalidThread ?xjInvalidThread ?caCloth ?cpCloth ?cdCloth ?coCloth ?csCloth ?fn_Cloth_kept_rows ?rdCloth ?rgCloth ?cv_Cloth_MOST ?isp ?ist ?iscCloth ?isoCloth ?isiCloth ?isyCloth ?isbCloth_NoneType ?isbCloth_bool ?isbCloth_int ?isbCloth_str ?isbCloth_list ?isbCloth_tuple ?isbCloth_dict ?sfCloth____contains__ ?snCloth____contains__ ?sgCloth____contains__ ?ssCloth____contains__ ?lCloth____contains__ ?cCloth____contains__ ?kCloth____contains__ ?sfCloth____getitem__ ?snCloth____getitem__ ?sgCloth____getitem__ ?ssCloth____getitem__ ?lCloth____getitem__ ?cCloth____getitem__ ?kCloth____getitem__ ?kiCloth ?kfCloth ?knCloth ?kkCloth ?lCloth____init__ ?cCloth____init__ ?kCloth____init__ ?mfCloth__below ?mnCloth__below ?lCloth__below ?cCloth__below ?kCloth__below ?mfCloth__crossed ?mnCloth__crossed ?lCloth__crossed ?cCloth__crossed ?kCloth__crossed ?mfCloth__over ?mnCloth__over ?lCloth__over ?cCloth__over ?kCloth__over ?mfCloth__threads ?mnCloth__threads ?lCloth__threads ?cCloth__threads ?kCloth__threads ?pfCloth__warp_count ?pgCloth__warp_count ?ptCloth__warp_count ?prCloth__warp_count ?lCloth__warp_count ?cCloth__warp_count ?kCloth__warp_count ?pfCloth__weft_count ?pgCloth__weft_count ?ptCloth__weft_count ?prCloth__weft_count ?lCloth__weft_count ?cCloth__weft_count ?kCloth__weft_count ?a_law_box ?l_law_box ?c_law_box ?k_law_box ?a_law_cell ?l_law_cell ?c_law_cell ?k_law_cell ?ais_sequence ?lis_sequence ?cis_sequence ?kis_sequence ?ais_pattern ?lis_pattern ?cis_pattern ?kis_pattern ?aare_rows ?lare_rows ?care_rows ?kare_rows ?a_law_threads ?l_law_threads ?c_law_threads ?k_law_threads ?a_law_take ?l_law_take ?c_law_take ?k_law_take ?a_law_over ?l_law_over ?c_law_over ?k_law_over ?a_law_lengths ?l_law_lengths ?c_law_lengths ?k_law_lengths ?aneed_cloth ?lneed_cloth ?cneed_cloth ?kneed_cloth ?ais_integer ?lis_integer ?cis_integer ?kis_integer ?ais_thread ?lis_thread ?cis_thread ?kis_thread ?aneed_member ?lneed_member ?cneed_member ?kneed_member ?acrossing_of ?lcrossing_of ?ccrossing_of ?kcrossing_of ?ais_crossing ?lis_crossing ?cis_crossing ?kis_crossing ?apaths_from ?lpaths_from ?cpaths_from ?kpaths_from ?apath_between ?lpath_between ?cpath_between ?kpath_between ?ashortest_path ?lshortest_path ?cshortest_path ?kshortest_path ?a_law_path_right ?l_law_path_right ?c_law_path_right ?k_law_path_right ?a_law_right ?l_law_right ?c_law_right ?k_law_right ?a_law_rows ?l_law_rows ?c_law_rows ?k_law_rows ?alaw ?llaw ?claw ?klaw
    (case z_all => k_is)
    (case z_bool => k_is)
    (case z_dict => k_is)
    (case z_int => k_is)
    (case z_isinstance => k_is)
    (case z_len => k_is)
    (case z_list => k_is)
    (case z_max => k_is)
    (case z_min => k_is)
    (case z_range => k_is)
    (case z_repr => k_is)
    (case z_str => k_is)
    (case z_tuple => k_is)
    (case a_KINDS => k_is)
    (case l_KINDS => k_is)
    (case a_SIGNS => k_is)
    (case z_super => k_is)
    (case z_third => k_is)
    (case z_top => first | rfl | decide +kernel)
    (case xaInvalidCloth => k_is)
    (case xcInvalidCloth => first | k_is | rfl)
    (case xtInvalidCloth => first | rfl | decide +kernel | k_is)
    (case xsInvalidCloth => first | k_is | rfl | decide +kernel)
    (case xbInvalidCloth => k_is)
    (case xiInvalidCloth => k_is)
    (case xyInvalidCloth => k_is)
    (case xlInvalidCloth => k_is)
    (case xoInvalidCloth => k_is)
    (case xdInvalidCloth => k_is)
    (case xvInvalidCloth => rfl)
    (case xfInvalidCloth => first | rfl | decide +kernel)
    (case xeInvalidCloth => k_is)
    (case xmInvalidCloth => k_is)
    (case xpInvalidCloth => k_is)
    (case xnInvalidCloth => k_is)
    (case xqInvalidCloth => k_is)
    (case xrInvalidCloth => k_is)
    (case xkInvalidCloth => k_is)
    (case xgInvalidCloth => k_is)
    (case xhInvalidCloth => k_is)
    (case xjInvalidCloth => k_is)
    (case xaInvalidCrossing => k_is)
    (case xcInvalidCrossing => first | k_is | rfl)
    (case xtInvalidCrossing => first | rfl | decide +kernel | k_is)
    (case xsInvalidCrossing => first | k_is | rfl | decide +kernel)
    (case xbInvalidCrossing => k_is)
    (case xiInvalidCrossing => k_is)
    (case xyInvalidCrossing => k_is)
    (case xlInvalidCrossing => k_is)
    (case xoInvalidCrossing => k_is)
    (case xdInvalidCrossing => k_is)
    (case xvInvalidCrossing => rfl)
    (case xfInvalidCrossing => first | rfl | decide +kernel)
    (case xeInvalidCrossing => k_is)
    (case xmInvalidCrossing => k_is)
    (case xpInvalidCrossing => k_is)
    (case xnInvalidCrossing => k_is)
    (case xqInvalidCrossing => k_is)
    (case xrInvalidCrossing => k_is)
    (case xkInvalidCrossing => k_is)
    (case xgInvalidCrossing => k_is)
    (case xhInvalidCrossing => k_is)
    (case xjInvalidCrossing => k_is)
    (case xaInvalidRows => k_is)
    (case xcInvalidRows => first | k_is | rfl)
    (case xtInvalidRows => first | rfl | decide +kernel | k_is)
    (case xsInvalidRows => first | k_is | rfl | decide +kernel)
    (case xbInvalidRows => k_is)
    (case xiInvalidRows => k_is)
    (case xyInvalidRows => k_is)
    (case xlInvalidRows => k_is)
    (case xoInvalidRows => k_is)
    (case xdInvalidRows => k_is)
    (case xvInvalidRows => rfl)
    (case xfInvalidRows => first | rfl | decide +kernel)
    (case xeInvalidRows => k_is)
    (case xmInvalidRows => k_is)
    (case xpInvalidRows => k_is)
    (case xnInvalidRows => k_is)
    (case xqInvalidRows => k_is)
    (case xrInvalidRows => k_is)
    (case xkInvalidRows => k_is)
    (case xgInvalidRows => k_is)
    (case xhInvalidRows => k_is)
    (case xjInvalidRows => k_is)
    (case xaInvalidThread => k_is)
    (case xcInvalidThread => first | k_is | rfl)
    (case xtInvalidThread => first | rfl | decide +kernel | k_is)
    (case xsInvalidThread => first | k_is | rfl | decide +kernel)
    (case xbInvalidThread => k_is)
    (case xiInvalidThread => k_is)
    (case xyInvalidThread => k_is)
    (case xlInvalidThread => k_is)
    (case xoInvalidThread => k_is)
    (case xdInvalidThread => k_is)
    (case xvInvalidThread => rfl)
    (case xfInvalidThread => first | rfl | decide +kernel)
    (case xeInvalidThread => k_is)
    (case xmInvalidThread => k_is)
    (case xpInvalidThread => k_is)
    (case xnInvalidThread => k_is)
    (case xqInvalidThread => k_is)
    (case xrInvalidThread => k_is)
    (case xkInvalidThread => k_is)
    (case xgInvalidThread => k_is)
    (case xhInvalidThread => k_is)
    (case xjInvalidThread => k_is)
    (case caCloth => k_is)
    (case cpCloth => k_is)
    (case cdCloth => k_is)
    (case coCloth => k_is)
    (case csCloth => k_is)
    (case fn_Cloth_kept_rows => k_is)
    (case rdCloth => k_is)
    (case rgCloth => k_is)
    (case cv_Cloth_MOST => k_is)
    (case isp => first | k_is | rfl | decide +kernel)
    (case ist => first | k_is | rfl | decide +kernel)
    (case iscCloth => first | k_is | rfl | decide +kernel)
    (case isoCloth => first | k_is | rfl | decide +kernel)
    (case isiCloth => first | k_is | rfl | decide +kernel)
    (case isyCloth => first | k_is | rfl | decide +kernel)
    (case isbCloth_NoneType => first | k_is | rfl | decide +kernel)
    (case isbCloth_bool => first | k_is | rfl | decide +kernel)
    (case isbCloth_int => first | k_is | rfl | decide +kernel)
    (case isbCloth_str => first | k_is | rfl | decide +kernel)
    (case isbCloth_list => first | k_is | rfl | decide +kernel)
    (case isbCloth_tuple => first | k_is | rfl | decide +kernel)
    (case isbCloth_dict => first | k_is | rfl | decide +kernel)
    (case sfCloth____contains__ => k_is)
    (case snCloth____contains__ => k_is)
    (case sgCloth____contains__ => k_is)
    (case ssCloth____contains__ => first | k_is | rfl | decide +kernel)
    (case lCloth____contains__ => k_is)
    (case cCloth____contains__ => k_is)
    (case kCloth____contains__ => k_is)
    (case sfCloth____getitem__ => k_is)
    (case snCloth____getitem__ => k_is)
    (case sgCloth____getitem__ => k_is)
    (case ssCloth____getitem__ => first | k_is | rfl | decide +kernel)
    (case lCloth____getitem__ => k_is)
    (case cCloth____getitem__ => k_is)
    (case kCloth____getitem__ => k_is)
    (case kiCloth => k_is)
    (case kfCloth => k_is)
    (case knCloth => k_is)
    (case kkCloth => k_is)
    (case lCloth____init__ => k_is)
    (case cCloth____init__ => k_is)
    (case kCloth____init__ => k_is)
    (case mfCloth__below => k_is)
    (case mnCloth__below => k_is)
    (case lCloth__below => k_is)
    (case cCloth__below => k_is)
    (case kCloth__below => k_is)
    (case mfCloth__crossed => k_is)
    (case mnCloth__crossed => k_is)
    (case lCloth__crossed => k_is)
    (case cCloth__crossed => k_is)
    (case kCloth__crossed => k_is)
    (case mfCloth__over => k_is)
    (case mnCloth__over => k_is)
    (case lCloth__over => k_is)
    (case cCloth__over => k_is)
    (case kCloth__over => k_is)
    (case mfCloth__threads => k_is)
    (case mnCloth__threads => k_is)
    (case lCloth__threads => k_is)
    (case cCloth__threads => k_is)
    (case kCloth__threads => k_is)
    (case pfCloth__warp_count => k_is)
    (case pgCloth__warp_count => k_is)
    (case ptCloth__warp_count => k_is)
    (case prCloth__warp_count => k_is)
    (case lCloth__warp_count => k_is)
    (case cCloth__warp_count => k_is)
    (case kCloth__warp_count => k_is)
    (case pfCloth__weft_count => k_is)
    (case pgCloth__weft_count => k_is)
    (case ptCloth__weft_count => k_is)
    (case prCloth__weft_count => k_is)
    (case lCloth__weft_count => k_is)
    (case cCloth__weft_count => k_is)
    (case kCloth__weft_count => k_is)
    (case a_law_box => k_is)
    (case l_law_box => k_is)
    (case c_law_box => k_is)
    (case k_law_box => k_is)
    (case a_law_cell => k_is)
    (case l_law_cell => k_is)
    (case c_law_cell => k_is)
    (case k_law_cell => k_is)
    (case ais_sequence => k_is)
    (case lis_sequence => k_is)
    (case cis_sequence => k_is)
    (case kis_sequence => k_is)
    (case ais_pattern => k_is)
    (case lis_pattern => k_is)
    (case cis_pattern => k_is)
    (case kis_pattern => k_is)
    (case aare_rows => k_is)
    (case lare_rows => k_is)
    (case care_rows => k_is)
    (case kare_rows => k_is)
    (case a_law_threads => k_is)
    (case l_law_threads => k_is)
    (case c_law_threads => k_is)
    (case k_law_threads => k_is)
    (case a_law_take => k_is)
    (case l_law_take => k_is)
    (case c_law_take => k_is)
    (case k_law_take => k_is)
    (case a_law_over => k_is)
    (case l_law_over => k_is)
    (case c_law_over => k_is)
    (case k_law_over => k_is)
    (case a_law_lengths => k_is)
    (case l_law_lengths => k_is)
    (case c_law_lengths => k_is)
    (case k_law_lengths => k_is)
    (case aneed_cloth => k_is)
    (case lneed_cloth => k_is)
    (case cneed_cloth => k_is)
    (case kneed_cloth => k_is)
    (case ais_integer => k_is)
    (case lis_integer => k_is)
    (case cis_integer => k_is)
    (case kis_integer => k_is)
    (case ais_thread => k_is)
    (case lis_thread => k_is)
    (case cis_thread => k_is)
    (case kis_thread => k_is)
    (case aneed_member => k_is)
    (case lneed_member => k_is)
    (case cneed_member => k_is)
    (case kneed_member => k_is)
    (case acrossing_of => k_is)
    (case lcrossing_of => k_is)
    (case ccrossing_of => k_is)
    (case kcrossing_of => k_is)
    (case ais_crossing => k_is)
    (case lis_crossing => k_is)
    (case cis_crossing => k_is)
    (case kis_crossing => k_is)
    (case apaths_from => k_is)
    (case lpaths_from => k_is)
    (case cpaths_from => k_is)
    (case kpaths_from => k_is)
    (case apath_between => k_is)
    (case lpath_between => k_is)
    (case cpath_between => k_is)
    (case kpath_between => k_is)
    (case ashortest_path => k_is)
    (case lshortest_path => k_is)
    (case cshortest_path => k_is)
    (case kshortest_path => k_is)
    (case a_law_path_right => k_is)
    (case l_law_path_right => k_is)
    (case c_law_path_right => k_is)
    (case k_law_path_right => k_is)
    (case a_law_right => k_is)
    (case l_law_right => k_is)
    (case c_law_right => k_is)
    (case k_law_right => k_is)
    (case a_law_rows => k_is)
    (case l_law_rows => k_is)
    (case c_law_rows => k_is)
    (case k_law_rows => k_is)
    (case alaw => k_is)
    (case llaw => k_is)
    (case claw => k_is)
    (case klaw => k_is)

