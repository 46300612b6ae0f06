import PyProof.Rows.All
import Wide.All
import OpenK.AllK
import Wide.FinOn
import HandS.Lambda
import HandS.ForMost
import HandS.IsInst
import HandS.Exc
import HandS.JoinGen
import KE.KDictKeyed
import HandS.Style
import HandS.Deep
import HandS.RaiseMore
import HandS.ExcInit
import KE.KUnpack
import HandS.Text
import HandS.DictEq
import HandS.Flow
import HandS.Defaults
import HandS.StrMore
import KE.KExcSuper
import HandS.TryMany
import HandS.ExcField
import HandS.Property
import HandS.ClsMeth
import KE.KOpsOwn
import KE.KCallOwn
import HandS.FStr
import HandS.Strs
import HandS.Small
import HandS.SlotsOwn
import HandS.Star
import HandS.TupMul
import HandS.Translate
import HandS.More
import HandS.Iter
import KE.GoesEnum
import KE.GoesMore
import KE.KFmtOwn
import HandS.NoneIn
import PyProof.ListStr
import PyProof.P3In
import HandS.SortInts
import HandS.Dict
import KE.KRevSl
import HandS.DictComp
import HandS.TupAny
import HandS.HotCalls
import HandS.SetBool
import HandS.SetFor
import HandS.Zip
import PyProof.TupleOfSeq
import HandS.Conv
import HandS.DictTup
import HandS.TupLen
import KE.KDictPairs
import KE.KDictDisplayH
import KE.KUnpackStar
import HandS.TupSets
import KE.DataFind
import KE.DataMinMax
import HandS.SortKw
import KE.SortKeyHeap
import HandS.OwnEq
import PyProof.NeKinds
import PyProof.WalksMore
import PyProof.TupleIter
import PyProof.DictUpdate
import PyProof.FString3
import PySem.Challenge.RW_weavegraph_k59_cloths_counted
set_option Elab.async false
set_option linter.all false
set_option autoImplicit false
set_option maxRecDepth 100000
set_option maxHeartbeats 8000000
/-! the code objects of defs that make generators or functions, and their tables (printed law by law) -/
namespace L2.Mi
def codeL : List (Nat × Nat) := []
def tabsL : List Nat := codeL.map (·.2)
/-- the defs that hold lambdas: code object, its table, the lambdas' qualified name -/
def lamL : List (Nat × Nat × PySem.Str) := []
def allL : List (Nat × Nat) := codeL ++ lamL.map fun p => (p.1, p.2.1)
def tabsA : List Nat := allL.map (·.2)
end L2.Mi

namespace L2.Mi
open PySem PySem.Spec PyProof.Rows L2

/-! A layer of plain values over HandS: data as trees (D), cells for what is changed, computations R. -/

inductive D where
  | non
  | bl (b : Bool)
  | int (i : Int)
  | str (s : Str)
  | lst (xs : List D)
  | tup (xs : List D)
  | ro (xs : List D)
  | dct (kvs : List (Key × D))
  | ref (k : Nat)
  | obj (C : Str) (fs : List (Str × D))
  | adr (a : Addr)
  | ty (n : String)
  | gh (i : Nat) (G : Addr → Hp → List Addr → Prop)

inductive Cell where
  | lst (xs : List D)
  | dct (kvs : List (Key × D))
  | dT (kvs : List (List Key × D))
  | dTz (kvs : List (List Key × D))
  | dN (P : Program) (w : World) (kvs : List (NestedKey × D))
  | ins (C : Str) (fs : List (Str × D))
  | frz (d : D)

abbrev Cs := List Cell
abbrev Ls := List (Option D)
structure Ex where
  cls : Str
  fs : List (Str × D)

inductive R (α : Type) where
  | stuck
  | ok (a : α) (c : Cs)
  | exc (x : Ex) (c : Cs)

def R.bind {α β : Type} (r : R α) (f : α → Cs → R β) : R β :=
  match r with
  | .stuck => .stuck
  | .ok a c => f a c
  | .exc x c => .exc x c
@[simp] theorem R.bind_ok {α β : Type} (a : α) (c : Cs) (f : α → Cs → R β) : (R.ok a c).bind f = f a c := rfl
@[simp] theorem R.bind_exc {α β : Type} (x : Ex) (c : Cs) (f : α → Cs → R β) : (R.exc x c : R α).bind f = .exc x c := rfl
@[simp] theorem R.bind_stuck {α β : Type} (f : α → Cs → R β) : (R.stuck : R α).bind f = .stuck := rfl

/-- a class, by its name: of the module, or a built-in one -/
def NamV (K : PySem.W.Frag) (n : Str) (v : Value) : Prop := PySem.W.nsIn K mainGlobals n = some (some v) ∨ (PySem.W.nsIn K mainGlobals n = some none ∧ bootBuiltins n = some v)
theorem NamV.one {K : PySem.W.Frag} {n : Str} {v u : Value} (a : NamV K n v) (b : NamV K n u) : v = u := by
  rcases a with a | ⟨a, a2⟩ <;> rcases b with b | ⟨b, b2⟩ <;> rw [a] at b
  · cases b; rfl
  · cases b
  · cases b
  · rw [a2] at b2; cases b2; rfl
/-- tuples that may be keys of a dict: their objects are always known -/
def isInt : D → Bool
  | .int _ => true
  | _ => false
def keyish : List D → Bool
  | [.str _, .int _] => true
  | [.int _, .tup ds] => ds.all isInt
  | .int _ :: ds => ds.all isInt
  | _ => false
/-- I without a -/
def er (I : Hp) (a : Addr) : Hp := fun x => if x = a then none else I x
theorem er_same {I : Hp} {a : Addr} : er I a a = none := if_pos rfl
theorem er_ne {I : Hp} {a b : Addr} (h : b ≠ a) : er I a b = I b := if_neg h
theorem er_at {I : Hp} {a b : Addr} {o : Obj} {ws : List (List Key × V)} {u : HO} (hb : I b = some (.frz o (.dT ws))) (h : I a = some u) (n : ∀ o ws, u ≠ .frz o (.dT ws)) : er I b a = some u := by
  rw [er_ne (fun e => by rw [e, hb] at h; cases h; exact n _ _ rfl)]
  exact h
mutual
inductive Rep (K : PySem.W.Frag) (I : Hp) (m : List Addr) : V → D → Prop where
  | non : Rep K I m .non .non
  | bl (b : Bool) : Rep K I m (.bl b) (.bl b)
  | int (i : Int) : Rep K I m (.int i) (.int i)
  | str (s : Str) : Rep K I m (.str s) (.str s)
  | lst {a : Addr} {vs : List V} {ds : List D} (h : I a = some (.lst vs)) (r : Reps K I m vs ds) : Rep K I m (.ref a) (.lst ds)
  | ro {a : Addr} {vs : List V} {ds : List D} (h : SqL K I a vs) (r : Reps K I m vs ds) : Rep K I m (.ref a) (.ro ds)
  | tup {a : Addr} {vs : List V} {ds : List D} (h : SqT K I a vs) (r : Reps K I m vs ds) (x : I a = some (.tup vs) ∨ keyish ds = false) : Rep K I m (.ref a) (.tup ds)
  | dct {a : Addr} {vs : List (Key × V)} {ds : List (Key × D)} (h : I a = some (.dK vs)) (r : RepK K I m vs ds) : Rep K I m (.ref a) (.dct ds)
  | ref {k : Nat} {a : Addr} (h : m[k]? = some a) : Rep K I m (.ref a) (.ref k)
  | obj {a C dx : Addr} {n : Str} {vs : List (Str × V)} {ds : List (Str × D)} (hn : NamV K n (.ref C)) (h : I a = some (.ins C dx vs)) (r : RepF K I m vs ds) : Rep K I m (.ref a) (.obj n ds)
  | adr (a : Addr) : Rep K I m (.ref a) (.adr a)
  | ty (n : String) : Rep K I m (.ty n) (.ty n)
  | gh {a : Addr} {i : Nat} {G : Addr → Hp → List Addr → Prop} (gm : ∀ (I I' : Hp) (m m' : List Addr), Same I I' → (∀ (k : Nat) (a : Addr), m[k]? = some a → m'[k]? = some a) → G a I m → G a I' m') (ge : ∀ (I : Hp) (m : List Addr) (b : Addr) (o : Obj) (ws : List (List Key × V)), I b = some (.frz o (.dT ws)) → G a I m → G a (er I b) m) (h : G a I m) : Rep K I m (.ref a) (.gh i G)
inductive Reps (K : PySem.W.Frag) (I : Hp) (m : List Addr) : List V → List D → Prop where
  | nil : Reps K I m [] []
  | cons {v : V} {vs : List V} {d : D} {ds : List D} (h : Rep K I m v d) (t : Reps K I m vs ds) : Reps K I m (v :: vs) (d :: ds)
inductive RepK (K : PySem.W.Frag) (I : Hp) (m : List Addr) : List (Key × V) → List (Key × D) → Prop where
  | nil : RepK K I m [] []
  | cons {k : Key} {v : V} {vs : List (Key × V)} {d : D} {ds : List (Key × D)} (h : Rep K I m v d) (t : RepK K I m vs ds) : RepK K I m ((k, v) :: vs) ((k, d) :: ds)
inductive RepF (K : PySem.W.Frag) (I : Hp) (m : List Addr) : List (Str × V) → List (Str × D) → Prop where
  | nil : RepF K I m [] []
  | cons {k : Str} {v : V} {vs : List (Str × V)} {d : D} {ds : List (Str × D)} (h : Rep K I m v d) (t : RepF K I m vs ds) : RepF K I m ((k, v) :: vs) ((k, d) :: ds)
end

theorem sqT_same {K : PySem.W.Frag} {H H' : Hp} {a : Addr} {xs : List V} (e : Same H H') (h : SqT K H a xs) : SqT K H' a xs := by
  rcases h with (h | ⟨o, h⟩) | h
  · exact Or.inl (Or.inl (e _ _ h))
  · exact Or.inl (Or.inr ⟨o, e _ _ h⟩)
  · exact Or.inr h

/-- the cells' addresses grow at the end -/
def Pre (m m' : List Addr) : Prop := ∀ (k : Nat) (a : Addr), m[k]? = some a → m'[k]? = some a
theorem Pre.refl (m : List Addr) : Pre m m := fun _ _ h => h
theorem Pre.trans {m m1 m2 : List Addr} (a : Pre m m1) (b : Pre m1 m2) : Pre m m2 := fun k x h => b k x (a k x h)

section
variable {K : PySem.W.Frag} {I I' : Hp} {m m' : List Addr}
mutual
theorem Rep.mono (s : Same I I') (p : Pre m m') : ∀ {v : V} {d : D}, Rep K I m v d → Rep K I' m' v d
  | _, _, .non => .non
  | _, _, .bl b => .bl b
  | _, _, .int i => .int i
  | _, _, .str x => .str x
  | _, _, .lst h r => .lst (s _ _ h) (Reps.mono s p r)
  | _, _, .ro h r => .ro (s.seq h) (Reps.mono s p r)
  | _, _, .tup h r x => .tup (sqT_same s h) (Reps.mono s p r) (x.imp (fun e => s _ _ e) id)
  | _, _, .dct h r => .dct (s _ _ h) (RepK.mono s p r)
  | _, _, .ref h => .ref (p _ _ h)
  | _, _, .obj hn h r => .obj hn (s _ _ h) (RepF.mono s p r)
  | _, _, .adr a => .adr a
  | _, _, .ty n => .ty n
  | _, _, .gh gm ge h => .gh gm ge (gm _ _ _ _ s p h)
theorem Reps.mono (s : Same I I') (p : Pre m m') : ∀ {v : List V} {d : List D}, Reps K I m v d → Reps K I' m' v d
  | _, _, .nil => .nil
  | _, _, .cons h t => .cons (Rep.mono s p h) (Reps.mono s p t)
theorem RepK.mono (s : Same I I') (p : Pre m m') : ∀ {v : List (Key × V)} {d : List (Key × D)}, RepK K I m v d → RepK K I' m' v d
  | _, _, .nil => .nil
  | _, _, .cons h t => .cons (Rep.mono s p h) (RepK.mono s p t)
theorem RepF.mono (s : Same I I') (p : Pre m m') : ∀ {v : List (Str × V)} {d : List (Str × D)}, RepF K I m v d → RepF K I' m' v d
  | _, _, .nil => .nil
  | _, _, .cons h t => .cons (Rep.mono s p h) (RepF.mono s p t)
end
theorem sqL_er {b a : Addr} {o : Obj} {ws : List (List Key × V)} {xs : List V} (hb : I b = some (.frz o (.dT ws))) (h : SqL K I a xs) : SqL K (er I b) a xs := by
  rcases h with (h | ⟨o, h⟩) | h
  · exact Or.inl (Or.inl (er_at hb h fun _ _ z => nomatch z))
  · exact Or.inl (Or.inr ⟨o, er_at hb h fun _ _ z => nomatch z⟩)
  · exact Or.inr h
theorem sqT_er {b a : Addr} {o : Obj} {ws : List (List Key × V)} {xs : List V} (hb : I b = some (.frz o (.dT ws))) (h : SqT K I a xs) : SqT K (er I b) a xs := by
  rcases h with (h | ⟨o, h⟩) | h
  · exact Or.inl (Or.inl (er_at hb h fun _ _ z => nomatch z))
  · exact Or.inl (Or.inr ⟨o, er_at hb h fun _ _ z => nomatch z⟩)
  · exact Or.inr h
mutual
theorem Rep.er {b : Addr} {o : Obj} {ws : List (List Key × V)} (hb : I b = some (.frz o (.dT ws))) : ∀ {v : V} {d : D}, Rep K I m v d → Rep K (Mi.er I b) m v d
  | _, _, .non => .non
  | _, _, .bl b => .bl b
  | _, _, .int i => .int i
  | _, _, .str x => .str x
  | _, _, .lst h r => .lst (er_at hb h fun _ _ z => nomatch z) (Reps.er hb r)
  | _, _, .ro h r => .ro (sqL_er hb h) (Reps.er hb r)
  | _, _, .tup h r x => .tup (sqT_er hb h) (Reps.er hb r) (x.imp (fun e => er_at hb e fun _ _ z => nomatch z) id)
  | _, _, .dct h r => .dct (er_at hb h fun _ _ z => nomatch z) (RepK.er hb r)
  | _, _, .ref h => .ref h
  | _, _, .obj hn h r => .obj hn (er_at hb h fun _ _ z => nomatch z) (RepF.er hb r)
  | _, _, .adr a => .adr a
  | _, _, .ty n => .ty n
  | _, _, .gh gm ge h => .gh gm ge (ge _ _ _ _ _ hb h)
theorem Reps.er {b : Addr} {o : Obj} {ws : List (List Key × V)} (hb : I b = some (.frz o (.dT ws))) : ∀ {v : List V} {d : List D}, Reps K I m v d → Reps K (Mi.er I b) m v d
  | _, _, .nil => .nil
  | _, _, .cons h t => .cons (Rep.er hb h) (Reps.er hb t)
theorem RepK.er {b : Addr} {o : Obj} {ws : List (List Key × V)} (hb : I b = some (.frz o (.dT ws))) : ∀ {v : List (Key × V)} {d : List (Key × D)}, RepK K I m v d → RepK K (Mi.er I b) m v d
  | _, _, .nil => .nil
  | _, _, .cons h t => .cons (Rep.er hb h) (RepK.er hb t)
theorem RepF.er {b : Addr} {o : Obj} {ws : List (List Key × V)} (hb : I b = some (.frz o (.dT ws))) : ∀ {v : List (Str × V)} {d : List (Str × D)}, RepF K I m v d → RepF K (Mi.er I b) m v d
  | _, _, .nil => .nil
  | _, _, .cons h t => .cons (Rep.er hb h) (RepF.er hb t)
end
theorem Reps.length : ∀ {vs : List V} {ds : List D}, Reps K I m vs ds → vs.length = ds.length
  | _, _, .nil => rfl
  | _, _, .cons _ t => congrArg (· + 1) (Reps.length t)
theorem Reps.get : ∀ {vs : List V} {ds : List D} {i : Nat} {d : D}, Reps K I m vs ds → ds[i]? = some d → ∃ v, vs[i]? = some v ∧ Rep K I m v d
  | _, _, _, _, .nil, e => by simp at e
  | _, _, 0, _, .cons h _, e => by simp at e; subst e; exact ⟨_, rfl, h⟩
  | _, _, i + 1, d, .cons _ t, e => by
    obtain ⟨v, h1, h2⟩ := Reps.get (i := i) (d := d) t (by simpa using e)
    exact ⟨v, by simpa using h1, h2⟩
theorem Reps.append : ∀ {vs ws : List V} {ds es : List D}, Reps K I m vs ds → Reps K I m ws es → Reps K I m (vs ++ ws) (ds ++ es)
  | _, _, _, _, .nil, s => s
  | _, _, _, _, .cons r t, s => .cons r (Reps.append t s)
theorem Reps.set {v : V} {d : D} (r : Rep K I m v d) : ∀ {vs : List V} {ds : List D} (i : Nat), Reps K I m vs ds → Reps K I m (vs.set i v) (ds.set i d)
  | _, _, _, .nil => .nil
  | _, _, 0, .cons _ t => .cons r t
  | _, _, i + 1, .cons q t => .cons q (Reps.set r i t)
theorem Reps.take : ∀ {vs : List V} {ds : List D} (n : Nat), Reps K I m vs ds → Reps K I m (vs.take n) (ds.take n)
  | _, _, 0, _ => .nil
  | _, _, _ + 1, .nil => .nil
  | _, _, n + 1, .cons r t => .cons r (Reps.take n t)
theorem Reps.drop : ∀ {vs : List V} {ds : List D} (n : Nat), Reps K I m vs ds → Reps K I m (vs.drop n) (ds.drop n)
  | _, _, 0, r => r
  | _, _, _ + 1, .nil => .nil
  | _, _, n + 1, .cons _ t => Reps.drop n t
end

/-- dicts with tuple keys -/
def RepT (K : PySem.W.Frag) (I : Hp) (m : List Addr) (vs : List (List Key × V)) (ds : List (List Key × D)) : Prop := vs.map Prod.fst = ds.map Prod.fst ∧ Reps K I m (vs.map Prod.snd) (ds.map Prod.snd)
theorem RepT.mono {K : PySem.W.Frag} {I I' : Hp} {m m' : List Addr} {vs : List (List Key × V)} {ds : List (List Key × D)} (r : RepT K I m vs ds) (s : Same I I') (p : Pre m m') : RepT K I' m' vs ds := ⟨r.1, Reps.mono s p r.2⟩
/-- a key, by what is known of its tuples -/
inductive KeyIs (I : Hp) : NestedKey → V → Prop where
  | num (i : Int) : KeyIs I (.num i) (.int i)
  | text (s : Str) : KeyIs I (.text s) (.str s)
  | tup0 {a : Addr} (h : I a = some (.tup [])) : KeyIs I (.tup []) (.ref a)
  | tup {a : Addr} {k : NestedKey} {v : V} {ks : List NestedKey} {vs : List V} (h : I a = some (.tup (v :: vs))) (p : Paired (KeyIs I) (k :: ks) (v :: vs)) : KeyIs I (.tup (k :: ks)) (.ref a)
theorem KeyIs.mono {I I' : Hp} (s : Same I I') : ∀ {k : NestedKey} {v : V}, KeyIs I k v → KeyIs I' k v := fun {k v} h => by
  induction h using KeyIs.rec (motive_2 := fun ks vs _ => Paired (KeyIs I') ks vs) with
  | num i => exact .num i
  | text x => exact .text x
  | tup0 h => exact .tup0 (s _ _ h)
  | tup h p ih => exact .tup (s _ _ h) ih
  | nil => exact .nil
  | cons h t ih1 ih2 => exact .cons ih1 ih2
theorem KeyIs.er {I : Hp} {b : Addr} {o : Obj} {ws : List (List Key × V)} (hb : I b = some (.frz o (.dT ws))) : ∀ {k : NestedKey} {v : V}, KeyIs I k v → KeyIs (Mi.er I b) k v := fun {k v} h => by
  induction h using KeyIs.rec (motive_2 := fun ks vs _ => Paired (KeyIs (Mi.er I b)) ks vs) with
  | num i => exact .num i
  | text x => exact .text x
  | tup0 h => exact .tup0 (er_at hb h fun _ _ z => nomatch z)
  | tup h p ih => exact .tup (er_at hb h fun _ _ z => nomatch z) ih
  | nil => exact .nil
  | cons h t ih1 ih2 => exact .cons ih1 ih2
/-- a dict with nested keys: its entries, and what the keys are -/
def DNo (P : Program) (w : World) (a : Addr) (ks : List (NestedKey × Addr)) (vs : List V) : HO := .ext fun h => (a == sysModules) = false ∧ ks.length ≤ sizeLine ∧ (ks.map Prod.fst).Nodup ∧ ∃ (us : List Value) (o : Obj) (es : Array DictEntry) (ep : Nat), h.get? a = some o ∧ o.ExactDict ∧ o.data = .dict es ep ∧ Vals vs us ∧ ks.length = us.length ∧
  es.toList = (ks.zip us).map fun x => (⟨x.1.1.hash w, .ref x.1.2, x.2⟩ : DictEntry)
def RepN (K : PySem.W.Frag) (I : Hp) (m : List Addr) (kv : List (NestedKey × Addr) × List V) (ds : List (NestedKey × D)) : Prop := kv.1.map Prod.fst = ds.map Prod.fst ∧ Reps K I m kv.2 (ds.map Prod.snd) ∧ (∀ p ∈ kv.1, KeyIs I p.1 (.ref p.2) ∧ p.1.depth ≤ 8) ∧ allL = []
theorem RepN.mono {K : PySem.W.Frag} {I I' : Hp} {m m' : List Addr} {kv : List (NestedKey × Addr) × List V} {ds : List (NestedKey × D)} (r : RepN K I m kv ds) (s : Same I I') (p : Pre m m') : RepN K I' m' kv ds := ⟨r.1, Reps.mono s p r.2.1, fun q hq => ⟨(r.2.2.1 q hq).1.mono s, (r.2.2.1 q hq).2⟩, r.2.2.2⟩
/-- what a cell is, at its address -/
def CellAt (K : PySem.W.Frag) (I H : Hp) (m : List Addr) (a : Addr) : Cell → Prop
  | .lst ds => I a = none ∧ ∃ vs, H a = some (.lst vs) ∧ Reps K I m vs ds
  | .dct ds => I a = none ∧ ∃ vs, H a = some (.dK vs) ∧ RepK K I m vs ds
  | .dT ds => I a = none ∧ ∃ vs, H a = some (.dT vs) ∧ RepT K I m vs ds
  | .dTz ds => ∃ o vs, I a = some (.frz o (.dT vs)) ∧ RepT K I m vs ds
  | .dN P w ds => I a = none ∧ ∃ vs, H a = some (DNo P w a vs.1 vs.2) ∧ RepN K I m vs ds
  | .ins C ds => I a = none ∧ ∃ dx vs, I dx = none ∧ dx ∉ m ∧ H dx = some (.own a) ∧ (∃ A, NamV K C (.ref A) ∧ H a = some (.ins A dx vs)) ∧ RepF K I m vs ds
  | .frz d => (I a ≠ none) ∧ Rep K I m (.ref a) d

/-- I: what never changes; m: the cells' addresses -/
def Fx (o : HO) : Prop := (∀ ps, o ≠ .tbl ps) ∧ ∀ q, o ≠ .ext q
/-- .. and no tuple: what stays unknown -/
def Fy (o : HO) : Prop := Fx o ∧ ∀ xs, o ≠ .tup xs
def Nt (H : Hp) (p : Addr) : Prop := ∀ o, H p = some o → Fx o
structure Tb (I H : Hp) (m : List Addr) : Prop where
  g : ∀ P ∈ tabsL, GxR.TabG H P ∧ I P = none ∧ P ∉ m
  l : ∀ p ∈ lamL, LamX.TabS H p.2.1 p.2.2 ∧ I p.2.1 = none ∧ p.2.1 ∉ m
theorem Tb.up {I H I' H' : Hp} {m m' : List Addr} (t : Tb I H m) {p : Addr} (hp : Nt H p) (eI : ∀ b, b ≠ p → I' b = I b) (eH : ∀ b, b ≠ p → H' b = H b) (em : ∀ b ∈ m', b ∈ m ∨ b = p) : Tb I' H' m' := by
  refine ⟨fun P hP => ?_, fun q hq => ?_⟩
  · obtain ⟨⟨ps, h1, h2⟩, h3, h4⟩ := t.g P hP
    have ne : P ≠ p := fun e => by subst e; exact (hp _ h1).1 _ rfl
    refine ⟨⟨ps, by rw [eH P ne]; exact h1, h2⟩, by rw [eI P ne]; exact h3, fun z => ?_⟩
    rcases em P z with z | z
    · exact h4 z
    · exact ne z
  · obtain ⟨⟨ps, h1, h2, h5⟩, h3, h4⟩ := t.l q hq
    have ne : q.2.1 ≠ p := fun e => by rw [e] at h1; exact (hp _ h1).1 _ rfl
    refine ⟨⟨ps, by rw [eH _ ne]; exact h1, h2, fun pos cv hc => ?_⟩, by rw [eI _ ne]; exact h3, fun z => ?_⟩
    · obtain ⟨c, e1, e2⟩ := h5 pos cv hc
      have nc : c ≠ p := fun e => by rw [e] at e2; exact (hp _ e2).2 _ rfl
      exact ⟨c, e1, by rw [eH c nc]; exact e2⟩
    · rcases em _ z with z | z
      · exact h4 z
      · exact ne z
theorem nt_none {H : Hp} {p : Addr} (h : H p = none) : Nt H p := fun o e => by rw [h] at e; cases e
theorem nt_some {H : Hp} {p : Addr} {o : HO} (h : H p = some o) (ho : Fx o) : Nt H p := fun o' e => by rw [h] at e; cases e; exact ho
section
variable {I H : Hp} {m : List Addr} {p : Addr}
theorem Tb.upH (t : Tb I H m) (hp : Nt H p) {o : HO} : Tb I (upd H p o) m := t.up hp (fun _ _ => rfl) (fun _ hb => upd_ne hb) (fun _ hb => .inl hb)
theorem Tb.upI (t : Tb I H m) (hp : Nt H p) {o : HO} : Tb (upd I p o) H m := t.up hp (fun _ hb => upd_ne hb) (fun _ _ => rfl) (fun _ hb => .inl hb)
theorem Tb.upHI (t : Tb I H m) (hp : Nt H p) {o o' : HO} : Tb (upd I p o) (upd H p o') m := t.up hp (fun _ hb => upd_ne hb) (fun _ hb => upd_ne hb) (fun _ hb => .inl hb)
theorem Tb.upHm (t : Tb I H m) (hp : Nt H p) {o : HO} : Tb I (upd H p o) (m ++ [p]) := t.up hp (fun _ _ => rfl) (fun _ hb => upd_ne hb) (fun _ hb => (List.mem_append.mp hb).imp_right List.mem_singleton.mp)
theorem Tb.upm (t : Tb I H m) (hp : Nt H p) : Tb I H (m ++ [p]) := t.up hp (fun _ _ => rfl) (fun _ _ => rfl) (fun _ hb => (List.mem_append.mp hb).imp_right List.mem_singleton.mp)
end
structure Rel (K : PySem.W.Frag) (I H : Hp) (m : List Addr) (c : Cs) : Prop where
  same : Same I H
  len : m.length = c.length
  nd : ∀ (i j : Nat) (a : Addr), m[i]? = some a → m[j]? = some a → i = j
  cell : ∀ (k : Nat) (a : Addr) (x : Cell), m[k]? = some a → c[k]? = some x → CellAt K I H m a x
  tabs : Tb I H m

/-- what may happen in between: I and m grow; what is neither known nor a cell stays -/
structure Ext (I : Hp) (m : List Addr) (H I' : Hp) (m' : List Addr) (H' : Hp) : Prop where
  same : Same I I'
  pre : Pre m m'
  fr : ∀ b o, H b = some o → Fy o → I b = none → b ∉ m → H' b = some o ∧ I' b = none ∧ b ∉ m'
theorem Ext.refl (I : Hp) (m : List Addr) (H : Hp) : Ext I m H I m H := ⟨Same.refl I, Pre.refl m, fun _ _ h1 _ h2 h3 => ⟨h1, h2, h3⟩⟩
theorem Ext.trans {I I1 I2 H H1 H2 : Hp} {m m1 m2 : List Addr} (a : Ext I m H I1 m1 H1) (b : Ext I1 m1 H1 I2 m2 H2) : Ext I m H I2 m2 H2 :=
  ⟨a.same.trans b.same, a.pre.trans b.pre, fun x o h1 hT h2 h3 => let ⟨q1, q2, q3⟩ := a.fr x o h1 hT h2 h3; b.fr x o q1 hT q2 q3⟩
theorem Rep.ext {K : PySem.W.Frag} {I I1 H H1 : Hp} {m m1 : List Addr} {v : V} {d : D} (r : Rep K I m v d) (e : Ext I m H I1 m1 H1) : Rep K I1 m1 v d := r.mono e.same e.pre
theorem Reps.ext {K : PySem.W.Frag} {I I1 H H1 : Hp} {m m1 : List Addr} {v : List V} {d : List D} (r : Reps K I m v d) (e : Ext I m H I1 m1 H1) : Reps K I1 m1 v d := r.mono e.same e.pre

/-- the locals -/
structure Locs (K : PySem.W.Frag) (I : Hp) (m : List Addr) (σ : St) (ls : Ls) : Prop where
  len : σ.length = ls.length
  at_ : ∀ (i : Nat) (d : D), ls[i]? = some (some d) → ∃ v, σ[i]? = some (some v) ∧ Rep K I m v d
theorem Locs.ext {K : PySem.W.Frag} {I I1 H H1 : Hp} {m m1 : List Addr} {σ : St} {ls : Ls} (l : Locs K I m σ ls) (e : Ext I m H I1 m1 H1) : Locs K I1 m1 σ ls :=
  ⟨l.len, fun i d h => let ⟨v, h1, h2⟩ := l.at_ i d h; ⟨v, h1, h2.ext e⟩⟩
theorem Locs.er {K : PySem.W.Frag} {I : Hp} {m : List Addr} {σ : St} {ls : Ls} {b : Addr} {o : Obj} {ws : List (List Key × V)} (hb : I b = some (.frz o (.dT ws))) (l : Locs K I m σ ls) : Locs K (Mi.er I b) m σ ls :=
  ⟨l.len, fun i d h => let ⟨v, h1, h2⟩ := l.at_ i d h; ⟨v, h1, h2.er hb⟩⟩
theorem Locs.set {K : PySem.W.Frag} {I : Hp} {m : List Addr} {σ : St} {ls : Ls} {v : V} {d : D} (i : Nat) (l : Locs K I m σ ls) (r : Rep K I m v d) : Locs K I m (σ.set i (some v)) (ls.set i (some d)) := by
  refine ⟨by simp [l.len], fun j e h => ?_⟩
  by_cases hj : i = j
  · subst hj
    by_cases hl : i < ls.length
    · rw [List.getElem?_set_self hl] at h
      cases h
      exact ⟨v, by rw [List.getElem?_set_self (by rw [l.len]; exact hl)], r⟩
    · rw [List.getElem?_eq_none (by simpa using hl)] at h
      cases h
  · rw [List.getElem?_set_ne hj] at h ⊢
    exact l.at_ j e h

/-- an exception, its class and its own dict -/
def RepX (K : PySem.W.Frag) (I : Hp) (m : List Addr) (H : Hp) (cls : Value) (dd : Option Addr) (x : Ex) : Prop :=
  NamV K x.cls cls ∧ ((dd = none ∧ x.fs = []) ∨ ∃ a vs, dd = some a ∧ I a = some (.xd vs) ∧ RepF K I m vs x.fs)

/-- what is wanted behind a computation -/
def After {α β : Type} (rep : Hp → List Addr → β → α → Prop) (K : PySem.W.Frag) (I : Hp) (m : List Addr) (H : Hp) (W : XK) (Q : β → Hp → Prop) : R α → Prop
  | .stuck => False
  | .ok d c => ∀ I' m' H' v, Ext I m H I' m' H' → Rel K I' H' m' c → rep I' m' v d → Q v H'
  | .exc x c => ∀ I' m' H' cls dd, Ext I m H I' m' H' → Rel K I' H' m' c → RepX K I' m' H' cls dd x → W cls dd H'
section
variable {α β γ δ : Type} {rep : Hp → List Addr → β → α → Prop} {rep' : Hp → List Addr → δ → γ → Prop} {K : PySem.W.Frag} {I I1 H H1 : Hp} {m m1 : List Addr} {W : XK} {Q Q' : β → Hp → Prop} {Q2 : δ → Hp → Prop} {r : R α} {c : Cs}
theorem After.ext (e : Ext I m H I1 m1 H1) (a : After rep K I m H W Q r) : After rep K I1 m1 H1 W Q r := by
  cases r with
  | stuck => exact a
  | ok d c => exact fun I' m' H' v e' => a I' m' H' v (e.trans e')
  | exc x c => exact fun I' m' H' cls dd e' => a I' m' H' cls dd (e.trans e')
theorem After.mono (a : After rep K I m H W Q r) (h : ∀ v H', Q v H' → Q' v H') : After rep K I m H W Q' r := by
  cases r with
  | stuck => exact a
  | ok d c => exact fun I' m' H' v e' r' p => h _ _ (a I' m' H' v e' r' p)
  | exc x c => exact a
/-- what stands behind the first of two computations -/
def Mid (rep : Hp → List Addr → β → α → Prop) (rep' : Hp → List Addr → δ → γ → Prop) (K : PySem.W.Frag) (I : Hp) (m : List Addr) (H : Hp) (W : XK) (Q2 : δ → Hp → Prop) (f : α → Cs → R γ) (v : β) (H1 : Hp) : Prop :=
  ∃ I1 m1 c1 a, Ext I m H I1 m1 H1 ∧ Rel K I1 H1 m1 c1 ∧ rep I1 m1 v a ∧ After rep' K I1 m1 H1 W Q2 (f a c1)
theorem After.bind {f : α → Cs → R γ} (a : After rep' K I m H W Q2 (r.bind f)) : After rep K I m H W (Mid rep rep' K I m H W Q2 f) r := by
  cases r with
  | stuck => exact a
  | ok d c => exact fun I' m' H' v e' r' p => ⟨I', m', c, d, e', r', p, After.ext e' a⟩
  | exc x c => exact a
/-- nothing happens any more -/
theorem After.here {d : α} {v : β} (a : After rep K I m H W Q (.ok d c)) (r : Rel K I H m c) (p : rep I m v d) : Q v H := a I m H v (Ext.refl I m H) r p
end

def rD (K : PySem.W.Frag) : Hp → List Addr → V → D → Prop := fun I m v d => Rep K I m v d
def rA (K : PySem.W.Frag) : Hp → List Addr → List V → List D → Prop := fun I m v d => Reps K I m v d
def rB : Hp → List Addr → Bool → Bool → Prop := fun _ _ v d => v = d

abbrev ME := Ls → Cs → R D
abbrev MA := Ls → Cs → R (List D)
abbrev MT := Ls → Cs → R Bool
/-- the reading of a computation -/
def rd {α β : Type} (rep : Hp → List Addr → β → α → Prop) (K : PySem.W.Frag) (W : WX) (f : Ls → Cs → R α) : St → Hp → (β → Hp → Prop) → Prop := fun σ H Q =>
  ∃ I m ls c, Rel K I H m c ∧ Locs K I m σ ls ∧ After rep K I m H (fun cls dd H' => W cls dd σ H') Q (f ls c)
abbrev rdE (K : PySem.W.Frag) (W : WX) (f : ME) : TE := rd (rD K) K W f
abbrev rdA (K : PySem.W.Frag) (W : WX) (f : MA) : TA := rd (rA K) K W f
abbrev rdT (K : PySem.W.Frag) (W : WX) (f : MT) : TT := rd rB K W f

/-- a new object that never changes -/
theorem alloc {K : PySem.W.Frag} {I H : Hp} {m : List Addr} {c : Cs} {p : Addr} {o : HO} (r : Rel K I H m c) (np : H p = none) : Rel K (upd I p o) (upd H p o) m c ∧ Ext I m H (upd I p o) m (upd H p o) := by
  have nI : I p = none := r.same.free np
  have sI : Same I (upd I p o) := fun b u e => by rw [upd_ne (ne_of_none e nI)]; exact e
  have sH : Same H (upd H p o) := fun b u e => by rw [upd_ne (ne_of_none e np)]; exact e
  refine ⟨⟨fun b u e => ?_, r.len, r.nd, fun k a x h1 h2 => ?_, r.tabs.upHI (nt_none np)⟩, sI, Pre.refl m, fun b u h1 hT h2 h3 => ⟨sH b u h1, ?_, h3⟩⟩
  · by_cases hb : b = p
    · subst hb
      rw [upd_same] at e ⊢
      exact e
    · rw [upd_ne hb] at e ⊢
      exact r.same b u e
  · have q := r.cell k a x h1 h2
    cases x with
    | lst ds =>
      obtain ⟨q1, vs, q2, q3⟩ := q
      exact ⟨by rw [upd_ne (ne_of_none q2 np)]; exact q1, vs, sH _ _ q2, q3.mono sI (Pre.refl m)⟩
    | dct ds =>
      obtain ⟨q1, vs, q2, q3⟩ := q
      exact ⟨by rw [upd_ne (ne_of_none q2 np)]; exact q1, vs, sH _ _ q2, q3.mono sI (Pre.refl m)⟩
    | dT ds =>
      obtain ⟨q1, vs, q2, q3⟩ := q
      exact ⟨by rw [upd_ne (ne_of_none q2 np)]; exact q1, vs, sH _ _ q2, q3.mono sI (Pre.refl m)⟩
    | dN P0 w0 ds =>
      obtain ⟨q1, vs, q2, q3⟩ := q
      exact ⟨by rw [upd_ne (ne_of_none q2 np)]; exact q1, vs, sH _ _ q2, q3.mono sI (Pre.refl m)⟩
    | dTz es => exact q.imp (fun _ y => y.imp fun _ y => ⟨sI _ _ y.1, y.2.mono sI (Pre.refl m)⟩)
    | ins C ds =>
      obtain ⟨q1, dx, vs, q2, q3, q4, q5, q6⟩ := q
      exact ⟨by rw [upd_ne (q5.elim fun _ z => ne_of_none z.2 np)]; exact q1, dx, vs, by rw [upd_ne (ne_of_none q4 np)]; exact q2, q3, sH _ _ q4, q5.imp fun _ z => ⟨z.1, sH _ _ z.2⟩, q6.mono sI (Pre.refl m)⟩
    | frz d =>
      obtain ⟨q1, q2⟩ := q
      refine ⟨fun z => q1 ?_, q2.mono sI (Pre.refl m)⟩
      by_cases hb : a = p
      · subst hb; exact nI
      · rw [upd_ne hb] at z; exact z
  · rw [upd_ne (ne_of_none h1 np)]
    exact h2
end L2.Mi

namespace L2.Mi
open PySem PySem.Spec PyProof.Rows L2

/-! ### weaker readings -/
theorem PEi {X : Cx} {e : Expr} {t t' : TE} (h : PE X e t) (w : ∀ σ H Q, t' σ H Q → t σ H Q) : PE X e t' := ⟨fun pins s σ H Q I q => h.run pins s σ H Q I (w σ H Q q)⟩
theorem PTi {X : Cx} {e : Expr} {t t' : TT} (h : PT X e t) (w : ∀ σ H Q, t' σ H Q → t σ H Q) : PT X e t' := ⟨fun pins s σ H Q I q => h.run pins s σ H Q I (w σ H Q q)⟩
theorem PWi {X : Cx} {e : Expr} {t t' : TT} (h : PW X e t) (w : ∀ σ H Q, t' σ H Q → t σ H Q) : PW X e t' := ⟨fun wh pins s σ H Q I q => h.run wh pins s σ H Q I (w σ H Q q)⟩
theorem PAi {X : Cx} {e : List Expr} {t t' : TA} (h : PA X e t) (w : ∀ σ H Q, t' σ H Q → t σ H Q) : PA X e t' := ⟨fun p pins s σ H Q I q => h.run p pins s σ H Q I (w σ H Q q)⟩

section
variable {X : Cx} {W : WX} {a b c e : Expr} {es rest : List Expr} {pos : Pos} {fa fb fc : ME} {f g : D → D → Cs → R D}

/-! ### names, constants -/
def mVar (i : Nat) : ME := fun l c => match l[i]? with
  | some (some d) => .ok d c
  | _ => .stuck
theorem me_var {i : Nat} (h : PE X e (tVar i)) : PE X e (rdE X.K W (mVar i)) := PEi h fun σ H Q ⟨I, m, l, c, r, L, A⟩ => by
  unfold mVar at A
  cases q : l[i]? with
  | none => rw [q] at A; exact A.elim
  | some o =>
    cases o with
    | none => rw [q] at A; exact A.elim
    | some d =>
      rw [q] at A
      obtain ⟨v, h1, h2⟩ := L.at_ i d q
      exact ⟨v, h1, A.here r h2⟩
def mC (d : D) : ME := fun _ c => .ok d c
theorem me_c {v : V} {d : D} (h : PE X e (tC v)) (p : ∀ I m, Rep X.K I m v d) : PE X e (rdE X.K W (mC d)) := PEi h fun σ H Q ⟨I, m, l, c, r, L, A⟩ => A.here r (p I m)
theorem me_int {i : Int} {j : Nat} : PE X (.Constant (.int i) j pos) (rdE X.K W (mC (.int i))) := me_c pe_int fun _ _ => .int i
theorem me_bl {i : Bool} {j : Nat} : PE X (.Constant (.bool i) j pos) (rdE X.K W (mC (.bl i))) := me_c pe_bl fun _ _ => .bl i
theorem me_str {i : Str} {j : Nat} : PE X (.Constant (.str i) j pos) (rdE X.K W (mC (.str i))) := me_c pe_str fun _ _ => .str i

/-! ### operators -/
def OpS (K : PySem.W.Frag) (r : R2) (g : D → D → Cs → R D) : Prop := ∀ (I H : Hp) (m : List Addr) (c : Cs) (v1 v2 : V) (d1 d2 : D) (W : XK) (Q : VK),
  Rel K I H m c → Rep K I m v1 d1 → Rep K I m v2 d2 → After (rD K) K I m H W Q (g d1 d2 c) → r v1 v2 H Q
def mOp (g : D → D → Cs → R D) (a b : ME) : ME := fun l c => (a l c).bind fun x c1 => (b l c1).bind fun y c2 => g x y c2
theorem op_read {K : PySem.W.Frag} {r : R2} {σ : St} {H : Hp} {Q : VK} (hs : OpS K r g) (h : rdE K W (mOp g fa fb) σ H Q) : tOp r (rdE K W fa) (rdE K W fb) σ H Q := by
  obtain ⟨I, m, l, c, R, L, A⟩ := h
  refine ⟨I, m, l, c, R, L, After.mono (After.bind (rep := rD K) A) fun v1 H1 ⟨I1, m1, c1, d1, E1, R1, p1, A1⟩ => ?_⟩
  refine ⟨I1, m1, l, c1, R1, L.ext E1, After.mono (After.bind (rep := rD K) A1) fun v2 H2 ⟨I2, m2, c2, d2, E2, R2, p2, A2⟩ => ?_⟩
  exact hs _ _ _ _ _ _ _ _ _ _ R2 (Rep.ext p1 E2) p2 A2
theorem me_op {op : Operator} {r : R2} (ho : OpR X (binaryOp op) r) (hs : OpS X.K r g) (ha : PE X a (rdE X.K W fa)) (hb : PE X b (rdE X.K W fb)) : PE X (.BinOp a op b pos) (rdE X.K W (mOp g fa fb)) :=
  PEi (pe_op ho ha hb) fun _ _ _ h => op_read hs h
theorem me_cmp {op : CmpOp} {r : R2} (ho : OpR X (compareOp op) r) (hs : OpS X.K r g) (ha : PE X a (rdE X.K W fa)) (hb : PE X b (rdE X.K W fb)) (hm : behindInMarks op b = false) : PE X (.Compare a [op] [b] pos) (rdE X.K W (mOp g fa fb)) :=
  PEi (pe_cmpR ho ha hb hm) fun _ _ _ h => op_read hs h
theorem me_ix {r : R2} (ho : IxR X r) (hs : OpS X.K r g) (ha : PE X a (rdE X.K W fa)) (hb : PE X b (rdE X.K W fb)) (hp : PlainIx b) : PE X (.Subscript a b pos) (rdE X.K W (mOp g fa fb)) :=
  PEi (pe_ix ho ha hb hp) fun _ _ _ h => op_read hs h
def UnS (K : PySem.W.Frag) (r : V → Hp → VK → Prop) (g : D → Cs → R D) : Prop := ∀ (I H : Hp) (m : List Addr) (c : Cs) (v1 : V) (d1 : D) (W : XK) (Q : VK),
  Rel K I H m c → Rep K I m v1 d1 → After (rD K) K I m H W Q (g d1 c) → r v1 H Q
def mUn (g : D → Cs → R D) (a : ME) : ME := fun l c => (a l c).bind fun x c1 => g x c1
theorem me_un {op : UnaryOp} {r : V → Hp → VK → Prop} {g : D → Cs → R D} (ho : UnR X (unaryOp op) r) (hs : UnS X.K r g) (ha : PE X a (rdE X.K W fa)) : PE X (.UnaryOp op a pos) (rdE X.K W (mUn g fa)) :=
  PEi (pe_un ho ha) fun σ H Q ⟨I, m, l, c, R, L, A⟩ => ⟨I, m, l, c, R, L, After.mono (After.bind (rep := rD X.K) A) fun v1 H1 ⟨I1, m1, c1, d1, E1, R1, p1, A1⟩ => hs _ _ _ _ _ _ _ _ R1 p1 A1⟩
/-- a op1 b op2 c -/
def mChain (g g' : D → D → Cs → R D) (a b d : ME) : ME := fun l c => (a l c).bind fun x c1 => (b l c1).bind fun y c2 => (g x y c2).bind fun z c3 => match z with
  | .bl true => (d l c3).bind fun w c4 => g' y w c4
  | .bl false => .ok (.bl false) c3
  | _ => .stuck
theorem me_chain {op op' : CmpOp} {r r' : R2} (ho : OpR X (compareOp op) r) (hs : OpS X.K r f) (ho' : OpR X (compareOp op') r') (hs' : OpS X.K r' g) (ha : PE X a (rdE X.K W fa)) (hb : PE X b (rdE X.K W fb)) (hc : PE X c (rdE X.K W fc))
    (hm : lastMarks [op, op'] [b, c] = false := by with_unfolding_all rfl) : PE X (.Compare a [op, op'] [b, c] pos) (rdE X.K W (mChain f g fa fb fc)) := PEi (pe_chain ho ho' ha hb hc hm) fun σ H Q ⟨I, m, l, c, R, L, A⟩ => by
  refine ⟨I, m, l, c, R, L, After.mono (After.bind (rep := rD X.K) A) fun v1 H1 ⟨I1, m1, c1, d1, E1, R1, p1, A1⟩ => ?_⟩
  refine ⟨I1, m1, l, c1, R1, L.ext E1, After.mono (After.bind (rep := rD X.K) A1) fun v2 H2 ⟨I2, m2, c2, d2, E2, R2, p2, A2⟩ => ?_⟩
  refine hs _ _ _ _ _ _ _ _ _ _ R2 (Rep.ext p1 E2) p2 (After.mono (After.bind (rep := rD X.K) A2) fun v3 H3 ⟨I3, m3, c3, d3, E3, R3, p3, A3⟩ => ?_)
  cases p3 with
  | bl k =>
    refine ⟨k, rfl, ?_⟩
    cases k with
    | false =>
      rw [if_neg Bool.false_ne_true]
      exact A3.here R3 (Rep.bl false)
    | true =>
      rw [if_pos rfl]
      refine ⟨I3, m3, l, c3, R3, ((L.ext E1).ext E2).ext E3, After.mono (After.bind (rep := rD X.K) A3) fun v4 H4 ⟨I4, m4, c4, d4, E4, R4, p4, A4⟩ => ?_⟩
      exact hs' _ _ _ _ _ _ _ _ _ _ R4 (Rep.ext (Rep.ext p2 E3) E4) p4 A4
  | _ => exact A3.elim

/-! ### tests -/
def mT (a : ME) : MT := fun l c => (a l c).bind fun x c1 => match x with
  | .bl k => .ok k c1
  | _ => .stuck
theorem mt_val (ha : PE X e (rdE X.K W fa)) (he : ∀ whole, isTrue e X.env whole = (do let v ← whole; standAt e.pos; holding [v] (truthy v)) := by intro _; rfl) : PT X e (rdT X.K W (mT fa)) :=
  PTi (pt_val ha he) fun σ H Q ⟨I, m, l, c, R, L, A⟩ => ⟨I, m, l, c, R, L, After.mono (After.bind (rep := rD X.K) A) fun v1 H1 ⟨I1, m1, c1, d1, E1, R1, p1, A1⟩ => by
    cases p1 with
    | bl k => exact ⟨k, rfl, A1.here R1 rfl⟩
    | _ => exact A1.elim⟩
/-- a comparison as a test -/
theorem mt_cmp {op : CmpOp} {r : R2} (ho : OpR X (compareOp op) r) (hs : OpS X.K r g) (ha : PE X a (rdE X.K W fa)) (hb : PE X b (rdE X.K W fb)) (hm : behindInMarks op b = false) : PT X (.Compare a [op] [b] pos) (rdT X.K W (mT (mOp g fa fb))) :=
  PTi (pt_cmpR ho ha hb hm) fun σ H Q ⟨I, m, l, c, R, L, A⟩ => op_read hs ⟨I, m, l, c, R, L, After.mono (After.bind (rep := rD X.K) A) fun v1 H1 ⟨I1, m1, c1, d1, E1, R1, p1, A1⟩ => by
    cases p1 with
    | bl k => exact ⟨k, rfl, A1.here R1 rfl⟩
    | _ => exact A1.elim⟩
def tAndM (a b : MT) : MT := fun l c => (a l c).bind fun k c1 => match k with
  | true => b l c1
  | false => .ok false c1
def tOrM (a b : MT) : MT := fun l c => (a l c).bind fun k c1 => match k with
  | true => .ok true c1
  | false => b l c1
def tNotM (a : MT) : MT := fun l c => (a l c).bind fun k c1 => .ok (!k) c1
variable {ta tb : MT}
theorem mw_and1 (ha : PT X a (rdT X.K W ta)) : PW X (.BoolOp .And [a] pos) (rdT X.K W ta) := pw_and1 ha
theorem mw_or1 (ha : PT X a (rdT X.K W ta)) : PW X (.BoolOp .Or [a] pos) (rdT X.K W ta) := pw_or1 ha
theorem mw_and (ha : PT X a (rdT X.K W ta)) (hb : PW X (.BoolOp .And (b :: rest) pos) (rdT X.K W tb)) : PW X (.BoolOp .And (a :: b :: rest) pos) (rdT X.K W (tAndM ta tb)) :=
  PWi (pw_and ha hb) fun σ H Q ⟨I, m, l, c, R, L, A⟩ => ⟨I, m, l, c, R, L, After.mono (After.bind (rep := rB) A) fun v1 H1 ⟨I1, m1, c1, d1, E1, R1, p1, A1⟩ => by
    cases (show v1 = d1 from p1)
    cases v1 with
    | true => exact iteT <| ⟨I1, m1, l, c1, R1, L.ext E1, A1⟩
    | false => exact iteF <| A1.here R1 rfl⟩
theorem mw_or (ha : PT X a (rdT X.K W ta)) (hb : PW X (.BoolOp .Or (b :: rest) pos) (rdT X.K W tb)) : PW X (.BoolOp .Or (a :: b :: rest) pos) (rdT X.K W (tOrM ta tb)) :=
  PWi (pw_or ha hb) fun σ H Q ⟨I, m, l, c, R, L, A⟩ => ⟨I, m, l, c, R, L, After.mono (After.bind (rep := rB) A) fun v1 H1 ⟨I1, m1, c1, d1, E1, R1, p1, A1⟩ => by
    cases (show v1 = d1 from p1)
    cases v1 with
    | true => exact iteT <| A1.here R1 rfl
    | false => exact iteF <| ⟨I1, m1, l, c1, R1, L.ext E1, A1⟩⟩
theorem mt_not (ha : PT X a (rdT X.K W ta)) : PT X (.UnaryOp .Not a pos) (rdT X.K W (tNotM ta)) :=
  PTi (pt_not ha) fun σ H Q ⟨I, m, l, c, R, L, A⟩ => ⟨I, m, l, c, R, L, After.mono (After.bind (rep := rB) A) fun v1 H1 ⟨I1, m1, c1, d1, E1, R1, p1, A1⟩ => by
    cases (show v1 = d1 from p1)
    exact A1.here R1 rfl⟩
/-- and, or, not as values -/
def mAnd (a b : ME) : ME := fun l c => (a l c).bind fun x c1 => match x with
  | .bl true => b l c1
  | .bl false => .ok (.bl false) c1
  | _ => .stuck
def mOr (a b : ME) : ME := fun l c => (a l c).bind fun x c1 => match x with
  | .bl true => .ok (.bl true) c1
  | .bl false => b l c1
  | _ => .stuck
def mNot (a : ME) : ME := fun l c => (a l c).bind fun x c1 => match x with
  | .bl k => .ok (.bl (!k)) c1
  | _ => .stuck
theorem me_one {op : BoolOp} (ha : PE X a (rdE X.K W fa)) : PE X (.BoolOp op [a] pos) (rdE X.K W fa) := pe_one ha
theorem me_and (ha : PE X a (rdE X.K W fa)) (hb : PE X (.BoolOp .And (b :: rest) pos) (rdE X.K W fb)) : PE X (.BoolOp .And (a :: b :: rest) pos) (rdE X.K W (mAnd fa fb)) :=
  PEi (pe_and ha hb) fun σ H Q ⟨I, m, l, c, R, L, A⟩ => ⟨I, m, l, c, R, L, After.mono (After.bind (rep := rD X.K) A) fun v1 H1 ⟨I1, m1, c1, d1, E1, R1, p1, A1⟩ => by
    cases p1 with
    | bl k =>
      refine ⟨k, rfl, ?_⟩
      cases k with
      | true => exact iteT <| ⟨I1, m1, l, c1, R1, L.ext E1, A1⟩
      | false => exact iteF <| A1.here R1 (Rep.bl false)
    | _ => exact A1.elim⟩
theorem me_not (ha : PE X a (rdE X.K W fa)) : PE X (.UnaryOp .Not a pos) (rdE X.K W (mNot fa)) :=
  PEi (pe_not ha) fun σ H Q ⟨I, m, l, c, R, L, A⟩ => ⟨I, m, l, c, R, L, After.mono (After.bind (rep := rD X.K) A) fun v1 H1 ⟨I1, m1, c1, d1, E1, R1, p1, A1⟩ => by
    cases p1 with
    | bl k => exact ⟨k, rfl, A1.here R1 (Rep.bl _)⟩
    | _ => exact A1.elim⟩
def mIf (t : MT) (a b : ME) : ME := fun l c => (t l c).bind fun k c1 => match k with
  | true => a l c1
  | false => b l c1
theorem me_if (ht : PT X c (rdT X.K W ta)) (ha : PE X a (rdE X.K W fa)) (hb : PE X b (rdE X.K W fb)) : PE X (.IfExp c a b pos) (rdE X.K W (mIf ta fa fb)) :=
  PEi (pe_ifExp ht ha hb) fun σ H Q ⟨I, m, l, c, R, L, A⟩ => ⟨I, m, l, c, R, L, After.mono (After.bind (rep := rB) A) fun v1 H1 ⟨I1, m1, c1, d1, E1, R1, p1, A1⟩ => by
    cases (show v1 = d1 from p1)
    cases v1 with
    | true => exact iteT <| ⟨I1, m1, l, c1, R1, L.ext E1, A1⟩
    | false => exact iteF <| ⟨I1, m1, l, c1, R1, L.ext E1, A1⟩⟩

/-! ### arguments, displays -/
def aNil : MA := fun _ c => .ok [] c
def aCons (a : ME) (t : MA) : MA := fun l c => (a l c).bind fun x c1 => (t l c1).bind fun xs c2 => .ok (x :: xs) c2
variable {ga : MA}
theorem ma_nil : PA X [] (rdA X.K W aNil) := PAi pa_nil fun σ H Q ⟨I, m, l, c, R, L, A⟩ => A.here R .nil
theorem ma_cons (ha : PE X e (rdE X.K W fa)) (ht : PA X es (rdA X.K W ga)) (hs : starEach (e :: es) X.env = (false, eval e X.env) :: starEach es X.env := by rfl) : PA X (e :: es) (rdA X.K W (aCons fa ga)) :=
  PAi (pa_cons ha ht hs) fun σ H Q ⟨I, m, l, c, R, L, A⟩ => ⟨I, m, l, c, R, L, After.mono (After.bind (rep := rD X.K) A) fun v1 H1 ⟨I1, m1, c1, d1, E1, R1, p1, A1⟩ =>
    ⟨I1, m1, l, c1, R1, L.ext E1, After.mono (After.bind (rep := rA X.K) A1) fun v2 H2 ⟨I2, m2, c2, d2, E2, R2, p2, A2⟩ => A2.here R2 (Reps.cons (Rep.ext p1 E2) p2)⟩⟩
/-- a size that fits -/
def fits {α : Type} (n : Nat) (r : R α) : R α := if n ≤ sizeLine then r else .stuck
theorem After.fits {α β : Type} {rep : Hp → List Addr → β → α → Prop} {K : PySem.W.Frag} {I H : Hp} {m : List Addr} {W : XK} {Q : β → Hp → Prop} {n : Nat} {r : R α} (h : After rep K I m H W Q (fits n r)) : n ≤ sizeLine ∧ After rep K I m H W Q r := by
  unfold Mi.fits at h
  split at h
  · exact ⟨by assumption, h⟩
  · exact h.elim
theorem After.new {K : PySem.W.Frag} {I H : Hp} {m : List Addr} {W : XK} {Q : VK} {c : Cs} {p : Addr} {o : HO} {d : D} (A : After (rD K) K I m H W Q (.ok d c)) (r : Rel K I H m c) (np : H p = none) (q : Rep K (upd I p o) m (.ref p) d) : Q (.ref p) (upd H p o) :=
  let ⟨r1, e1⟩ := alloc (o := o) r np
  A _ _ _ _ e1 r1 q
def mLst (t : MA) : ME := fun l c => (t l c).bind fun xs c1 => fits xs.length (.ok (.lst xs) c1)
def mTup (t : MA) : ME := fun l c => (t l c).bind fun xs c1 => fits xs.length (.ok (.tup xs) c1)
theorem same_upd {I H : Hp} {p : Addr} {o : HO} (s : Same I H) (np : H p = none) : Same I (upd I p o) := fun b u e => by rw [upd_ne (ne_of_none e (s.free np))]; exact e
theorem me_lst (h : PA X es (rdA X.K W ga)) : PE X (.List es pos) (rdE X.K W (mLst ga)) :=
  PEi (pe_lst h) fun σ H Q ⟨I, m, l, c, R, L, A⟩ => ⟨I, m, l, c, R, L, After.mono (After.bind (rep := rA X.K) A) fun v1 H1 ⟨I1, m1, c1, d1, E1, R1, p1, A1⟩ => by
    obtain ⟨z, A2⟩ := A1.fits
    have p1 : Reps X.K I1 m1 v1 d1 := p1
    exact ⟨by rw [p1.length]; exact z, fun p np => A2.new R1 np (.lst upd_same (p1.mono (same_upd R1.same np) (Pre.refl _)))⟩⟩
theorem me_tup {k : Nat} (h : PA X es (rdA X.K W ga)) : PE X (.Tuple es k pos) (rdE X.K W (mTup ga)) :=
  PEi (pe_tup h) fun σ H Q ⟨I, m, l, c, R, L, A⟩ => ⟨I, m, l, c, R, L, After.mono (After.bind (rep := rA X.K) A) fun v1 H1 ⟨I1, m1, c1, d1, E1, R1, p1, A1⟩ => by
    obtain ⟨z, A2⟩ := A1.fits
    have p1 : Reps X.K I1 m1 v1 d1 := p1
    exact ⟨by rw [p1.length]; exact z, fun p np => A2.new R1 np (.tup (SqT.of upd_same) (p1.mono (same_upd R1.same np) (Pre.refl _)) (.inl upd_same))⟩⟩
end

/-! ### a cell is made, read, changed -/
theorem pre_app (m : List Addr) (a : Addr) : Pre m (m ++ [a]) := fun k b h => by
  have hk : k < m.length := (List.getElem?_eq_some_iff.mp h).1
  rw [List.getElem?_append_left hk]
  exact h
section
variable {K : PySem.W.Frag} {I H : Hp} {m : List Addr} {c : Cs}
/-- the addresses of cells are tracked, and not among what never changes unless frozen -/
theorem Rel.tracked (r : Rel K I H m c) {k : Nat} {a : Addr} (h : m[k]? = some a) : ∃ o, H a = some o := by
  have hk : k < c.length := by rw [← r.len]; exact (List.getElem?_eq_some_iff.mp h).1
  have q := r.cell k a c[k] h (List.getElem?_eq_getElem hk)
  cases e : c[k] with
  | lst ds => rw [e] at q; exact ⟨_, q.2.choose_spec.1⟩
  | dct ds => rw [e] at q; exact ⟨_, q.2.choose_spec.1⟩
  | dT ds => rw [e] at q; exact ⟨_, q.2.choose_spec.1⟩
  | dN P0 w0 ds => rw [e] at q; exact ⟨_, q.2.choose_spec.1⟩
  | dTz es => rw [e] at q; obtain ⟨_, _, q1, _⟩ := q; exact ⟨_, r.same _ _ q1⟩
  | ins C ds => rw [e] at q; obtain ⟨_, dx, vs, _, _, _, q5, _⟩ := q; exact q5.elim fun _ z => ⟨_, z.2⟩
  | frz d =>
    rw [e] at q
    cases z : I a with
    | none => exact absurd z q.1
    | some o => exact ⟨o, r.same _ _ z⟩
theorem Rel.fresh (r : Rel K I H m c) {p : Addr} (np : H p = none) : p ∉ m := fun h => by
  obtain ⟨k, hk⟩ := List.getElem?_of_mem h
  obtain ⟨o, e⟩ := r.tracked hk
  rw [np] at e; cases e
/-- a new mutable list -/
theorem Rel.push (r : Rel K I H m c) {p : Addr} (np : H p = none) {vs : List V} {ds : List D} (q : Reps K I m vs ds) : Rel K I (upd H p (.lst vs)) (m ++ [p]) (c ++ [.lst ds]) ∧ Ext I m H I (m ++ [p]) (upd H p (.lst vs)) := by
  have sH : Same H (upd H p (.lst vs)) := fun b u e => by rw [upd_ne (ne_of_none e np)]; exact e
  have hp := pre_app m p
  have nm := r.fresh np
  refine ⟨⟨r.same.trans sH, by simp [r.len], fun i j a h1 h2 => ?_, fun k a x h1 h2 => ?_, r.tabs.upHm (nt_none np)⟩, Same.refl I, hp, fun b o h1 hT h2 h3 => ⟨sH _ _ h1, h2, ?_⟩⟩
  · rcases Nat.lt_or_ge i m.length with hi | hi
    · rcases Nat.lt_or_ge j m.length with hj | hj
      · rw [List.getElem?_append_left hi] at h1
        rw [List.getElem?_append_left hj] at h2
        exact r.nd i j a h1 h2
      · rw [List.getElem?_append_left hi] at h1
        rw [List.getElem?_append_right hj] at h2
        have e : a = p := by
          cases z : j - m.length with
          | zero => rw [z] at h2; simpa using h2.symm
          | succ n => rw [z] at h2; simp at h2
        exact absurd (List.mem_of_getElem? h1) (e ▸ nm)
    · rcases Nat.lt_or_ge j m.length with hj | hj
      · rw [List.getElem?_append_left hj] at h2
        rw [List.getElem?_append_right hi] at h1
        have e : a = p := by
          cases z : i - m.length with
          | zero => rw [z] at h1; simpa using h1.symm
          | succ n => rw [z] at h1; simp at h1
        exact absurd (List.mem_of_getElem? h2) (e ▸ nm)
      · have hi' := (List.getElem?_eq_some_iff.mp h1).1
        have hj' := (List.getElem?_eq_some_iff.mp h2).1
        simp at hi' hj'
        omega
  · rcases Nat.lt_or_ge k m.length with hk | hk
    · rw [List.getElem?_append_left hk] at h1
      rw [List.getElem?_append_left (by rw [← r.len]; exact hk)] at h2
      have q := r.cell k a x h1 h2
      cases x with
      | lst es =>
        obtain ⟨q1, ws, q2, q3⟩ := q
        exact ⟨q1, ws, sH _ _ q2, q3.mono (Same.refl I) hp⟩
      | dct es =>
        obtain ⟨q1, ws, q2, q3⟩ := q
        exact ⟨q1, ws, sH _ _ q2, q3.mono (Same.refl I) hp⟩
      | dT es =>
        obtain ⟨q1, ws, q2, q3⟩ := q
        exact ⟨q1, ws, sH _ _ q2, q3.mono (Same.refl I) hp⟩
      | dN P0 w0 es =>
        obtain ⟨q1, ws, q2, q3⟩ := q
        exact ⟨q1, ws, sH _ _ q2, q3.mono (Same.refl I) hp⟩
      | dTz es => exact q.imp (fun _ y => y.imp fun _ y => ⟨y.1, y.2.mono (Same.refl I) hp⟩)
      | ins C es =>
        obtain ⟨q1, dx, ws, q2, q3, q4, q5, q6⟩ := q
        exact ⟨q1, dx, ws, q2, fun z => by
          rcases List.mem_append.mp z with z | z
          · exact q3 z
          · simp only [List.mem_singleton] at z
            exact ne_of_none q4 np z, sH _ _ q4, q5.imp fun _ z => ⟨z.1, sH _ _ z.2⟩, q6.mono (Same.refl I) hp⟩
      | frz d => exact ⟨q.1, q.2.mono (Same.refl I) hp⟩
    · have hk' := (List.getElem?_eq_some_iff.mp h1).1
      simp at hk'
      have e : k = m.length := by omega
      subst e
      rw [List.getElem?_append_right (Nat.le_refl _)] at h1
      rw [r.len, List.getElem?_append_right (Nat.le_refl _)] at h2
      simp at h1 h2
      subst h1; subst h2
      exact ⟨r.same.free np, vs, upd_same, q.mono (Same.refl I) hp⟩
  · intro z
    rcases List.mem_append.mp z with z | z
    · exact h3 z
    · simp only [List.mem_singleton] at z
      exact ne_of_none h1 np z
/-- a list's cell is rewritten -/
theorem Rel.put (r : Rel K I H m c) {k : Nat} {a : Addr} {vs : List V} {ds ds0 : List D} (hm : m[k]? = some a) (hc : c[k]? = some (.lst ds0)) (q : Reps K I m vs ds) : Rel K I (upd H a (.lst vs)) m (c.set k (.lst ds)) ∧ Ext I m H I m (upd H a (.lst vs)) := by
  obtain ⟨n1, ws, n2, n3⟩ := r.cell k a _ hm hc
  refine ⟨⟨fun b o e => ?_, by simp [r.len], r.nd, fun j b x h1 h2 => ?_, r.tabs.upH (nt_some n2 ⟨(fun _ z => nomatch z), (fun _ z => nomatch z)⟩)⟩, Same.refl I, Pre.refl m, fun b o h1 hT h2 h3 => ⟨?_, h2, h3⟩⟩
  · rw [upd_ne (ne_of_none e n1)]
    exact r.same _ _ e
  · by_cases hj : k = j
    · subst hj
      rw [List.getElem?_set_self (List.getElem?_eq_some_iff.mp hc).1] at h2
      rw [hm] at h1
      cases h1; cases h2
      exact ⟨n1, vs, upd_same, q⟩
    · rw [List.getElem?_set_ne hj] at h2
      have nb : b ≠ a := fun e => hj (r.nd k j a hm (e ▸ h1))
      have q := r.cell j b x h1 h2
      cases x with
      | lst es =>
        obtain ⟨q1, ws, q2, q3⟩ := q
        exact ⟨q1, ws, by rw [upd_ne nb]; exact q2, q3⟩
      | dct es =>
        obtain ⟨q1, ws, q2, q3⟩ := q
        exact ⟨q1, ws, by rw [upd_ne nb]; exact q2, q3⟩
      | dT es =>
        obtain ⟨q1, ws, q2, q3⟩ := q
        exact ⟨q1, ws, by rw [upd_ne nb]; exact q2, q3⟩
      | dN P0 w0 es =>
        obtain ⟨q1, ws, q2, q3⟩ := q
        exact ⟨q1, ws, by rw [upd_ne nb]; exact q2, q3⟩
      | dTz es => exact q
      | ins C es =>
        obtain ⟨q1, dx, ws, q2, q3, q4, q5, q6⟩ := q
        exact ⟨q1, dx, ws, q2, q3, by rw [upd_ne (ne_of q4 n2 (by intro z; cases z))]; exact q4, q5.imp fun _ z => ⟨z.1, by rw [upd_ne nb]; exact z.2⟩, q6⟩
      | frz d => exact q
  · rw [upd_ne (fun (e : b = a) => h3 (by rw [e]; exact List.mem_of_getElem? hm))]
    exact h1
/-- a list's cell does not change any more -/
theorem Rel.freeze (r : Rel K I H m c) {k : Nat} {a : Addr} {ds : List D} (hm : m[k]? = some a) (hc : c[k]? = some (.lst ds)) : ∃ I' : Hp, Rel K I' H m (c.set k (.frz (.lst ds))) ∧ Ext I m H I' m H ∧ Rep K I' m (.ref a) (.lst ds) := by
  obtain ⟨n1, ws, n2, n3⟩ := r.cell k a _ hm hc
  have sI : Same I (upd I a (.lst ws)) := fun b o e => by rw [upd_ne (ne_of_none e n1)]; exact e
  refine ⟨upd I a (.lst ws), ⟨fun b o e => ?_, by simp [r.len], r.nd, fun j b x h1 h2 => ?_, r.tabs.upI (nt_some n2 ⟨(fun _ z => nomatch z), (fun _ z => nomatch z)⟩)⟩, ⟨sI, Pre.refl m, fun b o h1 hT h2 h3 => ⟨h1, ?_, h3⟩⟩, .lst upd_same (n3.mono sI (Pre.refl m))⟩
  · by_cases hb : b = a
    · subst hb
      rw [upd_same] at e
      cases e
      exact n2
    · rw [upd_ne hb] at e
      exact r.same _ _ e
  · by_cases hj : k = j
    · subst hj
      rw [List.getElem?_set_self (List.getElem?_eq_some_iff.mp hc).1] at h2
      rw [hm] at h1
      cases h1; cases h2
      exact ⟨by rw [upd_same]; exact nofun, .lst upd_same (n3.mono sI (Pre.refl m))⟩
    · rw [List.getElem?_set_ne hj] at h2
      have nb : b ≠ a := fun e => hj (r.nd k j a hm (e ▸ h1))
      have q := r.cell j b x h1 h2
      cases x with
      | lst es =>
        obtain ⟨q1, ws, q2, q3⟩ := q
        exact ⟨by rw [upd_ne nb]; exact q1, ws, q2, q3.mono sI (Pre.refl m)⟩
      | dct es =>
        obtain ⟨q1, ws, q2, q3⟩ := q
        exact ⟨by rw [upd_ne nb]; exact q1, ws, q2, q3.mono sI (Pre.refl m)⟩
      | dT es =>
        obtain ⟨q1, ws, q2, q3⟩ := q
        exact ⟨by rw [upd_ne nb]; exact q1, ws, q2, q3.mono sI (Pre.refl m)⟩
      | dN P0 w0 es =>
        obtain ⟨q1, ws, q2, q3⟩ := q
        exact ⟨by rw [upd_ne nb]; exact q1, ws, q2, q3.mono sI (Pre.refl m)⟩
      | dTz es => exact q.imp (fun _ y => y.imp fun _ y => ⟨sI _ _ y.1, y.2.mono sI (Pre.refl m)⟩)
      | ins C es =>
        obtain ⟨q1, dx, ws, q2, q3, q4, q5, q6⟩ := q
        exact ⟨by rw [upd_ne nb]; exact q1, dx, ws, by rw [upd_ne (ne_of q4 n2 (by intro z; cases z))]; exact q2, q3, q4, q5, q6.mono sI (Pre.refl m)⟩
      | frz d => exact ⟨by rw [upd_ne nb]; exact q.1, q.2.mono sI (Pre.refl m)⟩
  · rw [upd_ne (fun (e : b = a) => h3 (by rw [e]; exact List.mem_of_getElem? hm))]
    exact h2
end
end L2.Mi

namespace L2.Mi
open PySem PySem.Spec PyProof.Rows L2

section
variable {K : PySem.W.Frag}
/-! ### + - * // % ** -/
def addD : D → D → Cs → R D
  | .int i, .int j, c => .ok (.int (i + j)) c
  | .str s, .str t, c => fits (s.length + t.length) (.ok (.str (s ++ t)) c)
  | .lst a, .lst b, c => fits (a.length + b.length) (.ok (.lst (a ++ b)) c)
  | .int i, .bl b, c => .ok (.int (i + b2i b)) c
  | .tup a, .tup b, c => match a, b with
    | [], _ => .stuck
    | _, [] => .stuck
    | _, _ => fits (a.length + b.length) (.ok (.tup (a ++ b)) c)
  | _, _, _ => .stuck
def rAddA (K : PySem.W.Frag) : R2 := fun x y H Q => (∃ i j, x = .int i ∧ y = .int j ∧ Q (.int (i + j)) H) ∨ (∃ i j, x = .str i ∧ y = .str j ∧ i.length + j.length ≤ sizeLine ∧ Q (.str (i ++ j)) H) ∨ rCat x y H Q ∨
  (∃ i k, x = .int i ∧ y = .bl k ∧ Q (.int (i + b2i k)) H) ∨ rCatT K x y H Q
theorem op_addA {X : Cx} : OpR X (binaryOp .Add) (rAddA X.K) := op_add.or (op_add_str.or (op_cat.or (op_add_ib.or op_catT)))
theorem os_add : OpS K (rAddA K) addD := fun I H m c v1 v2 d1 d2 W Q R p1 p2 A => by
  cases p1 with
  | int i =>
    cases p2 with
    | int j => exact .inl ⟨i, j, rfl, rfl, A.here R (.int _)⟩
    | bl b => exact .inr (.inr (.inr (.inl ⟨i, b, rfl, rfl, A.here R (.int _)⟩)))
    | _ => exact A.elim
  | str s =>
    cases p2 with
    | str t =>
      obtain ⟨z, A⟩ := After.fits (show After (rD K) K I m H W Q (fits (s.length + t.length) (.ok (.str (s ++ t)) c)) from A)
      exact .inr (.inl ⟨s, t, rfl, rfl, z, A.here R (.str _)⟩)
    | _ => exact A.elim
  | lst h1 r1 =>
    cases p2 with
    | @lst b ws es h2 r2 =>
      obtain ⟨z, A⟩ := After.fits A
      rw [← r1.length, ← r2.length] at z
      refine .inr (.inr (.inl ⟨_, b, _, _, rfl, rfl, R.same _ _ h1, R.same _ _ h2, z, fun p np => ?_⟩))
      exact A.new R np (.lst upd_same ((r1.append r2).mono (same_upd R.same np) (Pre.refl _)))
    | _ => exact A.elim
  | @tup a1 vs1 ds1 h1 r1 =>
    cases p2 with
    | @tup a2 vs2 ds2 h2 r2 =>
      cases ds1 with
      | nil => exact A.elim
      | cons x xs =>
        cases ds2 with
        | nil => exact A.elim
        | cons y ys =>
          obtain ⟨z, A⟩ := After.fits (show After (rD K) K I m H W Q (fits ((x :: xs).length + (y :: ys).length) (.ok (.tup ((x :: xs) ++ (y :: ys))) c)) from A)
          rw [← r1.length, ← r2.length] at z
          refine .inr (.inr (.inr (.inr ⟨_, a2, _, _, rfl, rfl, sqT_same R.same h1, sqT_same R.same h2, ?_, z, ?_, ?_⟩)))
          · intro e; rw [e] at r1; have := r1.length; simp at this
          · intro e; rw [e] at r2; have := r2.length; simp at this
          · exact fun _ p np => A.new R np (.tup (SqT.of upd_same) ((r1.append r2).mono (same_upd R.same np) (Pre.refl _)) (.inl upd_same))
    | _ => exact A.elim
  | _ => exact A.elim

def subD : D → D → Cs → R D
  | .int i, .int j, c => .ok (.int (i - j)) c
  | _, _, _ => .stuck
theorem os_sub : OpS K (rI0 fun i j => .int (i - j)) subD := fun I H m c v1 v2 d1 d2 W Q R p1 p2 A => by
  cases p1 with
  | int i =>
    cases p2 with
    | int j => exact ⟨i, j, rfl, rfl, A.here R (.int _)⟩
    | _ => exact A.elim
  | _ => exact A.elim
/-- the guard of a rule about two ints -/
def intC (C : Int → Int → Prop) [∀ i j, Decidable (C i j)] (g : Int → Int → Int) : D → D → Cs → R D
  | .int i, .int j, c => if C i j then .ok (.int (g i j)) c else .stuck
  | _, _, _ => .stuck
theorem os_intC {C : Int → Int → Prop} [∀ i j, Decidable (C i j)] {g : Int → Int → Int} : OpS K (rI C fun i j => .int (g i j)) (intC C g) := fun I H m c v1 v2 d1 d2 W Q R p1 p2 A => by
  cases p1 with
  | int i =>
    cases p2 with
    | int j =>
      by_cases hc : C i j
      · have A2 : After (rD K) K I m H W Q (if C i j then .ok (.int (g i j)) c else .stuck) := A
        rw [if_pos hc] at A2
        exact ⟨i, j, rfl, rfl, hc, A2.here R (.int _)⟩
      · have A2 : After (rD K) K I m H W Q (if C i j then .ok (.int (g i j)) c else .stuck) := A
        rw [if_neg hc] at A2
        exact A2.elim
    | _ => exact A.elim
  | _ => exact A.elim
instance : ∀ i j, Decidable (CMul i j) := fun i j => inferInstanceAs (Decidable ((-(2 ^ 64) < i ∧ i < 2 ^ 64) ∨ (-(2 ^ 64) < j ∧ j < 2 ^ 64)))
instance : ∀ i j, Decidable (CDivN i j) := fun i j => inferInstanceAs (Decidable (j ≠ 0 ∧ j.natAbs < 1073741824))
instance : ∀ i j, Decidable (CPow i j) := fun i j => inferInstanceAs (Decidable (0 ≤ j ∧ j ≤ 1000000 ∧ i.natAbs < 2 ^ 64))
def CNz (_ j : Int) : Prop := j ≠ 0
instance : ∀ i j, Decidable (CNz i j) := fun i j => inferInstanceAs (Decidable (j ≠ 0))
/-- list * int, text * int are further on -/
def mulI : D → D → Cs → R D := intC CMul (· * ·)
def divI : D → D → Cs → R D := intC CDivN Int.fdiv
def modI : D → D → Cs → R D := intC CNz Int.fmod
def powI : D → D → Cs → R D := intC CPow fun i j => i ^ j.toNat
theorem os_mulI : OpS K (rI CMul fun i j => .int (i * j)) mulI := os_intC
theorem os_divI : OpS K (rI CDivN fun i j => .int (i.fdiv j)) divI := os_intC
theorem os_modI : OpS K (rI (fun _ j => j ≠ 0) fun i j => .int (i.fmod j)) modI := os_intC (C := CNz)
theorem os_powI : OpS K (rI CPow fun i j => .int (i ^ j.toNat)) powI := os_intC
def negD : D → Cs → R D
  | .int i, c => .ok (.int (-i)) c
  | _, _ => .stuck
theorem us_neg : UnS K (rU fun i => .int (-i)) negD := fun I H m c v1 d1 W Q R p1 A => by
  cases p1 with
  | int i => exact ⟨i, rfl, A.here R (.int _)⟩
  | _ => exact A.elim

/-! ### comparisons -/
def cmpI (p : Int → Int → Bool) : D → D → Cs → R D
  | .int i, .int j, c => .ok (.bl (p i j)) c
  | _, _, _ => .stuck
theorem os_cmpI {p : Int → Int → Bool} : OpS K (rI0 fun i j => .bl (p i j)) (cmpI p) := fun I H m c v1 v2 d1 d2 W Q R p1 p2 A => by
  cases p1 with
  | int i =>
    cases p2 with
    | int j => exact ⟨i, j, rfl, rfl, A.here R (.bl _)⟩
    | _ => exact A.elim
  | _ => exact A.elim
def rLtA : R2 := fun x y H Q => rI0 (fun i j => .bl (decide (i < j))) x y H Q ∨ ∃ i j, x = .str i ∧ y = .str j ∧ Q (.bl (decide (i.cps.toList < j.cps.toList))) H
def rLeA : R2 := fun x y H Q => rI0 (fun i j => .bl (decide (i ≤ j))) x y H Q ∨ ∃ i j, x = .str i ∧ y = .str j ∧ Q (.bl (!decide (j.cps.toList < i.cps.toList))) H
theorem op_ltA {X : Cx} : OpR X (compareOp .Lt) rLtA := op_lt.or op_lt_str
theorem op_leA {X : Cx} : OpR X (compareOp .LtE) rLeA := op_le.or op_le_str
def ltD : D → D → Cs → R D
  | .int i, .int j, c => .ok (.bl (decide (i < j))) c
  | .str i, .str j, c => .ok (.bl (decide (i.cps.toList < j.cps.toList))) c
  | _, _, _ => .stuck
def leD : D → D → Cs → R D
  | .int i, .int j, c => .ok (.bl (decide (i ≤ j))) c
  | .str i, .str j, c => .ok (.bl (!decide (j.cps.toList < i.cps.toList))) c
  | _, _, _ => .stuck
theorem os_lt : OpS K rLtA ltD := fun I H m c v1 v2 d1 d2 W Q R p1 p2 A => by
  cases p1 with
  | int i =>
    cases p2 with
    | int j => exact .inl ⟨i, j, rfl, rfl, A.here R (.bl _)⟩
    | _ => exact A.elim
  | str i =>
    cases p2 with
    | str j => exact .inr ⟨i, j, rfl, rfl, A.here R (.bl _)⟩
    | _ => exact A.elim
  | _ => exact A.elim
theorem os_le : OpS K rLeA leD := fun I H m c v1 v2 d1 d2 W Q R p1 p2 A => by
  cases p1 with
  | int i =>
    cases p2 with
    | int j => exact .inl ⟨i, j, rfl, rfl, A.here R (.bl _)⟩
    | _ => exact A.elim
  | str i =>
    cases p2 with
    | str j => exact .inr ⟨i, j, rfl, rfl, A.here R (.bl _)⟩
    | _ => exact A.elim
  | _ => exact A.elim
def gtD : D → D → Cs → R D := cmpI fun i j => decide (j < i)
def geD : D → D → Cs → R D := cmpI fun i j => decide (j ≤ i)

/-! ### data as the library has it -/
mutual
def toPy : D → Option PyData
  | .non => some .none
  | .bl b => some (.bool b)
  | .int i => some (.int i)
  | .str s => some (.str s)
  | .lst xs => match toPys xs with
    | some ys => some (.list ys)
    | none => none
  | .tup xs => match toPys xs with
    | some ys => some (.tuple ys)
    | none => none
  | _ => none
def toPys : List D → Option (List PyData)
  | [] => some []
  | x :: xs => match toPy x with
    | some y => match toPys xs with
      | some ys => some (y :: ys)
      | none => none
    | none => none
end
mutual
theorem rep_dp {I H : Hp} {m : List Addr} (s : Same I H) : ∀ {v : V} {d : D} {p : PyData}, Rep K I m v d → toPy d = some p → Dp K H v p
  | _, _, _, .non, e => by simp [toPy] at e; subst e; exact .non
  | _, _, _, .bl b, e => by simp [toPy] at e; subst e; exact .bl b
  | _, _, _, .int i, e => by simp [toPy] at e; subst e; exact .int i
  | _, _, _, .str x, e => by simp [toPy] at e; subst e; exact .str x
  | _, _, _, .lst (ds := ds) h r, e => by
    unfold toPy at e
    cases q : toPys ds with
    | none => rw [q] at e; cases e
    | some ys => rw [q] at e; cases e; exact .lst (SqL.of (s _ _ h)) (reps_dp s r q)
  | _, _, _, .tup (ds := ds) h r _, e => by
    unfold toPy at e
    cases q : toPys ds with
    | none => rw [q] at e; cases e
    | some ys => rw [q] at e; cases e; exact .tup (sqT_same s h) (reps_dp s r q)
  | _, _, _, .ro h r, e => by simp [toPy] at e
  | _, _, _, .dct h r, e => by simp [toPy] at e
  | _, _, _, .ref h, e => by simp [toPy] at e
  | _, _, _, .obj hn h r, e => by simp [toPy] at e
  | _, _, _, .adr a, e => by simp [toPy] at e
  | _, _, _, .ty n, e => by simp [toPy] at e
theorem reps_dp {I H : Hp} {m : List Addr} (s : Same I H) : ∀ {v : List V} {d : List D} {p : List PyData}, Reps K I m v d → toPys d = some p → DpAll K H v p
  | _, _, _, .nil, e => by simp [toPys] at e; subst e; exact .nil
  | _, _, _, .cons (d := d) (ds := ds) h t, e => by
    unfold toPys at e
    cases q : toPy d with
    | none => rw [q] at e; cases e
    | some y =>
      cases q2 : toPys ds with
      | none => rw [q, q2] at e; cases e
      | some ys => rw [q, q2] at e; cases e; exact .cons (rep_dp s h q) (reps_dp s t q2)
end
/-- == of data -/
def eqP (neg : Bool) (d e : D) (c : Cs) : R D := match toPy d with
  | some a => match toPy e with
    | some b => if SeqAt.shaped a = true ∧ SeqAt.shaped b = true then .ok (.bl (if neg then !PyData.eqv a b else PyData.eqv a b)) c else .stuck
    | none => .stuck
  | none => .stuck
def eqD : D → D → Cs → R D
  | .int i, .int j, c => .ok (.bl (decide (i = j))) c
  | .str i, .str j, c => .ok (.bl (decide (i = j))) c
  | .bl i, .bl j, c => .ok (.bl (decide (i = j))) c
  | d, e, c => eqP false d e c
def neD : D → D → Cs → R D
  | .int i, .int j, c => .ok (.bl (!decide (i = j))) c
  | .str i, .str j, c => .ok (.bl (!decide (i = j))) c
  | .bl i, .bl j, c => .ok (.bl (!decide (i = j))) c
  | d, e, c => eqP true d e c
def rEqA (K : PySem.W.Frag) : R2 := fun x y H Q => rEq x y H Q ∨ rEqD K x y H Q
def rNeA (K : PySem.W.Frag) : R2 := fun x y H Q => rNe x y H Q ∨ rNeD K x y H Q
theorem op_eqA {X : Cx} (hu : X.A.units + 64 < cLine) : OpR X (compareOp .Eq) (rEqA X.K) := op_eq.or (op_eqD hu)
theorem op_neA {X : Cx} (hu : X.A.units + 64 < cLine) : OpR X (compareOp .NotEq) (rNeA X.K) := op_ne.or (op_neD hu)
theorem eqP_read {I H : Hp} {m : List Addr} {c : Cs} {W : XK} {Q : VK} {v1 v2 : V} {d1 d2 : D} {neg : Bool} (R : Rel K I H m c) (p1 : Rep K I m v1 d1) (p2 : Rep K I m v2 d2) (A : After (rD K) K I m H W Q (eqP neg d1 d2 c)) :
    ∃ d e, Dp K H v1 d ∧ Dp K H v2 e ∧ SeqAt.shaped d = true ∧ SeqAt.shaped e = true ∧ Q (.bl (if neg then !PyData.eqv d e else PyData.eqv d e)) H := by
  unfold eqP at A
  cases q1 : toPy d1 with
  | none => rw [q1] at A; exact A.elim
  | some a =>
    cases q2 : toPy d2 with
    | none => rw [q1, q2] at A; exact A.elim
    | some b =>
      rw [q1, q2] at A
      by_cases hs : SeqAt.shaped a = true ∧ SeqAt.shaped b = true
      · have A2 : After (rD K) K I m H W Q (if SeqAt.shaped a = true ∧ SeqAt.shaped b = true then .ok (.bl (if neg then !PyData.eqv a b else PyData.eqv a b)) c else .stuck) := A
        rw [if_pos hs] at A2
        exact ⟨a, b, rep_dp R.same p1 q1, rep_dp R.same p2 q2, hs.1, hs.2, A2.here R (.bl _)⟩
      · have A2 : After (rD K) K I m H W Q (if SeqAt.shaped a = true ∧ SeqAt.shaped b = true then .ok (.bl (if neg then !PyData.eqv a b else PyData.eqv a b)) c else .stuck) := A
        rw [if_neg hs] at A2
        exact A2.elim
theorem decV {α : Type} [DecidableEq α] {f : α → V} (hf : ∀ a b, f a = f b → a = b) (a b : α) : decide (f a = f b) = decide (a = b) := by
  by_cases h : a = b
  · subst h; simp
  · rw [decide_eq_false h, decide_eq_false fun e => h (hf _ _ e)]
theorem os_eq : OpS K (rEqA K) eqD := fun I H m c v1 v2 d1 d2 W Q R p1 p2 A => by
  have gen : After (rD K) K I m H W Q (eqP false d1 d2 c) → rEqA K v1 v2 H Q := fun A => .inr (eqP_read R p1 p2 A)
  cases p1 with
  | int i => cases p2 with
    | int j => exact .inl ⟨rfl, by rw [decV (f := V.int) fun _ _ e => V.int.inj e]; exact A.here R (.bl _)⟩
    | _ => exact gen A
  | str i => cases p2 with
    | str j => exact .inl ⟨rfl, by rw [decV (f := V.str) fun _ _ e => V.str.inj e]; exact A.here R (.bl _)⟩
    | _ => exact gen A
  | bl i => cases p2 with
    | bl j => exact .inl ⟨rfl, by rw [decV (f := V.bl) fun _ _ e => V.bl.inj e]; exact A.here R (.bl _)⟩
    | _ => exact gen A
  | _ => exact gen A
theorem os_ne : OpS K (rNeA K) neD := fun I H m c v1 v2 d1 d2 W Q R p1 p2 A => by
  have gen : After (rD K) K I m H W Q (eqP true d1 d2 c) → rNeA K v1 v2 H Q := fun A => .inr (eqP_read (neg := true) R p1 p2 A)
  cases p1 with
  | int i => cases p2 with
    | int j => exact .inl ⟨rfl, by rw [decV (f := V.int) fun _ _ e => V.int.inj e]; exact A.here R (.bl _)⟩
    | _ => exact gen A
  | str i => cases p2 with
    | str j => exact .inl ⟨rfl, by rw [decV (f := V.str) fun _ _ e => V.str.inj e]; exact A.here R (.bl _)⟩
    | _ => exact gen A
  | bl i => cases p2 with
    | bl j => exact .inl ⟨rfl, by rw [decV (f := V.bl) fun _ _ e => V.bl.inj e]; exact A.here R (.bl _)⟩
    | _ => exact gen A
  | _ => exact gen A
/-! ### in, not in -/
/-- in, not in: one sign in a text, a flat value in a list or tuple of flat values, data in a list of data -/
def sgn (neg b : Bool) : Bool := if neg then !b else b
mutual
def flatD : D → Bool
  | .non => true
  | .bl _ => true
  | .int _ => true
  | .str _ => true
  | _ => false
end
/-! ### items -/
theorem atI_reps {I : Hp} {m : List Addr} {vs : List V} {ds : List D} {i : Int} {d : D} (r : Reps K I m vs ds) (h : atI ds i = some d) : ∃ v, atI vs i = some v ∧ Rep K I m v d := by
  unfold atI at h ⊢
  rw [r.length]
  cases q : ixN ds.length i with
  | none => rw [q] at h; cases h
  | some j =>
    rw [q] at h
    exact r.get (i := j) h
def itL (ds : List D) (i : Int) (c : Cs) : R D := match atI ds i with
  | some d => .ok d c
  | none => .stuck
def itemD : D → D → Cs → R D
  | .lst ds, .int i, c => itL ds i c
  | .ro ds, .int i, c => itL ds i c
  | .tup ds, .int i, c => itL ds i c
  | .str s, .int i, c => fits s.length (match atI s.cps.toList i with
    | some k => .ok (.str ⟨#[k]⟩) c
    | none => .stuck)
  | .ref k, .int i, c => match c[k]? with
    | some (.lst ds) => itL ds i c
    | some (.frz (.lst ds)) => itL ds i c
    | _ => .stuck
  | _, _, _ => .stuck
theorem os_item : OpS K (rIx K) itemD := fun I H m c v1 v2 d1 d2 W Q R p1 p2 A => by
  have lst : ∀ {a : Addr} {vs : List V} {ds : List D} {i : Int}, v1 = .ref a → v2 = .int i → SqL K H a vs → Reps K I m vs ds → After (rD K) K I m H W Q (itL ds i c) → rIx K v1 v2 H Q := fun {a vs ds i} e1 e2 h r A => by
    unfold itL at A
    cases q : atI ds i with
    | none => rw [q] at A; exact A.elim
    | some d =>
      rw [q] at A
      obtain ⟨v, hv, pv⟩ := atI_reps r q
      exact .inl ⟨a, vs, i, v, e1, e2, h, hv, A.here R pv⟩
  cases p2 with
  | int i =>
    cases p1 with
    | lst h r => exact lst rfl rfl (SqL.of (R.same _ _ h)) r A
    | ro h r => exact lst rfl rfl (R.same.seq h) r A
    | @tup a vs ds h r =>
      have A2 : After (rD K) K I m H W Q (itL ds i c) := A
      unfold itL at A2
      cases q : atI ds i with
      | none => rw [q] at A2; exact A2.elim
      | some d =>
        rw [q] at A2
        obtain ⟨v, hv, pv⟩ := atI_reps r q
        exact .inr (.inl ⟨a, vs, i, v, rfl, rfl, sqT_same R.same h, hv, A2.here R pv⟩)
    | str s =>
      obtain ⟨z, A2⟩ := After.fits (show After (rD K) K I m H W Q (fits s.length (match atI s.cps.toList i with
        | some k => .ok (.str ⟨#[k]⟩) c
        | none => .stuck)) from A)
      cases q : atI s.cps.toList i with
      | none => rw [q] at A2; exact A2.elim
      | some k =>
        rw [q] at A2
        exact .inr (.inr ⟨s, i, k, rfl, rfl, z, q, A2.here R (.str _)⟩)
    | @ref k a h =>
      have A2 : After (rD K) K I m H W Q (match c[k]? with
        | some (.lst ds) => itL ds i c
        | some (.frz (.lst ds)) => itL ds i c
        | _ => .stuck) := A
      cases q : c[k]? with
      | none => rw [q] at A2; exact A2.elim
      | some x =>
        rw [q] at A2
        have hc := R.cell k a x h q
        cases x with
        | lst ds =>
          obtain ⟨_, vs, h1, h2⟩ := hc
          exact lst rfl rfl (SqL.of h1) h2 A2
        | frz d =>
          cases d with
          | lst ds =>
            obtain ⟨_, hr⟩ := hc
            cases hr with
            | lst h1 h2 => exact lst rfl rfl (SqL.of (R.same _ _ h1)) h2 A2
          | _ => exact A2.elim
        | _ => exact A2.elim
    | _ => exact A.elim
  | _ => cases p1 <;> exact A.elim

/-! ### slices -/
abbrev MO := Ls → Cs → R (Option Int)
def rO : Hp → List Addr → Option Int → Option Int → Prop := fun _ _ v d => v = d
abbrev rdO (K : PySem.W.Frag) (W : WX) (f : MO) : TO := rd rO K W f
def oNone : MO := fun _ c => .ok none c
def oSome (a : ME) : MO := fun l c => (a l c).bind fun x c1 => match x with
  | .int i => .ok (some i) c1
  | _ => .stuck
theorem POi {X : Cx} {e : Option Expr} {t t' : TO} (h : PO X e t) (w : ∀ σ H Q, t' σ H Q → t σ H Q) : PO X e t' := ⟨fun pins s σ H Q I q => h.run pins s σ H Q I (w σ H Q q)⟩
theorem mo_none {X : Cx} {W : WX} : PO X none (rdO X.K W oNone) := POi po_none fun σ H Q ⟨I, m, l, c, R, L, A⟩ => A.here R rfl
theorem mo_some {X : Cx} {W : WX} {e : Expr} {f : ME} (h : PE X e (rdE X.K W f)) : PO X (some e) (rdO X.K W (oSome f)) := POi (po_some h) fun σ H Q ⟨I, m, l, c, R, L, A⟩ =>
  ⟨I, m, l, c, R, L, After.mono (After.bind (rep := rD X.K) A) fun v1 H1 ⟨I1, m1, c1, d1, E1, R1, p1, A1⟩ => by
    cases p1 with
    | int i => exact ⟨i, rfl, A1.here R1 rfl⟩
    | _ => exact A1.elim⟩
def cutD (xs : List D) (lo hi : Option Int) : List D := (xs.drop (HT.sIx xs.length 0 lo)).take (HT.sIx xs.length xs.length hi - HT.sIx xs.length 0 lo)
theorem cut_reps {I : Hp} {m : List Addr} {vs : List V} {ds : List D} (lo hi : Option Int) (r : Reps K I m vs ds) : Reps K I m (cutV vs lo hi) (cutD ds lo hi) := by
  unfold cutV cutD
  rw [r.length]
  exact (r.drop _).take _
def sliceD (d : D) (lo hi : Option Int) (c : Cs) : R D := match d with
  | .lst ds => .ok (.lst (cutD ds lo hi)) c
  | .str s => fits s.length (.ok (.str (cutS s lo hi)) c)
  | .ref k => match c[k]? with
    | some (.lst ds) => .ok (.lst (cutD ds lo hi)) c
    | _ => .stuck
  | _ => .stuck
def mSlice (a : ME) (lo hi : MO) : ME := fun l c => (a l c).bind fun x c1 => (lo l c1).bind fun i c2 => (hi l c2).bind fun j c3 => sliceD x i j c3
def rSlA (K : PySem.W.Frag) : V → Option Int → Option Int → Hp → VK → Prop := fun x lo hi H Q => rSlL K x lo hi H Q ∨ rSlS x lo hi H Q
/-! ### calls of built-ins -/
def CallS (K : PySem.W.Frag) (r : List V → Hp → VK → Prop) (g : List D → Cs → R D) : Prop := ∀ (I H : Hp) (m : List Addr) (c : Cs) (vs : List V) (ds : List D) (W : XK) (Q : VK),
  Rel K I H m c → Reps K I m vs ds → After (rD K) K I m H W Q (g ds c) → r vs H Q
def mCB (g : List D → Cs → R D) (t : MA) : ME := fun l c => (t l c).bind fun xs c1 => g xs c1
theorem cb_read {X : Cx} {W : WX} {r : List V → Hp → VK → Prop} {g : List D → Cs → R D} {ga : MA} {σ : St} {H : Hp} {Q : VK} (hs : CallS X.K r g) (h : rdE X.K W (mCB g ga) σ H Q) : tCB r (rdA X.K W ga) σ H Q := by
  obtain ⟨I, m, l, c, R, L, A⟩ := h
  exact ⟨I, m, l, c, R, L, After.mono (After.bind (rep := rA X.K) A) fun v1 H1 ⟨I1, m1, c1, d1, E1, R1, p1, A1⟩ => hs _ _ _ _ _ _ _ _ R1 p1 A1⟩
def lenC (x : D) (c : Cs) : Option Nat := match x with
  | .lst ds => some ds.length
  | .ro ds => some ds.length
  | .tup ds => some ds.length
  | .str s => if s.length ≤ sizeLine then some s.length else none
  | .ref k => match c[k]? with
    | some (.lst ds) => some ds.length
    | some (.frz (.lst ds)) => some ds.length
    | _ => none
  | _ => none
def lenD : List D → Cs → R D
  | [x], c => match lenC x c with
    | some n => .ok (.int n) c
    | none => .stuck
  | _, _ => .stuck
theorem cs_len : CallS K (fun xs H Q => ∃ x n, xs = [x] ∧ LenV K x H n ∧ Q (.int n) H) lenD := fun I H m c vs ds W Q R p A => by
  cases p with
  | nil => exact A.elim
  | @cons v _ d _ h t =>
    cases t with
    | cons _ _ => exact A.elim
    | nil =>
      have A2 : After (rD K) K I m H W Q (match lenC d c with
        | some n => .ok (.int n) c
        | none => .stuck) := A
      have fin : ∀ {n : Nat}, lenC d c = some n → LenV K v H n → ∃ x n, [v] = [x] ∧ LenV K x H n ∧ Q (.int n) H := fun {n} e hl => by
        rw [e] at A2
        exact ⟨v, n, rfl, hl, A2.here R (.int _)⟩
      cases h with
      | lst h r => exact fin rfl (.inl ⟨_, SqL.of (R.same _ _ h), r.length.symm⟩)
      | ro h r => exact fin rfl (.inl ⟨_, R.same.seq h, r.length.symm⟩)
      | tup h r => exact fin rfl (.inr ⟨_, sqT_same R.same h, r.length.symm⟩)
      | str s =>
        by_cases hz : s.length ≤ sizeLine
        · exact fin (if_pos hz) ⟨hz, rfl⟩
        · rw [show lenC (.str s) c = none from if_neg hz] at A2
          exact A2.elim
      | @ref k a h =>
        have lk : lenC (.ref k) c = (match c[k]? with
          | some (.lst ds) => some ds.length
          | some (.frz (.lst ds)) => some ds.length
          | _ => none) := rfl
        cases q : c[k]? with
        | none => rw [lk, q] at A2; exact A2.elim
        | some x =>
          have hc := R.cell k a x h q
          cases x with
          | lst ds =>
            obtain ⟨_, vs, h1, h2⟩ := hc
            exact fin (by rw [lk, q]) (.inl ⟨_, SqL.of h1, h2.length.symm⟩)
          | frz d =>
            cases d with
            | lst ds =>
              obtain ⟨_, hr⟩ := hc
              cases hr with
              | lst h1 h2 => exact fin (by rw [lk, q]) (.inl ⟨_, SqL.of (R.same _ _ h1), h2.length.symm⟩)
            | _ => rw [lk, q] at A2; exact A2.elim
          | _ => rw [lk, q] at A2; exact A2.elim
      | _ => exact A2.elim
def ints2 (g : Int → Int → Int) : List D → Cs → R D
  | [.int i, .int j], c => .ok (.int (g i j)) c
  | _, _ => .stuck
theorem two_ints {I H : Hp} {m : List Addr} {c : Cs} {W : XK} {Q : VK} {vs : List V} {ds : List D} {g : Int → Int → Int} (R : Rel K I H m c) (p : Reps K I m vs ds) (A : After (rD K) K I m H W Q (ints2 g ds c)) : ∃ i j, vs = [.int i, .int j] ∧ Q (.int (g i j)) H := by
  cases p with
  | nil => exact A.elim
  | cons h t =>
    cases t with
    | nil => cases h <;> exact A.elim
    | cons h2 t2 =>
      cases t2 with
      | cons _ _ => cases h <;> first | exact A.elim | (cases h2 <;> exact A.elim)
      | nil =>
        cases h with
        | int i =>
          cases h2 with
          | int j => exact ⟨i, j, rfl, A.here R (.int _)⟩
          | _ => exact A.elim
        | _ => exact A.elim
def max2 : List D → Cs → R D := ints2 fun i j => if j > i then j else i
def min2 : List D → Cs → R D := ints2 fun i j => if j < i then j else i
theorem cs_max2 : CallS K (fun xs H Q => ∃ i j, xs = [.int i, .int j] ∧ Q (.int (if j > i then j else i)) H) max2 := fun I H m c vs ds W Q R p A => two_ints R p A
theorem cs_min2 : CallS K (fun xs H Q => ∃ i j, xs = [.int i, .int j] ∧ Q (.int (if j < i then j else i)) H) min2 := fun I H m c vs ds W Q R p A => two_ints R p A
end
end L2.Mi

namespace L2.Mi
open PySem PySem.Spec PyProof.Rows L2

/-! ### statements -/
inductive Fl where
  | nx (l : Ls)
  | rt (d : D)
  | bk (l : Ls)
  | ct (l : Ls)
inductive RS where
  | stuck
  | go (f : Fl) (c : Cs)
  | exc (x : Ex) (l : Ls) (c : Cs)
abbrev MS := Ls → Cs → RS
/-- what is wanted behind a statement -/
def AfterS (K : PySem.W.Frag) (I : Hp) (m : List Addr) (H : Hp) (W : WX) (D : Ends) : RS → Prop
  | .stuck => False
  | .go (.nx l) c => ∀ I' m' H' σ', Ext I m H I' m' H' → Rel K I' H' m' c → Locs K I' m' σ' l → D.nx σ' H'
  | .go (.rt d) c => ∀ I' m' H' v, Ext I m H I' m' H' → Rel K I' H' m' c → Rep K I' m' v d → D.rt v H'
  | .go (.bk l) c => ∀ I' m' H' σ', Ext I m H I' m' H' → Rel K I' H' m' c → Locs K I' m' σ' l → D.bk σ' H'
  | .go (.ct l) c => ∀ I' m' H' σ', Ext I m H I' m' H' → Rel K I' H' m' c → Locs K I' m' σ' l → D.ct σ' H'
  | .exc x l c => ∀ I' m' H' σ' cls dd, Ext I m H I' m' H' → Rel K I' H' m' c → Locs K I' m' σ' l → RepX K I' m' H' cls dd x → W cls dd σ' H'
def rdS (K : PySem.W.Frag) (W : WX) (f : MS) : TS := fun D σ H => ∃ I m l c, Rel K I H m c ∧ Locs K I m σ l ∧ AfterS K I m H W D (f l c)
theorem AfterS.ext {K : PySem.W.Frag} {I I1 H H1 : Hp} {m m1 : List Addr} {W : WX} {D : Ends} {r : RS} (e : Ext I m H I1 m1 H1) (a : AfterS K I m H W D r) : AfterS K I1 m1 H1 W D r := by
  cases r with
  | stuck => exact a
  | exc x l c => exact fun I' m' H' σ' cls dd e' => a I' m' H' σ' cls dd (e.trans e')
  | go f c => cases f <;> exact fun I' m' H' v e' => a I' m' H' v (e.trans e')
/-- an expression, then a statement -/
def R.seq {α : Type} (r : R α) (l : Ls) (f : α → Cs → RS) : RS := match r with
  | .stuck => .stuck
  | .ok a c => f a c
  | .exc x c => .exc x l c
@[simp] theorem R.seq_ok {α : Type} (a : α) (c : Cs) (l : Ls) (f : α → Cs → RS) : (R.ok a c).seq l f = f a c := rfl
@[simp] theorem R.seq_exc {α : Type} (x : Ex) (c : Cs) (l : Ls) (f : α → Cs → RS) : (R.exc x c : R α).seq l f = .exc x l c := rfl
@[simp] theorem R.seq_stuck {α : Type} (l : Ls) (f : α → Cs → RS) : (R.stuck : R α).seq l f = .stuck := rfl
def MidS {α β : Type} (rep : Hp → List Addr → β → α → Prop) (K : PySem.W.Frag) (I : Hp) (m : List Addr) (H : Hp) (W : WX) (D : Ends) (f : α → Cs → RS) (v : β) (H1 : Hp) : Prop :=
  ∃ I1 m1 c1 a, Ext I m H I1 m1 H1 ∧ Rel K I1 H1 m1 c1 ∧ rep I1 m1 v a ∧ AfterS K I1 m1 H1 W D (f a c1)
theorem AfterS.seq {α β : Type} {rep : Hp → List Addr → β → α → Prop} {K : PySem.W.Frag} {I H : Hp} {m : List Addr} {W : WX} {D : Ends} {r : R α} {l : Ls} {σ : St} {f : α → Cs → RS} (L : Locs K I m σ l) (a : AfterS K I m H W D (r.seq l f)) :
    After rep K I m H (fun cls dd H' => W cls dd σ H') (MidS rep K I m H W D f) r := by
  cases r with
  | stuck => exact a
  | ok d c => exact fun I' m' H' v e' r' p => ⟨I', m', c, d, e', r', p, AfterS.ext e' a⟩
  | exc x c => exact fun I' m' H' cls dd e r p => a I' m' H' σ cls dd e r (L.ext e) p
/-- a statement, then another one -/
def RS.next (r : RS) (f : Ls → Cs → RS) : RS := match r with
  | .go (.nx l) c => f l c
  | r => r
@[simp] theorem RS.next_nx (l : Ls) (c : Cs) (f : Ls → Cs → RS) : (RS.go (.nx l) c).next f = f l c := rfl
@[simp] theorem RS.next_rt (d : D) (c : Cs) (f : Ls → Cs → RS) : (RS.go (.rt d) c).next f = .go (.rt d) c := rfl
@[simp] theorem RS.next_bk (l : Ls) (c : Cs) (f : Ls → Cs → RS) : (RS.go (.bk l) c).next f = .go (.bk l) c := rfl
@[simp] theorem RS.next_ct (l : Ls) (c : Cs) (f : Ls → Cs → RS) : (RS.go (.ct l) c).next f = .go (.ct l) c := rfl
@[simp] theorem RS.next_exc (x : Ex) (l : Ls) (c : Cs) (f : Ls → Cs → RS) : (RS.exc x l c).next f = .exc x l c := rfl
@[simp] theorem RS.next_stuck (f : Ls → Cs → RS) : RS.stuck.next f = .stuck := rfl

theorem PSi {X : Cx} {s : Stmt} {t t' : TS} (h : PS X s t) (w : ∀ D σ H, t' D σ H → t D σ H) : PS X s t' := ⟨fun pins s σ H D I q => h.run pins s σ H D I (w D σ H q)⟩
theorem PSsi {X : Cx} {s : List Stmt} {t t' : TS} (h : PSs X s t) (w : ∀ D σ H, t' D σ H → t D σ H) : PSs X s t' := ⟨fun pins s σ H D I q => h.run pins s σ H D I (w D σ H q)⟩

section
variable {X : Cx} {W : WX} {e a b : Expr} {es : List Expr} {s : Stmt} {ss body orelse : List Stmt} {pos : Pos} {fa : ME} {ta : MT} {f g : MS}
def sNil : MS := fun l c => .go (.nx l) c
def sSeq (f g : MS) : MS := fun l c => (f l c).next g
theorem ms_nil : PSs X [] (rdS X.K W sNil) := PSsi pss_nil fun D σ H ⟨I, m, l, c, R, L, A⟩ => A I m H σ (Ext.refl _ _ _) R L
theorem seq_read {K : PySem.W.Frag} {D : Ends} {σ : St} {H : Hp} (h : rdS K W (sSeq f g) D σ H) : tSeq (rdS K W f) (rdS K W g) D σ H := by
  obtain ⟨I, m, l, c, R, L, A⟩ := h
  refine ⟨I, m, l, c, R, L, ?_⟩
  have A : AfterS K I m H W D ((f l c).next g) := A
  cases q : f l c with
  | stuck => rw [q] at A; exact A
  | exc x l' c' => rw [q] at A; exact A
  | go fl c' =>
    rw [q] at A
    cases fl with
    | nx l' => exact fun I' m' H' σ' e' r' L' => ⟨I', m', l', c', r', L', AfterS.ext e' A⟩
    | rt d => exact A
    | bk l' => exact A
    | ct l' => exact A
theorem ms_cons (h1 : PS X s (rdS X.K W f)) (h2 : PSs X ss (rdS X.K W g)) : PSs X (s :: ss) (rdS X.K W (sSeq f g)) := PSsi (pss_cons h1 h2) fun _ _ _ h => seq_read h
theorem ms_one (h1 : PS X s (rdS X.K W f)) : PSs X [s] (rdS X.K W f) := pss_one h1
def sBreak : MS := fun l c => .go (.bk l) c
def sCont : MS := fun l c => .go (.ct l) c
def sExpr (a : ME) : MS := fun l c => (a l c).seq l fun _ c1 => .go (.nx l) c1
theorem ms_expr (h : PE X e (rdE X.K W fa)) (hs : swapsWith e none pos.line X.env = pure false := by rfl) : PS X (.Expr e pos) (rdS X.K W (sExpr fa)) := PSi (ps_expr h hs) fun D σ H ⟨I, m, l, c, R, L, A⟩ =>
  ⟨I, m, l, c, R, L, After.mono (AfterS.seq (rep := rD X.K) L A) fun v1 H1 ⟨I1, m1, c1, d1, E1, R1, p1, A1⟩ => A1 I1 m1 H1 σ (Ext.refl _ _ _) R1 (L.ext E1)⟩
def sRet (a : ME) : MS := fun l c => (a l c).seq l fun d c1 => .go (.rt d) c1
theorem ms_ret (h : PE X e (rdE X.K W fa)) : PS X (.Return (some e) pos) (rdS X.K W (sRet fa)) := PSi (ps_ret h) fun D σ H ⟨I, m, l, c, R, L, A⟩ =>
  ⟨I, m, l, c, R, L, After.mono (AfterS.seq (rep := rD X.K) L A) fun v1 H1 ⟨I1, m1, c1, d1, E1, R1, p1, A1⟩ => A1 I1 m1 H1 v1 (Ext.refl _ _ _) R1 p1⟩
def sRetN : MS := fun _ c => .go (.rt .non) c
def sIf (t : MT) (f g : MS) : MS := fun l c => (t l c).seq l fun k c1 => match k with
  | true => f l c1
  | false => g l c1
theorem ms_if {c : Expr} {sa sb : List Stmt} (ht : PT X c (rdT X.K W ta)) (ha : PSs X sa (rdS X.K W f)) (hb : PSs X sb (rdS X.K W g)) : PS X (.If c sa sb pos) (rdS X.K W (sIf ta f g)) := PSi (ps_if ht ha hb) fun D σ H ⟨I, m, l, c, R, L, A⟩ =>
  ⟨I, m, l, c, R, L, After.mono (AfterS.seq (rep := rB) L A) fun v1 H1 ⟨I1, m1, c1, d1, E1, R1, p1, A1⟩ => by
    cases (show v1 = d1 from p1)
    cases v1 with
    | true => exact iteT ⟨I1, m1, l, c1, R1, L.ext E1, A1⟩
    | false => exact iteF ⟨I1, m1, l, c1, R1, L.ext E1, A1⟩⟩

/-! ### targets -/
abbrev MG := D → Ls → Cs → R Ls
def rL (K : PySem.W.Frag) : Hp → List Addr → St → Ls → Prop := fun I m σ l => Locs K I m σ l
/-- what a target does with a value; an exception would leave with the locals as they were -/
def rdG (K : PySem.W.Frag) (W : WX) (g : MG) : TG := fun v σ H Q => ∃ I m l c d, Rel K I H m c ∧ Locs K I m σ l ∧ Rep K I m v d ∧ After (rL K) K I m H (fun cls dd H' => W cls dd σ H') Q (g d l c)
theorem PGi {tg : Expr} {t t' : TG} (h : PG X tg t) (w : ∀ v σ H Q, t' v σ H Q → t v σ H Q) : PG X tg t' := ⟨fun pins s σ H v u Q I r q => h.run pins s σ H v u Q I r (w v σ H Q q)⟩
def gN (i : Nat) : MG := fun d l c => .ok (l.set i (some d)) c
theorem mg_name {i : Nat} {x : Str} (hN : X.N.Nodup) (hi : X.N[i]? = some x) (hx : Loc X.env.scope x) (hf : X.fn x = true ∨ X.env.scope.names.lookup x = some .local := by first | exact .inl rfl | exact .inr rfl | assumption) : PG X (.Name x pos) (rdG X.K W (gN i)) :=
  PGi (pg_name hN hi hx hf) fun v σ H Q ⟨I, m, l, c, d, R, L, p, A⟩ => A.here R (L.set i p)
abbrev MGs := List D → Ls → Cs → R Ls
def rdGs (K : PySem.W.Frag) (W : WX) (g : MGs) : TGs := fun vs σ H Q => ∃ I m l c ds, Rel K I H m c ∧ Locs K I m σ l ∧ Reps K I m vs ds ∧ After (rL K) K I m H (fun cls dd H' => W cls dd σ H') Q (g ds l c)
theorem PGsi {tgs : List Expr} {t t' : TGs} (h : PGs X tgs t) (w : ∀ v σ H Q, t' v σ H Q → t v σ H Q) : PGs X tgs t' := ⟨fun pins s σ H v u Q I r q => h.run pins s σ H v u Q I r (w v σ H Q q)⟩
/-- a, b, .. = a tuple, all names -/
def gNs (js : List Nat) : MGs := fun ds l c => match js, ds with
  | [], [] => .ok l c
  | i :: js, d :: ds => gNs js ds (l.set i (some d)) c
  | _, _ => .stuck
theorem mgs_nil : PGs X [] (rdGs X.K W (gNs [])) := PGsi pgs_nil fun vs σ H Q ⟨I, m, l, c, ds, R, L, p, A⟩ => by
  cases p with
  | nil => exact ⟨rfl, A.here R L⟩
  | cons h t => exact A.elim
theorem mgs_cons {i : Nat} {x : Str} {js : List Nat} {p : Pos} (hN : X.N.Nodup) (hi : X.N[i]? = some x) (hx : Loc X.env.scope x) (h2 : PGs X es (rdGs X.K W (gNs js)))
    (hs : (assignEach (.Name x p :: es) X.env).map (·.2) = assign (.Name x p) X.env :: (assignEach es X.env).map (·.2) := by rfl)
    (hf : X.fn x = true ∨ X.env.scope.names.lookup x = some .local := by first | exact .inl rfl | exact .inr rfl | assumption) : PGs X (.Name x p :: es) (rdGs X.K W (gNs (i :: js))) :=
  PGsi (pgs_cons (pg_name hN hi hx hf) h2 hs) fun vs σ H Q ⟨I, m, l, c, ds, R, L, p, A⟩ => by
    cases p with
    | nil => exact A.elim
    | cons h t =>
      refine ⟨_, _, rfl, I, m, l.set i _, c, _, R, L.set i h, t, ?_⟩
      revert A
      show After (rL X.K) X.K I m H (fun cls dd H' => W cls dd σ H') Q (gNs js _ (l.set i _) c) → _
      have never : ∀ (js : List Nat) (ds : List D) (l : Ls) (c : Cs) (x : Ex) (c' : Cs), gNs js ds l c ≠ .exc x c' := by
        intro js
        induction js with
        | nil => intro ds l c x c' e; cases ds <;> cases e
        | cons i js ih =>
          intro ds l c x c' e
          cases ds with
          | nil => cases e
          | cons d ds => exact ih _ _ _ _ _ e
      intro A
      generalize hq : gNs js _ (l.set i _) c = r at A ⊢
      cases r with
      | stuck => exact A
      | ok _ _ => exact A
      | exc x c' => exact absurd hq (never _ _ _ _ _ _)
def gT (js : List Nat) : MG := fun d l c => match d with
  | .tup ds => if ds.length = js.length then gNs js ds l c else .stuck
  | _ => .stuck
theorem mg_tup {k : Nat} {js : List Nat} (hc : X.calm = true) (h : PGs X es (rdGs X.K W (gNs js)))
    (hn : (assignEach es X.env).length = js.length := by rfl) (hst : (assignEach es X.env).findIdx? (·.1) = none := by rfl) : PG X (.Tuple es k pos) (rdG X.K W (gT js)) :=
  PGi (pg_tup hc h hn hst) fun v σ H Q ⟨I, m, l, c, d, R, L, p, A⟩ => by
    cases p with
    | @tup a vs ds h r =>
      by_cases hl : ds.length = js.length
      · have A2 : After (rL X.K) X.K I m H (fun cls dd H' => W cls dd σ H') Q (if ds.length = js.length then gNs js ds l c else .stuck) := A
        rw [if_pos hl] at A2
        exact ⟨a, vs, rfl, sqT_same R.same h, r.length.trans hl, I, m, l, c, ds, R, L, r, A2⟩
      · have A2 : After (rL X.K) X.K I m H (fun cls dd H' => W cls dd σ H') Q (if ds.length = js.length then gNs js ds l c else .stuck) := A
        rw [if_neg hl] at A2
        exact A2.elim
    | _ => exact A.elim
/-- o[i] = v, at a list's cell -/
def putD (o i v : D) (c : Cs) : R Unit := match o, i with
  | .ref k, .int j => match c[k]? with
    | some (.lst ds) => match ixN ds.length j with
      | some n => .ok () (c.set k (.lst (ds.set n v)))
      | none => .stuck
    | _ => .stuck
  | _, _ => .stuck
def gS (o i : ME) : MG := fun d l c => (o l c).bind fun x c1 => (i l c1).bind fun y c2 => (putD x y d c2).bind fun _ c3 => .ok l c3
theorem mg_sub {tg : Expr} {fo fi : ME} (h : PG X tg (gSub (rdE X.K W fo) (rdE X.K W fi) rSetL)) : PG X tg (rdG X.K W (gS fo fi)) :=
  PGi h fun v σ H Q ⟨I, m, l, c, d, R, L, p, A⟩ => by
    refine ⟨I, m, l, c, R, L, After.mono (After.bind (rep := rD X.K) A) fun v1 H1 ⟨I1, m1, c1, d1, E1, R1, p1, A1⟩ => ?_⟩
    refine ⟨I1, m1, l, c1, R1, L.ext E1, After.mono (After.bind (rep := rD X.K) A1) fun v2 H2 ⟨I2, m2, c2, d2, E2, R2, p2, A2⟩ => ?_⟩
    have pd := Rep.ext (Rep.ext p E1) E2
    have L2 := (L.ext E1).ext E2
    have q1 := Rep.ext p1 E2
    cases q1 with
    | @ref k a hk =>
      cases p2 with
      | int j =>
        have A3 : After (rL X.K) X.K I2 m2 H2 (fun cls dd H' => W cls dd σ H') Q ((match c2[k]? with
          | some (.lst ds) => match ixN ds.length j with
            | some n => .ok () (c2.set k (.lst (ds.set n d)))
            | none => .stuck
          | _ => .stuck : Mi.R Unit).bind fun _ c3 => .ok l c3) := A2
        cases q : c2[k]? with
        | none => rw [q] at A3; exact A3.elim
        | some x =>
          rw [q] at A3
          cases x with
          | lst ds =>
            obtain ⟨n1, vs, h1, h2⟩ := R2.cell k a _ hk q
            cases q2 : ixN ds.length j with
            | none =>
              have A4 : After (rL X.K) X.K I2 m2 H2 (fun cls dd H' => W cls dd σ H') Q ((match ixN ds.length j with
                | some n => .ok () (c2.set k (.lst (ds.set n d)))
                | none => .stuck : Mi.R Unit).bind fun _ c3 => .ok l c3) := A3
              rw [q2] at A4
              exact A4.elim
            | some n =>
              have A4 : After (rL X.K) X.K I2 m2 H2 (fun cls dd H' => W cls dd σ H') Q ((match ixN ds.length j with
                | some n => .ok () (c2.set k (.lst (ds.set n d)))
                | none => .stuck : Mi.R Unit).bind fun _ c3 => .ok l c3) := A3
              rw [q2] at A4
              refine ⟨a, vs, j, n, rfl, rfl, h1, by rw [h2.length]; exact q2, ?_⟩
              obtain ⟨R3, E3⟩ := R2.put hk q (h2.set pd n)
              exact A4 I2 m2 _ σ E3 R3 (L2.ext E3)
          | _ => exact A3.elim
      | _ => exact A2.elim
    | _ => exact A2.elim
def sAsg (a : ME) (g : MG) : MS := fun l c => (a l c).seq l fun d c1 => (g d l c1).seq l fun l' c2 => .go (.nx l') c2
theorem asg_read {K : PySem.W.Frag} {g : MG} {D : Ends} {σ : St} {H : Hp} (h : rdS K W (sAsg fa g) D σ H) : tAsg (rdE K W fa) (rdG K W g) D σ H := by
  obtain ⟨I, m, l, c, R, L, A⟩ := h
  refine ⟨I, m, l, c, R, L, After.mono (AfterS.seq (rep := rD K) L A) fun v1 H1 ⟨I1, m1, c1, d1, E1, R1, p1, A1⟩ => ?_⟩
  refine ⟨I1, m1, l, c1, d1, R1, L.ext E1, p1, After.mono (AfterS.seq (rep := rL K) (L.ext E1) A1) fun v2 H2 ⟨I2, m2, c2, d2, E2, R2, p2, A2⟩ => ?_⟩
  exact A2 I2 m2 H2 v2 (Ext.refl _ _ _) R2 p2
theorem ms_asg {tg : Expr} {g : MG} (he : PE X e (rdE X.K W fa)) (hg : PG X tg (rdG X.K W g)) (hs : swapsWithSole [tg] e pos.line X.env = pure false := by rfl) (hw : swappedStores [tg] e X.env = pure none := by rfl)
    (h1 : (assignEach [tg] X.env).map (·.2) = [assign tg X.env] := by rfl) : PS X (.Assign [tg] e pos) (rdS X.K W (sAsg fa g)) := PSi (ps_asg he hg hs hw h1) fun _ _ _ h => asg_read h
/-- x = e -/
def sSet (i : Nat) (a : ME) : MS := fun l c => (a l c).seq l fun d c1 => .go (.nx (l.set i (some d))) c1
theorem ms_set {i : Nat} {x : Str} {p : Pos} (hN : X.N.Nodup) (hi : X.N[i]? = some x) (hx : Loc X.env.scope x) (he : PE X e (rdE X.K W fa)) (hs : swapsWith e (some (.Name x p)) pos.line X.env = pure false := by rfl)
    (hf : X.fn x = true ∨ X.env.scope.names.lookup x = some .local := by first | exact .inl rfl | exact .inr rfl | assumption) : PS X (.Assign [.Name x p] e pos) (rdS X.K W (sSet i fa)) :=
  PSi (ps_set hN hi hx he hs hf) fun D σ H ⟨I, m, l, c, R, L, A⟩ =>
    ⟨I, m, l, c, R, L, After.mono (AfterS.seq (rep := rD X.K) L A) fun v1 H1 ⟨I1, m1, c1, d1, E1, R1, p1, A1⟩ => A1 I1 m1 H1 _ (Ext.refl _ _ _) R1 ((L.ext E1).set i p1)⟩
/-- a, b = x, y; three of them: stored from the right, no tuple is made -/
def sPar (js : List Nat) (t : MA) : MS := fun l c => (t l c).seq l fun ds c1 => (gNs js ds l c1).seq l fun l' c2 => .go (.nx l') c2
theorem ms_par2 {i j : Nat} {x y : Str} {ga : MA} {px py pt : Pos} {kt k2 : Nat} {pt2 : Pos} (hc : X.calm = true) (hN : X.N.Nodup) (hi : X.N[i]? = some x) (hj : X.N[j]? = some y) (hij : i ≠ j)
    (hx : X.env.scope.names.lookup x = some .local) (hy : X.env.scope.names.lookup y = some .local) (ha : PA X [a, b] (rdA X.K W ga))
    (hw : swappedStores [.Tuple [.Name x px, .Name y py] kt pt] (.Tuple [a, b] k2 pt2) X.env = pure (some [x, y]))
    (hs : swapsWithSole [.Tuple [.Name x px, .Name y py] kt pt] (.Tuple [a, b] k2 pt2) pos.line X.env = pure false := by rfl) :
    PS X (.Assign [.Tuple [.Name x px, .Name y py] kt pt] (.Tuple [a, b] k2 pt2) pos) (rdS X.K W (sPar [i, j] ga)) := PSi (ps_par hc hN hi hj hij hx hy ha hw hs) fun D σ H ⟨I, m, l, c, R, L, A⟩ => by
  refine ⟨I, m, l, c, R, L, After.mono (AfterS.seq (rep := rA X.K) L A) fun v1 H1 ⟨I1, m1, c1, d1, E1, R1, p1, A1⟩ => ?_⟩
  cases p1 with
  | nil => exact A1.elim
  | cons h t =>
    cases t with
    | nil => exact A1.elim
    | cons h2 t2 =>
      cases t2 with
      | cons h3 t3 => exact A1.elim
      | nil => exact ⟨_, _, rfl, A1 I1 m1 H1 _ (Ext.refl _ _ _) R1 (((L.ext E1).set i h).set j h2)⟩
theorem ms_par3 {i j k : Nat} {x y z : Str} {d : Expr} {ga : MA} {px py pz pt : Pos} {kt k2 : Nat} {pt2 : Pos} (hc : X.calm = true) (hN : X.N.Nodup) (hi : X.N[i]? = some x) (hj : X.N[j]? = some y) (hk : X.N[k]? = some z) (hij : i ≠ j) (hil : i ≠ k) (hjl : j ≠ k)
    (hx : X.env.scope.names.lookup x = some .local) (hy : X.env.scope.names.lookup y = some .local) (hz : X.env.scope.names.lookup z = some .local) (ha : PA X [a, b, d] (rdA X.K W ga))
    (hw : swappedStores [.Tuple [.Name x px, .Name y py, .Name z pz] kt pt] (.Tuple [a, b, d] k2 pt2) X.env = pure (some [x, y, z]))
    (hs : swapsWithSole [.Tuple [.Name x px, .Name y py, .Name z pz] kt pt] (.Tuple [a, b, d] k2 pt2) pos.line X.env = pure false := by rfl) :
    PS X (.Assign [.Tuple [.Name x px, .Name y py, .Name z pz] kt pt] (.Tuple [a, b, d] k2 pt2) pos) (rdS X.K W (sPar [i, j, k] ga)) := PSi (ps_par3 hc hN hi hj hk hij hil hjl hx hy hz ha hw hs) fun D σ H ⟨I, m, l, c, R, L, A⟩ => by
  refine ⟨I, m, l, c, R, L, After.mono (AfterS.seq (rep := rA X.K) L A) fun v1 H1 ⟨I1, m1, c1, d1, E1, R1, p1, A1⟩ => ?_⟩
  cases p1 with
  | nil => exact A1.elim
  | cons h t =>
    cases t with
    | nil => exact A1.elim
    | cons h2 t2 =>
      cases t2 with
      | nil => exact A1.elim
      | cons h3 t3 =>
        cases t3 with
        | cons h4 t4 => exact A1.elim
        | nil => exact ⟨_, _, _, rfl, A1 I1 m1 H1 _ (Ext.refl _ _ _) R1 ((((L.ext E1).set i h).set j h2).set k h3)⟩

/-! ### what is walked -/
abbrev MI := Ls → Cs → R (List D)
/-- the items that an iterator gives, as trees -/
def Walks (K : PySem.W.Frag) (I : Hp) (m : List Addr) (J : It) (ds : List D) : Prop := ∀ (i : Nat) (I' H : Hp) (m' : List Addr) (c : Cs), Same I I' → Pre m m' → Rel K I' H m' c →
  (∀ d, ds[i]? = some d → J.go i H ∧ ∀ x H', J.yld i H x H' → ∃ I'', Ext I' m' H I'' m' H' ∧ Rel K I'' H' m' c ∧ Rep K I'' m' x d) ∧ (ds.length ≤ i → J.stop i H)
theorem Walks.ext {K : PySem.W.Frag} {I I1 H H1 : Hp} {m m1 : List Addr} {J : It} {ds : List D} (w : Walks K I m J ds) (e : Ext I m H I1 m1 H1) : Walks K I1 m1 J ds := fun i I' H m' c s p => w i I' H m' c (e.same.trans s) (e.pre.trans p)
def rI' (K : PySem.W.Frag) : Hp → List Addr → It → List D → Prop := fun I m J ds => Walks K I m J ds
def rdI (K : PySem.W.Frag) (W : WX) (f : MI) : TI := rd (rI' K) K W f
theorem PIi {tg it : Expr} {t t' : TI} (h : PI X tg it t) (w : ∀ σ H R, t' σ H R → t σ H R) : PI X tg it t' := ⟨fun pins s σ H R I q => h.run pins s σ H R I (w σ H R q)⟩
def iLst (a : ME) : MI := fun l c => (a l c).bind fun x c1 => match x with
  | .lst ds => .ok ds c1
  | .ro ds => .ok ds c1
  | _ => .stuck
theorem walks_list {K : PySem.W.Frag} {I : Hp} {m : List Addr} {a : Addr} {vs : List V} {ds : List D} (h : SqL K I a vs) (r : Reps K I m vs ds) : Walks K I m (Itl K a) ds := fun i I' H m' c s p R => by
  have hs : SqL K H a vs := R.same.seq (s.seq h)
  refine ⟨fun d hd => ?_, fun hl => ⟨vs, hs, by rw [r.length]; exact hl⟩⟩
  obtain ⟨v, hv, pv⟩ := r.get hd
  refine ⟨⟨vs, v, hs, hv⟩, fun x H' y => ?_⟩
  obtain ⟨e, y⟩ := y
  subst e
  have ev : x = v := by
    have z := y vs hs
    rw [hv] at z
    exact (Option.some.inj z).symm
  subst ev
  exact ⟨I', Ext.refl _ _ _, R, pv.mono s p⟩
end
end L2.Mi

namespace L2.Mi
open PySem PySem.Spec PyProof.Rows L2

/-! ### what is walked -/
section
variable {X : Cx} {W : WX} {tg e : Expr} {pos : Pos} {fa : ME} {ga : MA}
theorem mi_lst (h : PE X e (rdE X.K W fa)) : PI X tg e (rdI X.K W (iLst fa)) := PIi (pi_list h) fun σ H Q ⟨I, m, l, c, R, L, A⟩ =>
  ⟨I, m, l, c, R, L, After.mono (After.bind (rep := rD X.K) A) fun v1 H1 ⟨I1, m1, c1, d1, E1, R1, p1, A1⟩ => by
    cases p1 with
    | @lst a vs ds h r => exact ⟨a, rfl, ⟨vs, SqL.of (R1.same _ _ h)⟩, A1.here R1 (walks_list (SqL.of h) r)⟩
    | @ro a vs ds h r => exact ⟨a, rfl, ⟨vs, R1.same.seq h⟩, A1.here R1 (walks_list h r)⟩
    | _ => exact A1.elim⟩
def iTup' (a : ME) : MI := fun l c => (a l c).bind fun x c1 => match x with
  | .tup ds => .ok ds c1
  | _ => .stuck
theorem walks_tup {K : PySem.W.Frag} {I : Hp} {m : List Addr} {a : Addr} {vs : List V} {ds : List D} (h : SqT K I a vs) (r : Reps K I m vs ds) : Walks K I m (Itt K a) ds := fun i I' H m' c s p R => by
  have hs : SqT K H a vs := sqT_same R.same (sqT_same s h)
  refine ⟨fun d hd => ?_, fun hl => ⟨vs, hs, by rw [r.length]; exact hl⟩⟩
  obtain ⟨v, hv, pv⟩ := r.get hd
  refine ⟨⟨vs, v, hs, hv⟩, fun x H' y => ?_⟩
  obtain ⟨e, y⟩ := y
  subst e
  have ev : x = v := by
    have z := y vs hs
    rw [hv] at z
    exact (Option.some.inj z).symm
  subst ev
  exact ⟨I', Ext.refl _ _ _, R, pv.mono s p⟩
theorem mi_tup (h : PE X e (rdE X.K W fa)) : PI X tg e (rdI X.K W (iTup' fa)) := PIi (pi_tup h) fun σ H Q ⟨I, m, l, c, R, L, A⟩ =>
  ⟨I, m, l, c, R, L, After.mono (After.bind (rep := rD X.K) A) fun v1 H1 ⟨I1, m1, c1, d1, E1, R1, p1, A1⟩ => by
    cases p1 with
    | @tup a vs ds h r => exact ⟨a, rfl, ⟨vs, sqT_same R1.same h⟩, A1.here R1 (walks_tup h r)⟩
    | _ => exact A1.elim⟩
/-- the chrs of a text -/
def chrs (s : Str) : List D := s.cps.toList.map fun k => .str ⟨#[k]⟩
def iStr' (a : ME) : MI := fun l c => (a l c).bind fun x c1 => match x with
  | .str s => .ok (chrs s) c1
  | _ => .stuck
theorem walks_str {K : PySem.W.Frag} {I : Hp} {m : List Addr} {s : Str} : Walks K I m (Its s) (chrs s) := fun i I' H m' c _ _ R => by
  have hl : (chrs s).length = s.cps.size := by simp [chrs]
  refine ⟨fun d hd => ?_, fun h => by rw [hl] at h; exact h⟩
  have hi : i < s.cps.size := by rw [← hl]; exact (List.getElem?_eq_some_iff.mp hd).1
  refine ⟨hi, fun x H' y => ?_⟩
  obtain ⟨e, k, hk, ex⟩ := y
  subst e; subst ex
  refine ⟨I', Ext.refl _ _ _, R, ?_⟩
  have e2 : d = .str ⟨#[k]⟩ := by
    unfold chrs at hd
    rw [List.getElem?_map, Array.getElem?_toList, hk] at hd
    exact (Option.some.inj hd).symm
  rw [e2]
  exact .str _
/-- range(n), range(a, b) -/
def rangeL (lo : Int) (n : Nat) : List D := (List.range n).map fun i => .int (lo + (i : Nat))
theorem walks_rng {K : PySem.W.Frag} {I : Hp} {m : List Addr} {lo : Int} {n : Nat} : Walks K I m (Itr lo n) (rangeL lo n) := fun i I' H m' c _ _ R => by
  refine ⟨fun d hd => ?_, fun h => by simp [rangeL] at h; exact h⟩
  have hi : i < n := by have := (List.getElem?_eq_some_iff.mp hd).1; simpa [rangeL] using this
  refine ⟨hi, fun x H' y => ?_⟩
  obtain ⟨e, ex⟩ := y
  subst e; subst ex
  refine ⟨I', Ext.refl _ _ _, R, ?_⟩
  have e2 : d = .int (lo + (i : Nat)) := by
    unfold rangeL at hd
    rw [List.getElem?_map, List.getElem?_range hi] at hd
    exact (Option.some.inj hd).symm
  rw [e2]
  exact .int _
def small62 (i : Int) : Prop := -(2 ^ 62) ≤ i ∧ i < 2 ^ 62
instance : ∀ i, Decidable (small62 i) := fun i => inferInstanceAs (Decidable (-(2 ^ 62) ≤ i ∧ i < 2 ^ 62))
def iR1 (t : MA) : MI := fun l c => (t l c).bind fun xs c1 => match xs with
  | [.int j] => if small62 j then .ok (rangeL 0 j.toNat) c1 else .stuck
  | _ => .stuck
def iR2 (t : MA) : MI := fun l c => (t l c).bind fun xs c1 => match xs with
  | [.int i, .int j] => if small62 i ∧ small62 j then .ok (rangeL i (j - i).toNat) c1 else .stuck
  | _ => .stuck
theorem mi_r1 {it : Expr} (h : PI X tg it (iRng1 (rdA X.K W ga))) : PI X tg it (rdI X.K W (iR1 ga)) := PIi h fun σ H Q ⟨I, m, l, c, R, L, A⟩ =>
  ⟨I, m, l, c, R, L, After.mono (After.bind (rep := rA X.K) A) fun v1 H1 ⟨I1, m1, c1, d1, E1, R1, p1, A1⟩ => by
    cases p1 with
    | nil => exact A1.elim
    | cons h t =>
      cases t with
      | cons h2 t2 => cases h <;> exact A1.elim
      | nil =>
        cases h with
        | int j =>
          have A2 : After (rI' X.K) X.K I1 m1 H1 (fun cls dd H' => W cls dd σ H') Q (if small62 j then .ok (rangeL 0 j.toNat) c1 else .stuck) := A1
          by_cases hj : small62 j
          · rw [if_pos hj] at A2
            exact ⟨j, rfl, hj.1, hj.2, A2.here R1 walks_rng⟩
          · rw [if_neg hj] at A2
            exact A2.elim
        | _ => exact A1.elim⟩
end

/-! ### for -/
/-- the turns of a loop -/
def forD (g : MG) (f : MS) : List D → Ls → Cs → RS
  | [], l, c => .go (.nx l) c
  | d :: ds, l, c => (g d l c).seq l fun l1 c1 => match f l1 c1 with
    | .go (.nx l2) c2 => forD g f ds l2 c2
    | .go (.ct l2) c2 => forD g f ds l2 c2
    | .go (.bk l2) c2 => .go (.nx l2) c2
    | r => r
def sFor (it : MI) (g : MG) (f : MS) : MS := fun l c => (it l c).seq l fun ds c1 => forD g f ds l c1
theorem ms_for {X : Cx} {W : WX} {tg iter : Expr} {body : List Stmt} {pos : Pos} {fi : MI} {g : MG} {f : MS} (hp : PassesOwn (model X.prog X.w) X.A X.env X.xe) (hc : X.calm = true) (hi : PI X tg iter (rdI X.K W fi)) (hg : PG X tg (rdG X.K W g)) (hb : PSs X body (rdS X.K W f))
    (hs : ∀ x, foldedSetIterable iter X.env x = pure x := by intro _; rfl) : PS X (.For tg iter body [] pos) (rdS X.K W (sFor fi g f)) := PSi (ps_for hp hc hi hg hb hs) fun D σ H ⟨I, m, l, c, R, L, A⟩ => by
  refine ⟨I, m, l, c, R, L, After.mono (AfterS.seq (rep := rI' X.K) L A) fun J H1 ⟨I1, m1, c1, ds, E1, R1, w1, A1⟩ => ?_⟩
  refine ⟨fun i n σ H => ∃ I' m' l' c', n = ds.length - i ∧ Ext I1 m1 H1 I' m' H ∧ Rel X.K I' H m' c' ∧ Locs X.K I' m' σ l' ∧ AfterS X.K I' m' H W D (forD g f (ds.drop i) l' c'), ⟨_, I1, m1, l, c1, rfl, Ext.refl _ _ _, R1, L.ext E1, A1⟩, ?_⟩
  rintro i n σ' H' ⟨I', m', l', c', rfl, E', R', L', A'⟩
  obtain ⟨wg, ws⟩ := w1 i I' H' m' c' E'.same E'.pre R'
  cases q : ds[i]? with
  | none =>
    have hi : ds.length ≤ i := List.getElem?_eq_none_iff.mp q
    rw [List.drop_eq_nil_of_le hi] at A'
    exact .inl ⟨ws hi, A' I' m' H' σ' (Ext.refl _ _ _) R' L'⟩
  | some d =>
    have hi : i < ds.length := (List.getElem?_eq_some_iff.mp q).1
    have hd : ds.drop i = d :: ds.drop (i + 1) := by
      rw [List.drop_eq_getElem_cons hi, (List.getElem?_eq_some_iff.mp q).2]
    rw [hd] at A'
    obtain ⟨go, yl⟩ := wg d q
    refine .inr ⟨go, fun σ2 H2 => ∃ I2 m2 l2 c2, Ext I1 m1 H1 I2 m2 H2 ∧ Rel X.K I2 H2 m2 c2 ∧ Locs X.K I2 m2 σ2 l2 ∧ AfterS X.K I2 m2 H2 W D (forD g f (ds.drop (i + 1)) l2 c2),
      fun σ2 H2 ⟨I2, m2, l2, c2, e2, r2, L2, a2⟩ => ⟨ds.length - (i + 1), by omega, I2, m2, l2, c2, rfl, e2, r2, L2, a2⟩, fun x H3 y => ?_⟩
    obtain ⟨I3, E3, R3, p3⟩ := yl x H3 y
    have A3 := AfterS.ext E3 A'
    refine ⟨I3, m', l', c', d, R3, L'.ext E3, p3, After.mono (AfterS.seq (rep := rL X.K) (L'.ext E3) A3) fun σ4 H4 ⟨I4, m4, c4, l4, E4, R4, L4, A4⟩ => ?_⟩
    refine ⟨I4, m4, l4, c4, R4, L4, ?_⟩
    have EE := (E'.trans E3).trans E4
    have A5 : AfterS X.K I4 m4 H4 W D (match f l4 c4 with
      | .go (.nx l2) c2 => forD g f (ds.drop (i + 1)) l2 c2
      | .go (.ct l2) c2 => forD g f (ds.drop (i + 1)) l2 c2
      | .go (.bk l2) c2 => .go (.nx l2) c2
      | r => r) := A4
    cases qf : f l4 c4 with
    | stuck => rw [qf] at A5; exact A5
    | exc x l' c' => rw [qf] at A5; exact A5
    | go fl c5 =>
      rw [qf] at A5
      cases fl with
      | nx l5 => exact fun I6 m6 H6 σ6 e6 r6 L6 => ⟨I6, m6, l5, c5, EE.trans e6, r6, L6, AfterS.ext e6 A5⟩
      | ct l5 => exact fun I6 m6 H6 σ6 e6 r6 L6 => ⟨I6, m6, l5, c5, EE.trans e6, r6, L6, AfterS.ext e6 A5⟩
      | bk l5 => exact A5
      | rt d => exact A5
/-! ### while: at most n turns are followed -/
/-! ### list comprehensions -/
def R.nox {α : Type} (r : R α) : R α := match r with
  | .exc _ _ => .stuck
  | r => r
@[simp] theorem R.nox_ok {α : Type} (a : α) (c : Cs) : (R.ok a c).nox = .ok a c := rfl
theorem After.nox {α β : Type} {rep : Hp → List Addr → β → α → Prop} {K : PySem.W.Frag} {I H : Hp} {m : List Addr} {W W' : XK} {Q : β → Hp → Prop} {r : R α} (a : After rep K I m H W Q r.nox) : After rep K I m H W' Q r := by
  cases r with
  | stuck => exact a
  | ok d c => exact a
  | exc x c => exact a.elim
/-- .. where what follows is wanted from an earlier place -/
theorem After.bindAt {α β γ δ : Type} {rep : Hp → List Addr → β → α → Prop} {rep' : Hp → List Addr → δ → γ → Prop} {K : PySem.W.Frag} {I I1 H H1 : Hp} {m m1 : List Addr} {W : XK} {Q : δ → Hp → Prop} {r : R α} {f : α → Cs → R γ}
    (a : After rep' K I m H W Q (r.bind f)) (e : Ext I m H I1 m1 H1) : After rep K I1 m1 H1 W (fun v H2 => ∃ I2 m2 c2 x, Ext I1 m1 H1 I2 m2 H2 ∧ Rel K I2 H2 m2 c2 ∧ rep I2 m2 v x ∧ After rep' K I m H W Q (f x c2)) r := by
  cases r with
  | stuck => exact a
  | ok d c => exact fun I' m' H' v e' r' p => ⟨I', m', c, d, e', r', p, a⟩
  | exc x c => exact After.ext (rep := rep') (r := (.exc x c)) e a
def compD (g : MG) (t : MT) (e : ME) (lw : Ls) : List D → List D → Cs → R (List D)
  | [], acc, c => .ok acc c
  | d :: ds, acc, c => (g d lw c).nox.bind fun l1 c1 => (t l1 c1).nox.bind fun k c2 => match k with
    | true => (e l1 c2).nox.bind fun x c3 => if acc.length < sizeLine then compD g t e lw ds (acc ++ [x]) c3 else .stuck
    | false => compD g t e lw ds acc c2
def wipeL (l : Ls) : List Nat → Ls
  | [] => l
  | v :: vs => (wipeL l vs).set v none
def mLc (it : MI) (js : List Nat) (g : MG) (t : MT) (e : ME) : ME := fun l c => (it l c).bind fun ds c1 => (compD g t e (wipeL l js) ds [] c1).bind fun xs c2 => .ok (.lst xs) c2
def tYesM : MT := fun _ c => .ok true c
theorem locs_wipe {K : PySem.W.Frag} {I : Hp} {m : List Addr} {σ : St} {l : Ls} (L : Locs K I m σ l) : ∀ js : List Nat, Locs K I m (wipe σ js) (wipeL l js)
  | [] => L
  | j :: js => by
    have q := locs_wipe L js
    refine ⟨by unfold wipe wipeL; rw [List.length_set, List.length_set, q.len], fun i d h => ?_⟩
    unfold wipeL at h
    unfold wipe
    by_cases hi : j = i
    · subst hi
      by_cases hl : j < (wipeL l js).length
      · rw [List.getElem?_set_self hl] at h; cases h
      · rw [List.getElem?_eq_none (by simpa using hl)] at h; cases h
    · rw [List.getElem?_set_ne hi] at h ⊢
      exact q.at_ i d h
/-- another object is laid, or changed, that is none of ours -/
theorem Rel.side {K : PySem.W.Frag} {I H : Hp} {m : List Addr} {c : Cs} {p : Addr} {vs ws : List V} (r : Rel K I H m c) (hH : H p = none ∨ H p = some (.lst vs)) (hI : I p = none) (hm : p ∉ m) : Rel K I (upd H p (.lst ws)) m c := by
  refine ⟨fun b o e => ?_, r.len, r.nd, fun k a x h1 h2 => ?_, r.tabs.upH (hH.elim nt_none fun z => nt_some z ⟨(fun _ z => nomatch z), (fun _ z => nomatch z)⟩)⟩
  · rw [upd_ne (ne_of_none e hI)]
    exact r.same _ _ e
  · have na : a ≠ p := fun e => hm (e ▸ List.mem_of_getElem? h1)
    have q := r.cell k a x h1 h2
    cases x with
    | lst es =>
      obtain ⟨q1, us, q2, q3⟩ := q
      exact ⟨q1, us, by rw [upd_ne na]; exact q2, q3⟩
    | dct es =>
      obtain ⟨q1, us, q2, q3⟩ := q
      exact ⟨q1, us, by rw [upd_ne na]; exact q2, q3⟩
    | dT es =>
      obtain ⟨q1, us, q2, q3⟩ := q
      exact ⟨q1, us, by rw [upd_ne na]; exact q2, q3⟩
    | dN P0 w0 es =>
      obtain ⟨q1, us, q2, q3⟩ := q
      exact ⟨q1, us, by rw [upd_ne na]; exact q2, q3⟩
    | dTz es => exact q
    | ins C es =>
      obtain ⟨q1, dx, us, q2, q3, q4, q5, q6⟩ := q
      have nd : dx ≠ p := by
        rcases hH with z | z
        · exact ne_of_none q4 z
        · exact ne_of q4 z (by intro y; cases y)
      exact ⟨q1, dx, us, q2, q3, by rw [upd_ne nd]; exact q4, q5.imp fun _ z => ⟨z.1, by rw [upd_ne na]; exact z.2⟩, q6⟩
    | frz d => exact q
/-- it becomes one that never changes -/
theorem Rel.adopt {K : PySem.W.Frag} {I H : Hp} {m : List Addr} {c : Cs} {p : Addr} {vs : List V} (r : Rel K I H m c) (hH : H p = some (.lst vs)) (hI : I p = none) (hm : p ∉ m) : Rel K (upd I p (.lst vs)) H m c := by
  have sI : Same I (upd I p (.lst vs)) := fun b o e => by rw [upd_ne (ne_of_none e hI)]; exact e
  refine ⟨fun b o e => ?_, r.len, r.nd, fun k a x h1 h2 => ?_, r.tabs.upI (nt_some hH ⟨(fun _ z => nomatch z), (fun _ z => nomatch z)⟩)⟩
  · by_cases hb : b = p
    · subst hb
      rw [upd_same] at e
      cases e
      exact hH
    · rw [upd_ne hb] at e
      exact r.same _ _ e
  · have na : a ≠ p := fun e => hm (e ▸ List.mem_of_getElem? h1)
    have q := r.cell k a x h1 h2
    cases x with
    | lst es =>
      obtain ⟨q1, us, q2, q3⟩ := q
      exact ⟨by rw [upd_ne na]; exact q1, us, q2, q3.mono sI (Pre.refl m)⟩
    | dct es =>
      obtain ⟨q1, us, q2, q3⟩ := q
      exact ⟨by rw [upd_ne na]; exact q1, us, q2, q3.mono sI (Pre.refl m)⟩
    | dT es =>
      obtain ⟨q1, us, q2, q3⟩ := q
      exact ⟨by rw [upd_ne na]; exact q1, us, q2, q3.mono sI (Pre.refl m)⟩
    | dN P0 w0 es =>
      obtain ⟨q1, us, q2, q3⟩ := q
      exact ⟨by rw [upd_ne na]; exact q1, us, q2, q3.mono sI (Pre.refl m)⟩
    | dTz es => exact q.imp (fun _ y => y.imp fun _ y => ⟨sI _ _ y.1, y.2.mono sI (Pre.refl m)⟩)
    | ins C es =>
      obtain ⟨q1, dx, us, q2, q3, q4, q5, q6⟩ := q
      exact ⟨by rw [upd_ne na]; exact q1, dx, us, by rw [upd_ne (ne_of q4 hH (by intro y; cases y))]; exact q2, q3, q4, q5, q6.mono sI (Pre.refl m)⟩
    | frz d => exact ⟨by rw [upd_ne na]; exact q.1, q.2.mono sI (Pre.refl m)⟩
/-- a block's target: it stores at the block's own places alone -/
def Good (g0 : TG) (js : List Nat) : Prop := ∀ (v : V) (σ : St) (H : Hp) (Q : St → Hp → Prop), g0 v (wipe σ js) H Q → g0 v (wipe σ js) H fun σ2 H2 => wipe σ2 js = wipe σ js ∧ Q σ2 H2
theorem wipe_get (σ : St) (i : Nat) : ∀ js : List Nat, (wipe σ js)[i]? = if i ∈ js then (if i < σ.length then some none else none) else σ[i]?
  | [] => by simp [wipe]
  | j :: js => by
    unfold wipe
    by_cases hj : j = i
    · subst hj
      by_cases hl : j < σ.length
      · rw [List.getElem?_set_self (by rw [wipe_length]; exact hl)]
        simp [hl]
      · rw [List.getElem?_eq_none (by rw [List.length_set, wipe_length]; omega)]
        simp [hl]
    · rw [List.getElem?_set_ne hj, wipe_get σ i js]
      have : i ∈ j :: js ↔ i ∈ js := by simp [Ne.symm hj]
      simp [this]
theorem wipe_again (σ : St) (js : List Nat) : wipe (wipe σ js) js = wipe σ js := by
  apply List.ext_getElem?
  intro i
  rw [wipe_get, wipe_length, wipe_get]
  by_cases h : i ∈ js <;> simp [h]
theorem wipe_set (σ : St) (js : List Nat) {i : Nat} (h : i ∈ js) (x : Option V) : wipe (σ.set i x) js = wipe σ js := by
  apply List.ext_getElem?
  intro k
  rw [wipe_get, wipe_get, List.length_set]
  by_cases hk : k ∈ js
  · simp [hk]
  · have : i ≠ k := fun e => hk (e ▸ h)
    simp [hk, List.getElem?_set_ne this]
theorem good_name {i : Nat} {js : List Nat} (h : i ∈ js) : Good (gName i) js := fun v σ H Q q => ⟨by rw [wipe_set _ _ h, wipe_again], q⟩
theorem good_names {K : PySem.W.Frag} {n : Nat} {i j : Nat} {js : List Nat} (h : i ∈ js) (h2 : j ∈ js) : Good (gTup K n (gCons (gName i) (gCons (gName j) gNil))) js := fun v σ H Q ⟨a, xs, e, hs, hl, v1, r1, e1, v2, r2, e2, e3, q⟩ =>
  ⟨a, xs, e, hs, hl, v1, r1, e1, v2, r2, e2, e3, by rw [wipe_set _ _ h2, wipe_set _ _ h, wipe_again], q⟩
def W0 : WX := fun _ _ _ _ => False
theorem takesW0 {X : Cx} : Takes X W0 := fun u s' ⟨_, _, _, _, _, _, _, _, _, _, _, _, _, _, _, _, z⟩ => z.elim
theorem lc_read {K : PySem.W.Frag} {W : WX} {fi : MI} {g : MG} {ft : MT} {fe : ME} {js : List Nat} {g0 : TG} (good : Good g0 js) (rg : ∀ v σ H Q, rdG K W0 g v σ H Q → g0 v σ H Q) {σ : St} {H : Hp} {Q : VK} (h : rdE K W (mLc fi js g ft fe) σ H Q) :
    tLc (rdI K W fi) g0 (rdT K W0 ft) (rdE K W0 fe) js σ H Q := by
  obtain ⟨I, m, l, c, R, L, A⟩ := h
  refine ⟨I, m, l, c, R, L, After.mono (After.bind (rep := rI' K) A) fun J H1 ⟨I1, m1, c1, ds, E1, R1, w1, A1⟩ => ?_⟩
  intro Dn hD
  have nI := R1.same.free hD
  have nm := R1.fresh hD
  refine ⟨fun i n H => ∃ I' m' c' acc vs, n = ds.length - i ∧ Ext I1 m1 H1 I' m' H ∧ Rel K I' H m' c' ∧ Reps K I' m' vs acc ∧ H Dn = some (.lst vs) ∧ I' Dn = none ∧ Dn ∉ m' ∧
    After (rD K) K I1 m1 H1 (fun cls dd H' => W cls dd σ H') Q ((compD g ft fe (wipeL l js) (ds.drop i) acc c').bind fun xs c2 => .ok (.lst xs) c2),
    ⟨_, I1, m1, c1, [], [], rfl, ⟨Same.refl _, Pre.refl _, fun b o h1 hT h2 h3 => ⟨by rw [upd_ne (ne_of_none h1 hD)]; exact h1, h2, h3⟩⟩, R1.side (vs := []) (.inl hD) nI nm, .nil, upd_same, nI, nm, A1⟩, ?_⟩
  rintro i n H' ⟨I', m', c', acc, vs, rfl, E', R', p', hH', hI', hm', A'⟩
  obtain ⟨wg, ws⟩ := w1 i I' H' m' c' E'.same E'.pre R'
  cases q : ds[i]? with
  | none =>
    have hi : ds.length ≤ i := List.getElem?_eq_none_iff.mp q
    rw [List.drop_eq_nil_of_le hi] at A'
    refine .inl ⟨ws hi, ?_⟩
    have sI : Same I' (upd I' Dn (.lst vs)) := fun b o e => by rw [upd_ne (ne_of_none e hI')]; exact e
    refine A' (upd I' Dn (.lst vs)) m' H' (.ref Dn) ⟨E'.same.trans sI, E'.pre, fun b o h1 hT h2 h3 => ?_⟩ (R'.adopt hH' hI' hm') (.lst upd_same (p'.mono sI (Pre.refl _)))
    obtain ⟨q1, q2, q3⟩ := E'.fr b o h1 hT h2 h3
    exact ⟨q1, by rw [upd_ne (ne_of_none h1 hD)]; exact q2, q3⟩
  | some d =>
    have hi : i < ds.length := (List.getElem?_eq_some_iff.mp q).1
    have hd : ds.drop i = d :: ds.drop (i + 1) := by
      rw [List.drop_eq_getElem_cons hi, (List.getElem?_eq_some_iff.mp q).2]
    rw [hd] at A'
    obtain ⟨go, yl⟩ := wg d q
    refine .inr ⟨go, fun H2 => ∃ I2 m2 c2 acc2 vs2, Ext I1 m1 H1 I2 m2 H2 ∧ Rel K I2 H2 m2 c2 ∧ Reps K I2 m2 vs2 acc2 ∧ H2 Dn = some (.lst vs2) ∧ I2 Dn = none ∧ Dn ∉ m2 ∧
      After (rD K) K I1 m1 H1 (fun cls dd H' => W cls dd σ H') Q ((compD g ft fe (wipeL l js) (ds.drop (i + 1)) acc2 c2).bind fun xs c2 => .ok (.lst xs) c2),
      fun H2 ⟨I2, m2, c2, acc2, vs2, e2, r2, pp2, h2, i2, n2, a2⟩ => ⟨ds.length - (i + 1), by omega, I2, m2, c2, acc2, vs2, rfl, e2, r2, pp2, h2, i2, n2, a2⟩, fun x H3 y => ?_⟩
    obtain ⟨I3, E3, R3, p3⟩ := yl x H3 y
    have Lw := ((locs_wipe L js).ext E1).ext (E'.trans E3)
    have A3 : After (rD K) K I1 m1 H1 (fun cls dd H' => W cls dd σ H') Q (((g d (wipeL l js) c').nox.bind fun l1 c1 => (ft l1 c1).nox.bind fun k c2 => match k with
      | true => (fe l1 c2).nox.bind fun x c3 => if acc.length < sizeLine then compD g ft fe (wipeL l js) (ds.drop (i + 1)) (acc ++ [x]) c3 else .stuck
      | false => compD g ft fe (wipeL l js) (ds.drop (i + 1)) acc c2).bind fun xs c2 => .ok (.lst xs) c2) := A'
    have asc : ∀ {α β γ : Type} (r : Mi.R α) (f : α → Cs → Mi.R β) (h : β → Cs → Mi.R γ), (r.bind f).bind h = r.bind fun a c => (f a c).bind h := fun r f h => by cases r <;> rfl
    rw [asc] at A3
    refine good x σ H3 _ (rg _ _ _ _ ⟨I3, m', wipeL l js, c', d, R3, Lw, p3, After.mono (After.nox (After.bindAt (rep := rL K) A3 (E'.trans E3))) fun σ4 H4 ⟨I4, m4, c4, l4, E4, R4, L4, A4⟩ => ?_⟩)
    rw [asc] at A4
    have EE := (E'.trans E3).trans E4
    refine ⟨I4, m4, l4, c4, R4, L4, After.mono (After.nox (After.bindAt (rep := rB) A4 EE)) fun b H5 ⟨I5, m5, c5, b5, E5, R5, p5, A5⟩ => ?_⟩
    cases (show b = b5 from p5)
    have F5 := (E3.trans E4).trans E5
    cases b with
    | false =>
      obtain ⟨f1, f2, f3⟩ := F5.fr _ _ hH' ⟨⟨(fun _ z => nomatch z), (fun _ z => nomatch z)⟩, (fun _ z => nomatch z)⟩ hI' hm'
      exact iteF ⟨I5, m5, c5, acc, vs, EE.trans E5, R5, p'.ext F5, f1, f2, f3, A5⟩
    | true =>
      have A6 : After (rD K) K I1 m1 H1 (fun cls dd H' => W cls dd σ H') Q (((fe l4 c5).nox.bind fun x c3 => if acc.length < sizeLine then compD g ft fe (wipeL l js) (ds.drop (i + 1)) (acc ++ [x]) c3 else .stuck).bind fun xs c2 => .ok (.lst xs) c2) := A5
      rw [asc] at A6
      have L4' : Locs K I4 m4 σ4 l4 := L4
      refine iteT ⟨I5, m5, l4, c5, R5, L4'.ext E5, After.mono (After.nox (After.bindAt (rep := rD K) A6 (EE.trans E5))) fun z H7 ⟨I7, m7, c7, d7, E7, R7, p7, A7⟩ => ?_⟩
      have F7 := F5.trans E7
      obtain ⟨f1, f2, f3⟩ := F7.fr _ _ hH' ⟨⟨(fun _ z => nomatch z), (fun _ z => nomatch z)⟩, (fun _ z => nomatch z)⟩ hI' hm'
      by_cases hz : acc.length < sizeLine
      · have A8 : After (rD K) K I1 m1 H1 (fun cls dd H' => W cls dd σ H') Q ((if acc.length < sizeLine then compD g ft fe (wipeL l js) (ds.drop (i + 1)) (acc ++ [d7]) c7 else .stuck).bind fun xs c2 => .ok (.lst xs) c2) := A7
        rw [if_pos hz] at A8
        refine ⟨vs, f1, by rw [p'.length]; exact hz, I7, m7, c7, acc ++ [d7], vs ++ [z], ?_, R7.side (.inr f1) f2 f3, (p'.ext F7).append (.cons p7 .nil), upd_same, f2, f3, A8⟩
        have G := (EE.trans E5).trans E7
        refine ⟨G.same, G.pre, fun b o h1 hT h2 h3 => ?_⟩
        obtain ⟨q1, q2, q3⟩ := G.fr b o h1 hT h2 h3
        exact ⟨by rw [upd_ne (ne_of_none h1 hD)]; exact q1, q2, q3⟩
      · have A8 : After (rD K) K I1 m1 H1 (fun cls dd H' => W cls dd σ H') Q ((if acc.length < sizeLine then compD g ft fe (wipeL l js) (ds.drop (i + 1)) (acc ++ [d7]) c7 else .stuck).bind fun xs c2 => .ok (.lst xs) c2) := A7
        rw [if_neg hz] at A8
        exact A8.elim
end L2.Mi

namespace L2.Mi
open PySem PySem.Spec PyProof.Rows L2

section
variable {K : PySem.W.Frag}
/-! ### isinstance, of built-in types -/
def tyD (d : D) (c : Cs) : Option String := match d with
  | .non => some "NoneType"
  | .bl _ => some "bool"
  | .int _ => some "int"
  | .str _ => some "str"
  | .lst _ => some "list"
  | .ro _ => some "list"
  | .tup _ => some "tuple"
  | .dct _ => some "dict"
  | .ref k => match c[k]? with
    | some (.lst _) => some "list"
    | some (.dct _) => some "dict"
    | some (.frz (.lst _)) => some "list"
    | _ => none
  | _ => none
def tyNames : List String := ["NoneType", "bool", "int", "str", "list", "tuple", "dict"]
def isT (t n : String) : Bool := t == n || (t == "bool" && n == "int")
theorem kit_tab : ∀ t ∈ tyNames, ∀ n ∈ tyNames, kitB t n = some (isT t n) := by decide +kernel
theorem tyD_mem {d : D} {c : Cs} {t : String} (h : tyD d c = some t) : t ∈ tyNames := by
  unfold tyD at h
  split at h <;> first
    | (cases h; decide)
    | (split at h <;> first | (cases h; decide) | cases h)
    | cases h
theorem tyL {I H : Hp} {m : List Addr} {a : Addr} {vs : List V} (s : Same I H) (h : SqL K I a vs) : TyX K H (.ref a) (.type "list") := by
  rcases s.seq h with (h | ⟨o, h⟩) | ⟨o, its, n, h1, h2, _⟩
  · exact .base (.lst h)
  · exact .base (.frz h)
  · exact .kList h1 h2
theorem tyT {I H : Hp} {m : List Addr} {a : Addr} {vs : List V} (s : Same I H) (h : SqT K I a vs) : TyX K H (.ref a) (.type "tuple") := by
  rcases sqT_same s h with (h | ⟨o, h⟩) | ⟨o, its, n, h1, h2, _⟩
  · exact .base (.tup h)
  · exact .fTuple h
  · exact .kTuple h1 h2
theorem tyD_is {I H : Hp} {m : List Addr} {c : Cs} {v : V} {d : D} {t : String} (R : Rel K I H m c) (p : Rep K I m v d) (h : tyD d c = some t) : TyX K H v (.type t) := by
  cases p with
  | non => cases h; exact .base .non
  | bl b => cases h; exact .base (.bl b)
  | int i => cases h; exact .base (.int i)
  | str s => cases h; exact .base (.str s)
  | lst q r => cases h; exact .base (.lst (R.same _ _ q))
  | ro q r => cases h; exact tyL (m := m) R.same q
  | tup q r => cases h; exact tyT (m := m) R.same q
  | dct q r => cases h; exact .base (.dK (R.same _ _ q))
  | @ref k a q =>
    have h : (match c[k]? with
      | some (.lst _) => some "list"
      | some (.dct _) => some "dict"
      | some (.frz (.lst _)) => some "list"
      | _ => none) = some t := h
    cases e : c[k]? with
    | none => rw [e] at h; cases h
    | some x =>
      rw [e] at h
      have hc := R.cell k a x q e
      cases x with
      | lst ds => cases h; obtain ⟨_, vs, h1, _⟩ := hc; exact .base (.lst h1)
      | dct ds => cases h; obtain ⟨_, vs, h1, _⟩ := hc; exact .base (.dK h1)
      | frz d =>
        cases d with
        | lst ds =>
          cases h
          obtain ⟨_, hr⟩ := hc
          cases hr with
          | lst h1 h2 => exact .base (.lst (R.same _ _ h1))
        | _ => cases h
      | _ => cases h
  | _ => cases h
/-- the classes that are asked: one, or a tuple of them -/
def clsL : List D → Option (List String)
  | [] => some []
  | .ty n :: r => match clsL r with
    | some ns => some (n :: ns)
    | none => none
  | _ :: _ => none
def isiAny (t : String) (ns : List String) : Bool := ns.any fun n => isT t n
def isiD : List D → Cs → R D
  | [x, .ty n], c => match tyD x c with
    | some t => if n ∈ tyNames then .ok (.bl (isT t n)) c else .stuck
    | none => .stuck
  | [x, .tup cs], c => match tyD x c with
    | some t => match clsL cs with
      | some ns => if (∀ n ∈ ns, n ∈ tyNames) then .ok (.bl (isiAny t ns)) c else .stuck
      | none => .stuck
    | none => .stuck
  | _, _ => .stuck
/-- .. of a tuple of classes that stands anywhere -/
def rIsiQ (K : PySem.W.Frag) : List V → Hp → VK → Prop := fun xs H Q => ∃ (x : V) (tp : Addr) (cs : List V) (t : Value) (us : List Value) (b : Bool), xs = [x, .ref tp] ∧ SqT K H tp cs ∧ Paired ClsV cs us ∧ TyX K H x t ∧ PySem.W.kitAny K t us = some b ∧ Q (.bl b) H
theorem call_isiQ {X : Cx} : CallR X (.builtin "isinstance") (rIsiQ X.K) := fun pins s σ H xs us Q I r h => by
  obtain ⟨x, tp, cs, t, ws, b, rfl, hT, k, ty, e, q⟩ := h
  obtain ⟨u1, u2, rfl, r1, r2⟩ := vals2 r
  cases (show u2 = Value.ref tp from r2)
  obtain ⟨P, Z, p, hx⟩ := kit_of I r1 ty
  obtain ⟨its, rv, ⟨o, h1, h2, n, h3⟩, _⟩ := I.tuple hT
  cases ClsV.all k rv
  obtain ⟨oc, od, dt, sl⟩ := o
  cases h2
  cases h3
  exact PySem.W.kia_tup Z I.kIn p h1 e hx fun tk => ⟨.bl b, H, I.tok tk, rfl, q⟩
def rIsiA (K : PySem.W.Frag) : List V → Hp → VK → Prop := fun xs H Q => rIsi K xs H Q ∨ rIsiQ K xs H Q
theorem call_isiA {X : Cx} : CallR X (.builtin "isinstance") (rIsiA X.K) := call_isi.or call_isiQ
theorem kitAny_tab (K : PySem.W.Frag) {t : String} (ht : t ∈ tyNames) : ∀ {ns : List String}, (∀ n ∈ ns, n ∈ tyNames) → PySem.W.kitAny K (.type t) (ns.map Value.type) = some (isiAny t ns)
  | [], _ => rfl
  | n :: ns, h => by
    have h1 := kit_tab t ht n (h n List.mem_cons_self)
    have h2 := kitAny_tab K ht (ns := ns) fun k hk => h k (List.mem_cons_of_mem _ hk)
    have e : isiAny t (n :: ns) = (isT t n || isiAny t ns) := rfl
    refine kitAny_cons (kit_ty h1) (fun hb => ?_) (fun hb => by rw [e, hb]; rfl)
    rw [h2, e, hb]
    rfl
theorem cls_paired {I : Hp} {m : List Addr} : ∀ {vs : List V} {ds : List D} {ns : List String}, Reps K I m vs ds → clsL ds = some ns → Paired ClsV vs (ns.map Value.type)
  | _, _, _, .nil, e => by cases e; exact .nil
  | _, _, _, .cons (d := d) (ds := ds) h t, e => by
    cases h with
    | ty n =>
      unfold clsL at e
      cases q : clsL ds with
      | none => rw [q] at e; cases e
      | some ks => rw [q] at e; cases e; exact .cons (.ty n) (cls_paired t q)
    | _ => simp [clsL] at e
theorem cs_isi : CallS K (rIsiA K) isiD := fun I H m c vs ds W Q R p A => by
  cases p with
  | nil => exact A.elim
  | @cons v _ d _ h t =>
    cases t with
    | nil => exact A.elim
    | @cons v2 _ d2 _ h2 t2 =>
      cases t2 with
      | cons _ _ => cases h2 <;> exact A.elim
      | nil =>
        cases h2 with
        | ty n =>
          have A2 : After (rD K) K I m H W Q (match tyD d c with
            | some t => if n ∈ tyNames then .ok (.bl (isT t n)) c else .stuck
            | none => .stuck) := A
          cases e : tyD d c with
          | none => rw [e] at A2; exact A2.elim
          | some t =>
            rw [e] at A2
            by_cases hn : n ∈ tyNames
            · have A3 : After (rD K) K I m H W Q (if n ∈ tyNames then .ok (.bl (isT t n)) c else .stuck) := A2
              rw [if_pos hn] at A3
              exact .inl ⟨v, .ty n, .type t, .type n, _, rfl, .ty n, tyD_is R h e, kit_ty (kit_tab t (tyD_mem e) n hn), A3.here R (.bl _)⟩
            · have A3 : After (rD K) K I m H W Q (if n ∈ tyNames then .ok (.bl (isT t n)) c else .stuck) := A2
              rw [if_neg hn] at A3
              exact A3.elim
        | @tup tp ws cs hs hr =>
          have A2 : After (rD K) K I m H W Q (match tyD d c with
            | some t => match clsL cs with
              | some ns => if (∀ n ∈ ns, n ∈ tyNames) then .ok (.bl (isiAny t ns)) c else .stuck
              | none => .stuck
            | none => .stuck) := A
          cases e : tyD d c with
          | none => rw [e] at A2; exact A2.elim
          | some t =>
            rw [e] at A2
            cases e2 : clsL cs with
            | none =>
              have A3 : After (rD K) K I m H W Q (match clsL cs with
                | some ns => if (∀ n ∈ ns, n ∈ tyNames) then .ok (.bl (isiAny t ns)) c else .stuck
                | none => .stuck) := A2
              rw [e2] at A3
              exact A3.elim
            | some ns =>
              have A3 : After (rD K) K I m H W Q (match clsL cs with
                | some ns => if (∀ n ∈ ns, n ∈ tyNames) then .ok (.bl (isiAny t ns)) c else .stuck
                | none => .stuck) := A2
              rw [e2] at A3
              by_cases hn : ∀ n ∈ ns, n ∈ tyNames
              · have A4 : After (rD K) K I m H W Q (if (∀ n ∈ ns, n ∈ tyNames) then .ok (.bl (isiAny t ns)) c else .stuck) := A3
                rw [if_pos hn] at A4
                have hq := A4.here R (Rep.bl _)
                exact .inr ⟨v, tp, ws, .type t, ns.map Value.type, _, rfl, sqT_same R.same hs, cls_paired hr e2, tyD_is R h e, kitAny_tab K (tyD_mem e) hn, hq⟩
              · have A4 : After (rD K) K I m H W Q (if (∀ n ∈ ns, n ∈ tyNames) then .ok (.bl (isiAny t ns)) c else .stuck) := A3
                rw [if_neg hn] at A4
                exact A4.elim
        | _ => exact A.elim
end
end L2.Mi

namespace L2.Mi
open PySem PySem.Spec PyProof.Rows L2

section
variable {K : PySem.W.Frag}
theorem one_arg {I H : Hp} {m : List Addr} {c : Cs} {W : XK} {Q : VK} {vs : List V} {ds : List D} {G : List D → Cs → R D} (g : D → Cs → R D) (h0 : ∀ c, G [] c = .stuck) (h1 : ∀ x c, G [x] c = g x c) (h2 : ∀ x y r c, G (x :: y :: r) c = .stuck)
    (p : Reps K I m vs ds) (A : After (rD K) K I m H W Q (G ds c)) : ∃ v d, vs = [v] ∧ ds = [d] ∧ Rep K I m v d ∧ After (rD K) K I m H W Q (g d c) := by
  cases p with
  | nil => rw [h0] at A; exact A.elim
  | cons h t =>
    cases t with
    | nil => rw [h1] at A; exact ⟨_, _, rfl, rfl, h, A⟩
    | cons h' t' => rw [h2] at A; exact A.elim
def on1 (g : D → Cs → R D) : List D → Cs → R D
  | [x], c => g x c
  | _, _ => .stuck
theorem on1_arg {I H : Hp} {m : List Addr} {c : Cs} {W : XK} {Q : VK} {vs : List V} {ds : List D} {g : D → Cs → R D} (p : Reps K I m vs ds) (A : After (rD K) K I m H W Q (on1 g ds c)) : ∃ v d, vs = [v] ∧ ds = [d] ∧ Rep K I m v d ∧ After (rD K) K I m H W Q (g d c) :=
  one_arg g (fun _ => rfl) (fun _ _ => rfl) (fun _ _ _ _ => rfl) p A

/-! ### repr -/
/-! ### all, any of a list of bools -/
def blsOf : List D → Option (List Bool)
  | [] => some []
  | .bl b :: r => match blsOf r with
    | some bs => some (b :: bs)
    | none => none
  | _ :: _ => none
theorem bls_reps {I : Hp} {m : List Addr} : ∀ {vs : List V} {ds : List D} {bs : List Bool}, Reps K I m vs ds → blsOf ds = some bs → vs = bs.map V.bl
  | _, _, _, .nil, e => by cases e; rfl
  | _, _, _, .cons (d := d) (ds := ds) h t, e => by
    cases h with
    | bl b =>
      unfold blsOf at e
      cases q : blsOf ds with
      | none => rw [q] at e; cases e
      | some ks => rw [q] at e; cases e; rw [bls_reps t q]; rfl
    | _ => simp [blsOf] at e
def allP (f : List Bool → Bool) (d : D) (c : Cs) : R D := match d with
  | .lst ds => match blsOf ds with
    | some bs => .ok (.bl (f bs)) c
    | none => .stuck
  | _ => .stuck
def allD : List D → Cs → R D := on1 (allP fun bs => bs.all id)
theorem all_read {I H : Hp} {m : List Addr} {c : Cs} {W : XK} {Q : VK} {vs : List V} {ds : List D} {f : List Bool → Bool} (R : Rel K I H m c) (p : Reps K I m vs ds) (A : After (rD K) K I m H W Q (on1 (allP f) ds c)) : ∃ (a : Addr) (bs : List Bool), vs = [V.ref a] ∧ SqL K H a (bs.map V.bl) ∧ Q (.bl (f bs)) H := by
  obtain ⟨v, d, rfl, rfl, p, A⟩ := on1_arg p A
  cases p with
  | @lst a ws es h r =>
    have A2 : After (rD K) K I m H W Q (match blsOf es with
      | some bs => .ok (.bl (f bs)) c
      | none => .stuck) := A
    cases q : blsOf es with
    | none => rw [q] at A2; exact A2.elim
    | some bs =>
      rw [q] at A2
      exact ⟨a, bs, rfl, by rw [← bls_reps r q]; exact SqL.of (R.same _ _ h), A2.here R (.bl _)⟩
  | _ => exact A.elim
theorem cs_all : CallS K (rAll K) allD := fun I H m c vs ds W Q R p A => all_read R p A
/-! ### methods of texts: of none, of one argument -/
/-- a text's method of one argument: what is asked of the values -/
def M1S (K : PySem.W.Frag) (r : V → List V → Hp → VK → Prop) (g : D → D → Cs → R D) : Prop := ∀ (I H : Hp) (m : List Addr) (c : Cs) (v1 v2 : V) (d1 d2 : D) (W : XK) (Q : VK),
  Rel K I H m c → Rep K I m v1 d1 → Rep K I m v2 d2 → After (rD K) K I m H W Q (g d1 d2 c) → r v1 [v2] H Q
/-- the receiver is looked at first: it must be a text -/
def mM1 (g : D → D → Cs → R D) (a b : ME) : ME := fun l c => (a l c).bind fun x c1 => match x with
  | .str s => (b l c1).bind fun y c2 => g (.str s) y c2
  | _ => .stuck
theorem m1_read {W : WX} {fa fb : ME} {r : V → List V → Hp → VK → Prop} {g : D → D → Cs → R D} {σ : St} {H : Hp} {Q : VK} (hs : M1S K r g) (h : rdE K W (mM1 g fa fb) σ H Q) : tM1 r (rdE K W fa) (rdE K W fb) σ H Q := by
  obtain ⟨I, m, l, c, R, L, A⟩ := h
  refine ⟨I, m, l, c, R, L, After.mono (After.bind (rep := rD K) A) fun v1 H1 ⟨I1, m1, c1, d1, E1, R1, p1, A1⟩ => ?_⟩
  cases p1 with
  | str s =>
    refine ⟨⟨s, rfl⟩, I1, m1, l, c1, R1, L.ext E1, After.mono (After.bind (rep := rD K) (show After (rD K) K I1 m1 H1 (fun cls dd H' => W cls dd σ H') Q ((fb l c1).bind fun y c2 => g (.str s) y c2) from A1)) fun v2 H2 ⟨I2, m2, c2, d2, E2, R2, p2, A2⟩ => ?_⟩
    exact hs _ _ _ _ _ _ _ _ _ _ R2 (Rep.str s) p2 A2
  | _ => exact A1.elim
theorem me_m1 {X : Cx} {W : WX} {e : Expr} {fa fb : ME} {r : V → List V → Hp → VK → Prop} {g : D → D → Cs → R D} (h : PE X e (tM1 r (rdE X.K W fa) (rdE X.K W fb))) (hs : M1S X.K r g) : PE X e (rdE X.K W (mM1 g fa fb)) := PEi h fun _ _ _ q => m1_read hs q
end

/-! ### own defs -/
/-- the def at f does what g says -/
structure GFn (P : Program) (w : World) (K : PySem.W.Frag) (mg : Str → Option Value) (base : Heap) (k : Nat) (f : Addr) (fd : FuncData) (ps : List Str) (g : List D → Cs → R D) : Prop where
  len : ∀ ds c, g ds c ≠ .stuck → ds.length = ps.length
  run : ∀ (A : Around) (outer : List Env) (s : Shared) (H : Hp) (args : Args) (us : List Value) (vs : List V) (Q : VK) (E : XK) (I : Hp) (m : List Addr) (c : Cs) (ds : List D), Room k A → A.guards = some [] → Env0 P w K mg base A outer s H →
    BindsTo s fd args (ps.zip us) → Vals vs us → Rel K I H m c → Reps K I m vs ds → After (rD K) K I m H E Q (g ds c) → codeAny (model P w) A (.call (.ref f) args) (CR (CX P w) outer P w H s Q E) s
theorem GFn.mono {P : Program} {w : World} {K : PySem.W.Frag} {mg : Str → Option Value} {base : Heap} {j k : Nat} {f : Addr} {fd : FuncData} {ps : List Str} {g : List D → Cs → R D} (F : GFn P w K mg base j f fd ps g) (h : j ≤ k) : GFn P w K mg base k f fd ps g :=
  ⟨F.len, fun A outer s H args us vs Q E I m c ds hr => F.run A outer s H args us vs Q E I m c ds (hr.mono h)⟩
/-- a body, run from the arguments: n names, a of them parameters -/
def mFun (n a : Nat) (b : MS) : List D → Cs → R D := fun ds c => if ds.length = a then (match b (ds.map some ++ List.replicate (n - a) none) c with
  | .go (.rt d) c' => .ok d c'
  | .go (.nx _) c' => .ok .non c'
  | .exc x _ c' => .exc x c'
  | _ => .stuck) else .stuck
theorem after_nonstuck {α β : Type} {rep : Hp → List Addr → β → α → Prop} {K : PySem.W.Frag} {I H : Hp} {m : List Addr} {W : XK} {Q : β → Hp → Prop} {r : R α} (a : After rep K I m H W Q r) : r ≠ .stuck := fun e => by
  rw [e] at a
  exact a
theorem locs_start {K : PySem.W.Frag} {I : Hp} {m : List Addr} {N : List Str} : ∀ {vs : List V} {ds : List D}, Reps K I m vs ds → Locs K I m (start N vs) (ds.map some ++ List.replicate (N.length - ds.length) none) := fun {vs ds} r => by
  refine ⟨by unfold start; simp [r.length], fun i d h => ?_⟩
  by_cases hi : i < ds.length
  · rw [List.getElem?_append_left (by simpa using hi), List.getElem?_map] at h
    cases q : ds[i]? with
    | none => rw [q] at h; cases h
    | some e =>
      rw [q] at h
      cases h
      obtain ⟨v, h1, h2⟩ := r.get q
      refine ⟨v, ?_, h2⟩
      unfold start
      rw [List.getElem?_append_left (by rw [List.length_map, r.length]; exact hi), List.getElem?_map, h1]
      rfl
  · rw [List.getElem?_append_right (by simpa using hi), List.getElem?_replicate] at h
    split at h <;> cases h
/-- THE RULE: a def by its body -/
theorem gfn_ofE {P : Program} {w : World} {K : PySem.W.Frag} {mg : Str → Option Value} {base : Heap} {k : Nat} {x qual : Str} {st : Stmt} {f : Addr} {fd : FuncData} {N ps : List Str} {b : MS} (F : Fun K x qual st f fd) (S : FnScope N ps (defScope st))
    (hb : ∀ (cdv : Value), fd.code = cdv → ∀ (A : Around) (outer : List Env) (s : Shared) (H : Hp) (E : XK), Room k (A.deeper (envOfC qual (defScope st) s.heap.objs.size f cdv)) → A.guards = some [] →
      PSs (cxOf (CX P w) P w K mg base N qual (defScope st) f cdv A outer s H E) (defBody st) (rdS K (fun cls d _ H' => E cls d H') b)) : GFn P w K mg base (k + 1) f fd ps (mFun N.length ps.length b) := by
  obtain ⟨oc, od, kV, doc, pm, an, cdv, ct, osl, rfl, lk, hcd⟩ := F.ex
  have len : ∀ ds c, mFun N.length ps.length b ds c ≠ .stuck → ds.length = ps.length := fun ds c h => by
    by_cases hl : ds.length = ps.length
    · exact hl
    · exact absurd (show mFun N.length ps.length b ds c = .stuck from if_neg hl) h
  refine ⟨len, fun A outer s H args us vs Q E I m c ds hr hg e0 hbd rv R p a => ?_⟩
  have hl := len ds c (after_nonstuck a)
  have hlv : vs.length = ps.length := p.length.trans hl
  have KX : K.In s.heap := e0.mod.kin.keeps fun b o e => (e0.bs b o e).1
  have lim : s.heap.NoLimit := e0.mod.nolimit.keeps fun b o e => (e0.bs b o e).1
  have hkind : ∀ y ∈ ps.zip us, (defScope st).names.lookup y.1 = some .local ∨ ((defScope st).names.lookup y.1 = some .cell ∧ ((cellsFrom (s.heap.objs.size + 1) (defScope st).names []).lookup y.1).isSome = true) := fun ⟨n, v⟩ hy => by
    rcases S.par n (List.of_mem_zip hy).1 with q | q
    · exact Or.inl q
    · exact Or.inr ⟨q, PySem.W.cellsFrom_some _ _ _ (Or.inl q)⟩
  refine codeAny_call_function hr.depth (KX _ _ lk) rfl S.co S.gen rfl (PySem.W.codeRec_of KX hcd) (hbd _ _ _ _ ?_)
  refine wpAny_newFunctionEnv_cells S.kind hkind fun env he s1 y => ?_
  subst he
  refine ⟨lim.keeps y.toInCall.keep, codeAny_func ?_⟩
  have J := inv_start (CX := CX P w) (E := E) (cd := cdv) (qual := qual) (f := f) S hr.hd e0 hlv rv y
  have a2 : After (rD K) K I m H E Q (match b (ds.map some ++ List.replicate (N.length - ps.length) none) c with
    | .go (.rt d) c' => .ok d c'
    | .go (.nx _) c' => .ok .non c'
    | .exc x _ c' => .exc x c'
    | _ => .stuck) := by
    have e : mFun N.length ps.length b ds c = _ := if_pos hl
    rw [e] at a
    exact a
  have hst : rdS K (fun cls d _ H' => E cls d H') b { nx := fun _ H' => Q .non H', rt := Q } (start N vs) H := by
    refine ⟨I, m, ds.map some ++ List.replicate (N.length - ps.length) none, c, R, by rw [← hl]; exact locs_start p, ?_⟩
    cases q : b (ds.map some ++ List.replicate (N.length - ps.length) none) c with
    | stuck => rw [q] at a2; exact a2.elim
    | exc x l' c' => rw [q] at a2; exact fun I' m' H' σ' cls dd e' r' _ px => a2 I' m' H' cls dd e' r' px
    | go fl c' =>
      rw [q] at a2
      cases fl with
      | nx l' => exact fun I' m' H' σ' e' r' _ => a2 I' m' H' .non e' r' Rep.non
      | rt d => exact fun I' m' H' v e' r' pv => a2 I' m' H' v e' r' pv
      | bk l' => exact a2.elim
      | ct l' => exact a2.elim
  refine wpAny_mono ((hb cdv rfl A outer s H E (hr.deeper _) hg).run [] s1 (start N vs) H _ J hst) (fun fl s' hs => ?_) fun e s' hs => hs
  have fin : ∀ {σ' : St} {H' : Hp} {v : V} {u : Value}, Inv (cxOf (CX P w) P w K mg base N qual (defScope st) f cdv A outer s H E) [] σ' H' s' → RelV v u → Q v H' → CE outer P w H s Q u s' :=
    fun {σ' H' v u} Z rv q => ⟨v, H', Z.os, Z.bare, Z.base, Z.hok, rv, q⟩
  cases fl with
  | ret u =>
    obtain ⟨v, σ', H', Z, rv, q⟩ := hs
    exact fin Z rv q
  | next =>
    obtain ⟨σ', H', Z, q⟩ := hs
    exact fin (v := V.non) (u := Value.none) Z rfl q
  | brk =>
    obtain ⟨_, _, _, q⟩ := hs
    exact False.elim q
  | cont =>
    obtain ⟨_, _, _, q⟩ := hs
    exact False.elim q
/-- THE RULE: a def by its body -/
theorem gfn_of {P : Program} {w : World} {K : PySem.W.Frag} {mg : Str → Option Value} {base : Heap} {k : Nat} {x qual : Str} {st : Stmt} {f : Addr} {fd : FuncData} {N ps : List Str} {b : MS} (F : Fun K x qual st f fd) (S : FnScope N ps (defScope st))
    (hb : ∀ (cdv : Value) (A : Around) (outer : List Env) (s : Shared) (H : Hp) (E : XK), Room k (A.deeper (envOfC qual (defScope st) s.heap.objs.size f cdv)) → A.guards = some [] →
      PSs (cxOf (CX P w) P w K mg base N qual (defScope st) f cdv A outer s H E) (defBody st) (rdS K (fun cls d _ H' => E cls d H') b)) : GFn P w K mg base (k + 1) f fd ps (mFun N.length ps.length b) := gfn_ofE F S fun cdv _ => hb cdv
section
variable {X : Cx} {W : WX} {k : Nat} {f : Addr} {fd : FuncData} {ps : List Str} {g : List D → Cs → R D} {x : Str} {p pos : Pos} {e : Expr} {es : List Expr} {ga : MA}
/-- the callee runs, from a body -/
theorem run_g {pins : List (Addr × Obj)} {σ : St} {H : Hp} {s : Shared} {Q : VK} {us : List Value} {vs : List V} {I : Hp} {m : List Addr} {c : Cs} {ds : List D} (F : GFn X.prog X.w X.K X.mg X.base k f fd ps g) (hr : Room k X.A) (hgd : X.A.guards = some []) (hb : Binds X.K fd ps []) (tk : Takes X W)
    (J : Inv X pins σ H s) (r : Vals vs us) (R : Rel X.K I H m c) (p : Reps X.K I m vs ds) (a : After (rD X.K) X.K I m H (fun cls d H' => W cls d σ H') Q (g ds c)) : wpAny (model X.prog X.w) X.A (call (.ref f) us) (EP X pins σ Q) X.xe s := by
  have hl : us.length = ps.length := by rw [← r.length, p.length]; exact F.len ds c (after_nonstuck a)
  have hb2 : BindsTo s fd ⟨us, []⟩ (ps.zip us) := by
    have z := hb s us J.kIn (by rw [List.append_nil]; exact hl)
    rw [List.append_nil] at z
    exact z
  refine wpAny_call (codeAny_mono (F.run X.A X.stack s H ⟨us, []⟩ us vs Q (fun cls d H' => W cls d σ H') I m c ds hr hgd J.env0 hb2 r R p a) fun res s' hq => ?_)
  cases res with
  | error e => exact tk e s' (XE.of_call J (fun _ _ _ h => h) hq)
  | ok fl =>
    cases fl with
    | ret u => exact J.after hq
    | next => exact False.elim hq
    | brk => exact False.elim hq
    | cont => exact False.elim hq
theorem me_call (F : GFn X.prog X.w X.K X.mg X.base k f fd ps g) (hr : Room k X.A) (hgd : X.A.guards = some []) (hg : Gl X x) (hm : X.mg x = some (.ref f)) (hk : PySem.W.keepIn X.K (.ref f) = true) (hb : Binds X.K fd ps []) (tk : Takes X W)
    (ha : PA X (e :: es) (rdA X.K W ga)) (hdb : (x == ("__debug__" : Str)) = false := by decide) (he : starEach (e :: es) X.env = (false, eval e X.env) :: starEach es X.env := by rfl) (hpl : (backTo pos (starEach es X.env)).any (·.1) = false := by rfl) :
    PE X (.Call (.Name x p) (e :: es) [] pos) (rdE X.K W (mCB g ga)) := by
  refine ⟨fun pins s σ H Q J ⟨I, m, l, c, R, L, A⟩ => ?_⟩
  refine wpAny_Call_Name_kw (ld_glob J hg hm ?_ hdb)
  refine PySem.W.callWith_K (h₀ := X.base) J.ok.mod.kin hk (thn (ha.run pos pins s σ H _ J ⟨I, m, l, c, R, L, After.bind (rep := rA X.K) A⟩) fun us s1 ⟨vs, H1, J1, r, I1, m1, c1, ds, E1, R1, p1, A1⟩ => ⟨J1.kIn, ?_⟩) he hpl
  exact run_g F hr hgd hb tk J1 r R1 p1 A1
end

/-! ### the law's end -/
theorem tabs_all {q : Nat} (h : q ∈ tabsL) : q ∈ tabsA := by
  obtain ⟨p, hp, e⟩ := List.mem_map.mp h
  exact List.mem_map.mpr ⟨p, List.mem_append_left _ hp, e⟩
theorem lams_all {p : Nat × Nat × PySem.Str} (h : p ∈ lamL) : p.2.1 ∈ tabsA := List.mem_map.mpr ⟨(p.1, p.2.1), List.mem_append_right _ (List.mem_map.mpr ⟨p, h, rfl⟩), rfl⟩
theorem law_callG {P : Program} {w : World} {K : PySem.W.Frag} {mg mb : Str → Option Value} {k : Nat} {fa a : Addr} {fd : FuncData} {x : Str} {g : List D → Cs → R D} {s₁ : Shared} {vs : List Value} {ns : List Int}
    (KX : K.In s₁.heap) (hns : s₁.heap.Ns mainGlobals mg) (hb : s₁.heap.Ns builtinsNs mb) (hbb : ∀ x : Str, x ≠ "__name__" → mb x = bootBuiltins x) (hlim : s₁.heap.NoLimit) (hgen : s₁.gens = #[])
    (tE : ∀ p ∈ allL, s₁.heap.get? p.2 = some (PySem.W.tabObj #[])) (tK : ∀ p ∈ allL, K.lookup p.2 = none) (tC : ∀ p ∈ allL, PySem.W.CodeHd s₁.heap p.1 p.2)
    (hbm : ∃ (bm : Addr) (ob : Obj), mg "__builtins__" = some (.ref bm) ∧ bm ≠ builtinsNs ∧ s₁.heap.get? bm = some ob ∧ ob.cls = .type "module" ∧ ob.dict = some builtinsNs ∧ ob.data = .plain)
    (ha : s₁.heap.get? a = some { cls := .type "list", data := .seq vs.toArray }) (hi : IntsAre vs ns) (hl : ns.length ≤ sizeLine) (hr : Room k callerA)
    (F : ∀ base : Heap, K.In base → base.Ns mainGlobals mg → (∀ p ∈ allL, GxR.TabB base mg p.1 p.2) → GFn P w K mg base k fa fd [x] g) (hbind : ∀ (s : Shared) (u : Value), BindsTo s fd ⟨[u], []⟩ [(x, u)])
    (hsp : ∀ H : Hp, (∀ q ∈ tabsA, H q = some (.tbl #[])) → SqL K H a (ns.map V.int) → ∃ (I : Hp) (m : List Addr) (c : Cs) (ds : List D), Rel K I H m c ∧ Reps K I m [.ref a] ds ∧ After (rD K) K I m H (fun _ _ _ => False) (fun v _ => v = .bl true) (g ds c)) :
    codeAny (model P w) callerA (.call (.ref fa) ⟨[.ref a], []⟩) (fun r s' => r = .ok (.ret (.bool true)) ∧ OldK s₁.heap s'.heap ∧ s'.os = s₁.os ∧ AllBare s'.gens) s₁ := by
  have rv := vals_ints hi
  have mT : ∀ q ∈ tabsA, ∃ p ∈ allL, p.2 = q := fun q hq => by
    obtain ⟨p, hp, e⟩ := List.mem_map.mp hq
    exact ⟨p, hp, e⟩
  have tT : ∀ q ∈ tabsA, s₁.heap.get? q = some (PySem.W.tabObj #[]) := fun q hq => by
    obtain ⟨p, hp, rfl⟩ := mT q hq
    exact tE p hp
  have naT : a ∉ tabsA := fun z => by
    have q := tT a z
    rw [ha] at q
    exact absurd (congrArg Obj.data (Option.some.inj q)) (by intro z; cases z)
  have core : ∀ H : Hp, (∀ b o, H b = some o → (b = a ∧ ∃ ob xs, o = .frz ob (.lst xs)) ∨ (b ∈ tabsA ∧ o = .tbl #[])) → (∀ q ∈ tabsA, H q = some (.tbl #[])) → SqL K H a (ns.map V.int) → HOk P w H s₁.heap → (H a ≠ none → K.lookup a = none) →
      codeAny (model P w) callerA (.call (.ref fa) ⟨[.ref a], []⟩) (fun r s' => r = .ok (.ret (.bool true)) ∧ OldK s₁.heap s'.heap ∧ s'.os = s₁.os ∧ AllBare s'.gens) s₁ := fun H hO hQ hS hok hK => by
    have free_ : ∀ {b : Addr} {o : Obj}, s₁.heap.get? b = some o → (∀ vs n, o.data ≠ .seq vs n) → o.data ≠ .fields #[] → H b = none := fun {b o} e h1 h2 => by
      cases q : H b with
      | none => rfl
      | some u =>
        rcases hO b u q with ⟨rfl, _⟩ | ⟨z, _⟩
        · rw [ha] at e
          cases e
          exact absurd rfl (h1 _ _)
        · rw [tT b z] at e
          cases e
          exact absurd rfl h2
    have dictFree : ∀ {b : Addr} {o : Obj} {es : Array DictEntry} {ep : Nat}, s₁.heap.get? b = some o → o.data = .dict es ep → H b = none := fun {b o es ep} e d => free_ e (fun vs n z => by rw [d] at z; cases z) (fun z => by rw [d] at z; cases z)
    have toBase : ∀ {b : Addr} {m : Str → Option Value}, s₁.heap.Ns b m → (hidT s₁.heap H).Ns b m := fun {b m} ⟨o, es, ep, e, d, r⟩ => ⟨o, es, ep, hidT_get e (dictFree e d), d, r⟩
    have inB : K.In (hidT s₁.heap H) := fun b o e => hidT_get (KX b o e) (by
      cases q : H b with
      | none => rfl
      | some u =>
        rcases hO b u q with ⟨rfl, _⟩ | ⟨z, _⟩
        · rw [hK (by rw [q]; exact nofun)] at e
          cases e
        · obtain ⟨p, hp, rfl⟩ := mT b z
          rw [tK p hp] at e
          cases e)
    have md : Mod K mg (hidT s₁.heap H) := ⟨inB, toBase hns, ⟨mb, toBase hb, hbb⟩, hlim.imp fun _ h => ⟨toBase h.1, h.2⟩⟩
    have noFr : ∀ b ∈ frs [], H b = none := fun b z => absurd (show b ∈ ([] : List Addr) from z) List.not_mem_nil
    have e0 : Env0 P w K mg (hidT s₁.heap H) callerA [] s₁ H := ⟨rfl, md, fun b o e => of_hidT e, Nat.le_of_eq (hidT_size _ _), trivial, noFr, hok, .of_eq hgen⟩
    have tb : ∀ p ∈ allL, GxR.TabB (hidT s₁.heap H) mg p.1 p.2 := fun p hp => by
      have e2 := tE p hp
      refine ⟨?_, ?_, ?_⟩
      · obtain ⟨o, us, file, tf, fl, tg, inF, text, tt, f1, f2, f3, f4, more⟩ := tC p hp
        refine ⟨o, us, file, tf, fl, tg, inF, text, tt, hidT_get f1 (free_ f1 (fun vs n z => by rw [f3] at z; cases z) fun z => ?_), f2, f3, f4, more⟩
        rw [f3] at z
        cases z
        exact absurd f4 (by simp)
      · obtain ⟨bm, ob, b1, b2, b3, b4, b5, b6⟩ := hbm
        have n1 : bm ≠ mainGlobals := fun q => by
          obtain ⟨o, es, ep, e, hd, _⟩ := hns
          rw [q, e] at b3
          rw [Option.some.inj b3, b6] at hd
          cases hd
        have n2 : bm ≠ p.2 := fun q => by
          rw [q, e2] at b3
          rw [← Option.some.inj b3] at b6
          cases b6
        exact ⟨bm, ob, b1, b2, n1, n2, hidT_get b3 (free_ b3 (fun vs n z => by rw [b6] at z; cases z) fun z => by rw [b6] at z; cases z), b4, b5, b6⟩
      · intro z
        obtain ⟨o, es, ep, e, hd, _⟩ := hns
        rw [z, e2] at e
        rw [← Option.some.inj e] at hd
        cases hd
    obtain ⟨I, m, c, ds, R, p, A⟩ := hsp H hQ hS
    refine codeAny_mono ((F _ inB (toBase hns) tb).run callerA [] s₁ H ⟨[.ref a], []⟩ [.ref a] [.ref a] (fun v _ => v = .bl true) (fun _ _ _ => False) I m c ds hr rfl e0 (hbind s₁ (.ref a)) (.cons rfl .nil) R p A) fun r s' h => ?_
    cases r with
    | error e =>
      obtain ⟨_, _, _, _, _, _, _, _, _, _, _, _, z⟩ := h
      exact z.elim
    | ok fl =>
      cases fl with
      | next => exact False.elim h
      | brk => exact False.elim h
      | cont => exact False.elim h
      | ret u =>
        obtain ⟨v, H', os, bare, un, hok', r', rfl⟩ := h
        obtain rfl : u = Value.bool true := r'
        have old : ∀ b o, b ∉ tabsA → s₁.heap.get? b = some o → s'.heap.get? b = some o := fun b o nb e => by
          cases q : H b with
          | none => exact un.keep b o e q (fun z => absurd (show b ∈ ([] : List Addr) from z) List.not_mem_nil) List.not_mem_nil
          | some u =>
            rcases hO b u q with ⟨_, ob, xs, rfl⟩ | ⟨z, _⟩
            · have z1 := (hok b _ q).1
              have z2 := (hok' b _ (un.frzs b ob _ q)).1
              rw [z1] at e
              cases e
              exact z2
            · exact absurd z nb
        have grew : ∀ q ∈ tabsA, ∃ more : Array Value, s'.heap.get? q = some (PySem.W.tabObj more) := fun q hq => by
          obtain ⟨more, z⟩ := un.tbls q #[] (hQ q hq)
          exact ⟨_, hok' q _ z⟩
        refine ⟨rfl, ⟨fun b o e => ?_, fun b o e => ?_⟩, os, bare⟩
        · by_cases hbT : b ∈ tabsA
          · obtain ⟨p, hp, rfl⟩ := mT b hbT
            obtain ⟨more, hm⟩ := grew _ hbT
            have e2 := tE p hp
            rw [e2] at e
            have e3 := (Option.some.inj e).symm
            subst e3
            exact .inr (.inl ⟨((tC p hp).tab e2).isCodeTable, rfl, #[], more, rfl, by rw [Array.empty_append]; exact hm⟩)
          · exact .inl (old b o hbT e)
        · by_cases hbT : b ∈ tabsA
          · obtain ⟨more, hm⟩ := grew b hbT
            exact ⟨_, hm⟩
          · exact ⟨o, old b o hbT e⟩
  cases hk : K.lookup a with
  | some o =>
    have e := KX a o hk
    rw [ha] at e
    cases e
    have only : ∀ (b : Addr) (o : HO), (if b ∈ tabsA then some (HO.tbl #[]) else none) = some o → b ∈ tabsA ∧ o = .tbl #[] := fun b o e => by
      by_cases hbT : b ∈ tabsA
      · rw [if_pos hbT] at e
        exact ⟨hbT, (Option.some.inj e).symm⟩
      · rw [if_neg hbT] at e
        cases e
    refine core (fun b => if b ∈ tabsA then some (.tbl #[]) else none) (fun b o e => .inr (only b o e)) (fun q hq => if_pos hq) (Or.inr ⟨_, vs.toArray, _, hk, rfl, rfl, rfl, by rw [List.size_toArray, hi.length]; exact hl, rv⟩) (fun b u z => ?_) fun z => absurd (if_neg naT) z
    obtain ⟨hbT, rfl⟩ := only b u z
    exact tT b hbT
  | none =>
    have only : ∀ (b : Addr) (o : HO), (if b ∈ tabsA then some (HO.tbl #[]) else if b = a then some (HO.frz { cls := .type "list", data := .seq vs.toArray } (.lst (ns.map V.int))) else none) = some o → (b = a ∧ o = .frz { cls := .type "list", data := .seq vs.toArray } (.lst (ns.map V.int))) ∨ (b ∈ tabsA ∧ o = .tbl #[]) := fun b o e => by
      by_cases hbT : b ∈ tabsA
      · rw [if_pos hbT] at e
        exact .inr ⟨hbT, (Option.some.inj e).symm⟩
      · rw [if_neg hbT] at e
        by_cases hb : b = a
        · rw [if_pos hb] at e
          exact .inl ⟨hb, (Option.some.inj e).symm⟩
        · rw [if_neg hb] at e
          cases e
    refine core (fun b => if b ∈ tabsA then some (.tbl #[]) else if b = a then some (.frz { cls := .type "list", data := .seq vs.toArray } (.lst (ns.map V.int))) else none) (fun b o e => (only b o e).imp_left fun z => ⟨z.1, _, _, z.2⟩) (fun q hq => if_pos hq) (Or.inl (Or.inr ⟨_, (if_neg naT).trans (if_pos rfl)⟩)) (fun b o e => ?_) fun _ => hk
    rcases only b o e with ⟨rfl, rfl⟩ | ⟨hbT, rfl⟩
    · exact ⟨ha, by rw [List.length_map]; exact hl, vs, _, rv, ha⟩
    · exact tT b hbT
theorem law_g {l : PySem.W.OpenLaw} {n k : Nat} {q : Program} {loose : List Str} {XP : (Str → Option Value) → Heap → Prop} {YP : World → Heap → Prop} {d : DefRec} {K : Params → PySem.W.Frag} {x : Str} {g : World → List D → Cs → R D}
    (hn : l.most = some n) (hn2 : n ≤ sizeLine) (hdf : d.params.defaults = []) (hr : Room k callerA) (hY : ∀ (w : World) (h : Heap), YP w h → (K w.params).In h)
    (hT : ∀ (w : World) (h : Heap), YP w h → (∀ p ∈ allL, h.get? p.2 = some (PySem.W.tabObj #[])) ∧ (∀ p ∈ allL, (K w.params).lookup p.2 = none) ∧ ∀ p ∈ allL, PySem.W.CodeHd h p.1 p.2)
    (F : ∀ (w : World) (mg : Str → Option Value) (fa : Addr) (h : Heap), (K w.params).In h → h.Ns mainGlobals mg → mg d.name = some (.ref fa) →
      ∃ fd : FuncData, (∀ (s : Shared) (u : Value), BindsTo s fd ⟨[u], []⟩ [(x, u)]) ∧ ∀ base : Heap, (K w.params).In base → base.Ns mainGlobals mg → (∀ p ∈ allL, GxR.TabB base mg p.1 p.2) → GFn l.prog w (K w.params) mg base k fa fd [x] (g w))
    (hg : ∀ (pm : World) (ns : List Int), ns.length ≤ n → ∃ c, g pm [.ro (ns.map D.int)] [] = .ok (.bl true) c) :
    PySem.W.WalkO q loose XP YP l.row.toRowW d [] (fun f vs => PySem.call f vs) := by
  refine Att.attach_call hn hdf fun w s₀ s₁ mg mb fa o pm cd doc a vs ns G Y ho hd hcd hmg hobj hints hlen hgen => ?_
  have KX := hY w _ Y
  obtain ⟨t1, t2, t3⟩ := hT w _ Y
  obtain ⟨fd, hb, hF⟩ := F w mg fa _ KX G.T.g hmg
  have reps : ∀ (H : Hp) (ns : List Int), Reps (K w.params) H [] (ns.map V.int) (ns.map D.int) := fun H ns => by
    induction ns with
    | nil => exact .nil
    | cons z zs ih => exact .cons (.int z) ih
  obtain ⟨c, ec⟩ := hg w ns hlen
  refine law_callG KX G.T.g G.T.b G.T.builtins G.T.nolimit hgen t1 t2 t3 G.T.bmain hobj hints (Nat.le_trans hlen hn2) hr hF hb fun H hQ hS => ?_
  have hI : ∀ (b : Addr) (o : HO), (if b ∈ tabsA then none else H b) = some o → b ∉ tabsA ∧ H b = some o := fun b o e => by
    by_cases hbT : b ∈ tabsA
    · rw [if_pos hbT] at e; cases e
    · rw [if_neg hbT] at e; exact ⟨hbT, e⟩
  have hS2 : SqL (K w.params) (fun b => if b ∈ tabsA then none else H b) a (ns.map V.int) := by
    have go : ∀ o, H a = some o → (∀ ps, o ≠ .tbl ps) → (if a ∈ tabsA then none else H a) = some o := fun o e n => by
      rw [if_neg (fun z => n #[] (by have := hQ a z; rw [e] at this; exact Option.some.inj this))]
      exact e
    rcases hS with (h | ⟨o, h⟩) | h
    · exact .inl (.inl (go _ h (fun _ z => nomatch z)))
    · exact .inl (.inr ⟨o, go _ h (fun _ z => nomatch z)⟩)
    · exact .inr h
  exact ⟨fun b => if b ∈ tabsA then none else H b, [], [], [.ro (ns.map D.int)], ⟨fun b o e => (hI b o e).2, rfl, fun _ _ _ h => (nomatch h), fun _ _ _ h => (nomatch h), ⟨fun q hq => ⟨⟨#[], hQ q (tabs_all hq), trivial⟩, if_pos (tabs_all hq), List.not_mem_nil⟩, fun p hp => ⟨.nil (hQ _ (lams_all hp)), if_pos (lams_all hp), List.not_mem_nil⟩⟩⟩, .cons (.ro hS2 (reps _ ns)) .nil, by rw [ec]; exact fun I' m' H' v _ _ p => by cases p; rfl⟩
end L2.Mi

namespace L2.Mi
open PySem PySem.Spec PyProof.Rows L2

section
variable {X : Cx} {W : WX} {a b c e : Expr} {es : List Expr} {pos : Pos} {fa fb fc : ME} {f g : D → D → Cs → R D} {ga : MA}
/-- a call of a built-in -/
theorem me_cb {r : List V → Hp → VK → Prop} {G : List D → Cs → R D} (h : PE X e (tCB r (rdA X.K W ga))) (hs : CallS X.K r G) : PE X e (rdE X.K W (mCB G ga)) := PEi h fun _ _ _ q => cb_read hs q
theorem mt_chain {op op' : CmpOp} {r r' : R2} (ho : OpR X (compareOp op) r) (hs : OpS X.K r f) (ho' : OpR X (compareOp op') r') (hs' : OpS X.K r' g) (ha : PE X a (rdE X.K W fa)) (hb : PE X b (rdE X.K W fb)) (hc : PE X c (rdE X.K W fc))
    (hm : lastMarks [op, op'] [b, c] = false := by with_unfolding_all rfl) : PT X (.Compare a [op, op'] [b, c] pos) (rdT X.K W (mT (mChain f g fa fb fc))) := PTi (pt_chain ho ho' ha hb hc hm) fun σ H Q ⟨I, m, l, c, R, L, A0⟩ => by
  have A : After (rD X.K) X.K I m H (fun cls dd H' => W cls dd σ H') (fun x H' => ∃ k, x = .bl k ∧ Q k H') (mChain f g fa fb fc l c) := After.mono (After.bind (rep := rD X.K) A0) fun v1 H1 ⟨I1, m1, c1, d1, E1, R1, p1, A1⟩ => by
    cases p1 with
    | bl k => exact ⟨k, rfl, A1.here R1 rfl⟩
    | _ => exact A1.elim
  refine ⟨I, m, l, c, R, L, After.mono (After.bind (rep := rD X.K) A) fun v1 H1 ⟨I1, m1, c1, d1, E1, R1, p1, A1⟩ => ?_⟩
  refine ⟨I1, m1, l, c1, R1, L.ext E1, After.mono (After.bind (rep := rD X.K) A1) fun v2 H2 ⟨I2, m2, c2, d2, E2, R2, p2, A2⟩ => ?_⟩
  refine hs _ _ _ _ _ _ _ _ _ _ R2 (Rep.ext p1 E2) p2 (After.mono (After.bind (rep := rD X.K) A2) fun v3 H3 ⟨I3, m3, c3, d3, E3, R3, p3, A3⟩ => ?_)
  cases p3 with
  | bl k =>
    refine ⟨k, rfl, ?_⟩
    cases k with
    | false =>
      rw [if_neg Bool.false_ne_true]
      exact A3.here R3 (Rep.bl false)
    | true =>
      rw [if_pos rfl]
      refine ⟨I3, m3, l, c3, R3, ((L.ext E1).ext E2).ext E3, After.mono (After.bind (rep := rD X.K) A3) fun v4 H4 ⟨I4, m4, c4, d4, E4, R4, p4, A4⟩ => ?_⟩
      exact hs' _ _ _ _ _ _ _ _ _ _ R4 (Rep.ext (Rep.ext p2 E3) E4) p4 A4
  | _ => exact A3.elim
/-- a display that will be changed: a cell -/
def mLstM (t : MA) : ME := fun l c => (t l c).bind fun xs c1 => fits xs.length (.ok (.ref c1.length) (c1 ++ [.lst xs]))
theorem me_lstM (h : PA X es (rdA X.K W ga)) : PE X (.List es pos) (rdE X.K W (mLstM ga)) :=
  PEi (pe_lst h) fun σ H Q ⟨I, m, l, c, R, L, A⟩ => ⟨I, m, l, c, R, L, After.mono (After.bind (rep := rA X.K) A) fun v1 H1 ⟨I1, m1, c1, d1, E1, R1, p1, A1⟩ => by
    obtain ⟨z, A2⟩ := A1.fits
    have p1 : Reps X.K I1 m1 v1 d1 := p1
    refine ⟨by rw [p1.length]; exact z, fun p np => ?_⟩
    obtain ⟨R2, E2⟩ := R1.push np p1
    refine A2 _ _ _ _ E2 R2 (Rep.ref ?_)
    rw [← R1.len, List.getElem?_append_right (Nat.le_refl _), Nat.sub_self]
    rfl⟩
/-- a local list's cell, whose list does not change from here on -/
def frzD (d : D) (c : Cs) : R D := match d with
  | .ref k => match c[k]? with
    | some (.lst ds) => .ok (.lst ds) (c.set k (.frz (.lst ds)))
    | _ => .stuck
  | _ => .stuck
def mFrz (a : ME) : ME := fun l c => (a l c).bind fun d c1 => frzD d c1
theorem me_frz (h : PE X e (rdE X.K W fa)) : PE X e (rdE X.K W (mFrz fa)) := PEi h fun σ H Q ⟨I, m, l, c, R, L, A⟩ =>
  ⟨I, m, l, c, R, L, After.mono (After.bind (rep := rD X.K) A) fun v1 H1 ⟨I1, m1, c1, d1, E1, R1, p1, A1⟩ => by
    cases p1 with
    | @ref k a hk =>
      have A2 : After (rD X.K) X.K I1 m1 H1 (fun cls dd H' => W cls dd σ H') Q (match c1[k]? with
        | some (.lst ds) => .ok (.lst ds) (c1.set k (.frz (.lst ds)))
        | _ => .stuck) := A1
      cases q : c1[k]? with
      | none => rw [q] at A2; exact A2.elim
      | some x =>
        rw [q] at A2
        cases x with
        | lst ds =>
          obtain ⟨I2, R2, E2, p2⟩ := R1.freeze hk q
          exact A2 I2 m1 H1 _ E2 R2 p2
        | _ => exact A2.elim
    | _ => exact A1.elim⟩
/-- y = [.. for ..] -/
theorem ms_setT {i : Nat} {s : Stmt} {t : TE} (h : PS X s (tAsg t (gName i))) (w : ∀ σ H Q, rdE X.K W fa σ H Q → t σ H Q) : PS X s (rdS X.K W (sSet i fa)) := PSi h fun D σ H ⟨I, m, l, c, R, L, A⟩ =>
  w σ H _ ⟨I, m, l, c, R, L, After.mono (AfterS.seq (rep := rD X.K) L A) fun v1 H1 ⟨I1, m1, c1, d1, E1, R1, p1, A1⟩ => A1 I1 m1 H1 _ (Ext.refl _ _ _) R1 ((L.ext E1).set i p1)⟩
theorem mts_nil : PTs X [] (rdT X.K W tYesM) := ⟨fun pins s σ H Q J ⟨I, m, l, c, R, L, A⟩ => pts_nil.run pins s σ H Q J (show tYes σ H Q from A.here R rfl)⟩
theorem mts_one {t : MT} (h : PT X c (rdT X.K W t)) : PTs X [c] (rdT X.K W t) := pts_one h
theorem rg_name {K : PySem.W.Frag} {i : Nat} : ∀ v σ H Q, rdG K W (gN i) v σ H Q → gName i v σ H Q := fun v σ H Q ⟨I, m, l, c, d, R, L, p, A⟩ => A.here R (L.set i p)
theorem rg_names {K : PySem.W.Frag} {i j : Nat} : ∀ v σ H Q, rdG K W (gT [i, j]) v σ H Q → gTup K 2 (gCons (gName i) (gCons (gName j) gNil)) v σ H Q := fun v σ H Q ⟨I, m, l, c, d, R, L, p, A⟩ => by
  cases p with
  | @tup a vs ds h r =>
    cases r with
    | nil => exact A.elim
    | cons h1 t1 =>
      cases t1 with
      | nil => exact A.elim
      | cons h2 t2 =>
        cases t2 with
        | cons h3 t3 =>
          unfold gT at A
          simp at A
          exact A.elim
        | nil => exact ⟨a, _, rfl, sqT_same R.same h, rfl, _, _, rfl, _, _, rfl, rfl, A.here R ((L.set i h1).set j h2)⟩
  | _ => exact A.elim

/-! ### dicts that are written -/
theorem Rel.sideO {K : PySem.W.Frag} {I H : Hp} {m : List Addr} {c : Cs} {p : Addr} {o : HO} (r : Rel K I H m c) (hH : ∀ x, H p ≠ some (.own x)) (hT : Nt H p) (hI : I p = none) (hm : p ∉ m) : Rel K I (upd H p o) m c := by
  refine ⟨fun b u e => ?_, r.len, r.nd, fun k a x h1 h2 => ?_, r.tabs.upH hT⟩
  · rw [upd_ne (ne_of_none e hI)]
    exact r.same _ _ e
  · have na : a ≠ p := fun e => hm (e ▸ List.mem_of_getElem? h1)
    have q := r.cell k a x h1 h2
    cases x with
    | lst es => exact ⟨q.1, q.2.imp fun us z => ⟨by rw [upd_ne na]; exact z.1, z.2⟩⟩
    | dct es => exact ⟨q.1, q.2.imp fun us z => ⟨by rw [upd_ne na]; exact z.1, z.2⟩⟩
    | dT es => exact ⟨q.1, q.2.imp fun us z => ⟨by rw [upd_ne na]; exact z.1, z.2⟩⟩
    | dN P0 w0 es => exact ⟨q.1, q.2.imp fun us z => ⟨by rw [upd_ne na]; exact z.1, z.2⟩⟩
    | dTz es => exact q
    | ins C es =>
      obtain ⟨q1, dx, us, q2, q3, q4, q5, q6⟩ := q
      exact ⟨q1, dx, us, q2, q3, by rw [upd_ne fun e => hH _ (e ▸ q4)]; exact q4, q5.imp fun _ z => ⟨z.1, by rw [upd_ne na]; exact z.2⟩, q6⟩
    | frz d => exact q
theorem Rel.adoptO {K : PySem.W.Frag} {I H : Hp} {m : List Addr} {c : Cs} {p : Addr} {o : HO} (r : Rel K I H m c) (hH : H p = some o) (ho : ∀ x, o ≠ .own x) (hT : Fx o) (hI : I p = none) (hm : p ∉ m) : Rel K (upd I p o) H m c := by
  have sI : Same I (upd I p o) := fun b u e => by rw [upd_ne (ne_of_none e hI)]; exact e
  refine ⟨fun b u e => ?_, r.len, r.nd, fun k a x h1 h2 => ?_, r.tabs.upI (nt_some hH hT)⟩
  · by_cases hb : b = p
    · subst hb
      rw [upd_same] at e
      rw [hH]
      exact e
    · rw [upd_ne hb] at e
      exact r.same _ _ e
  · have na : a ≠ p := fun e => hm (e ▸ List.mem_of_getElem? h1)
    have q := r.cell k a x h1 h2
    cases x with
    | lst es => exact ⟨by rw [upd_ne na]; exact q.1, q.2.imp fun us z => ⟨z.1, z.2.mono sI (Pre.refl m)⟩⟩
    | dct es => exact ⟨by rw [upd_ne na]; exact q.1, q.2.imp fun us z => ⟨z.1, z.2.mono sI (Pre.refl m)⟩⟩
    | dT es => exact ⟨by rw [upd_ne na]; exact q.1, q.2.imp fun us z => ⟨z.1, z.2.mono sI (Pre.refl m)⟩⟩
    | dN P0 w0 es => exact ⟨by rw [upd_ne na]; exact q.1, q.2.imp fun us z => ⟨z.1, z.2.mono sI (Pre.refl m)⟩⟩
    | dTz es => exact q.imp (fun _ y => y.imp fun _ y => ⟨sI _ _ y.1, y.2.mono sI (Pre.refl m)⟩)
    | ins C es =>
      obtain ⟨q1, dx, us, q2, q3, q4, q5, q6⟩ := q
      have nd : dx ≠ p := fun e => by rw [e, hH] at q4; exact ho _ (Option.some.inj q4)
      exact ⟨by rw [upd_ne na]; exact q1, dx, us, by rw [upd_ne nd]; exact q2, q3, q4, q5, q6.mono sI (Pre.refl m)⟩
    | frz d => exact ⟨by rw [upd_ne na]; exact q.1, q.2.mono sI (Pre.refl m)⟩
def mDict1 (k : Key) (a : ME) : ME := fun l c => (a l c).bind fun d c1 => .ok (.dct [(k, d)]) c1
end
/-! ### words for the printed text -/
structure Own (K : PySem.W.Frag) (mg : Str → Option Value) (x : Str) (st : Stmt) (ps : List Str) where
  a : Addr
  fd : FuncData
  mgf : mg x = some (.ref a)
  F : Fun K x x st a fd
  b : Binds K fd ps []
theorem u100 {A : Around} {k : Nat} (hr : Room k A) : A.units + 100 < cLine := by have := hr.un; omega
theorem bt_len : bootBuiltins "len" = some (.builtin "len") := by decide +kernel
theorem bt_isinstance : bootBuiltins "isinstance" = some (.builtin "isinstance") := by decide +kernel
theorem bt_repr : bootBuiltins "repr" = some (.builtin "repr") := by decide +kernel
theorem bt_all : bootBuiltins "all" = some (.builtin "all") := by decide +kernel
theorem bt_any : bootBuiltins "any" = some (.builtin "any") := by decide +kernel
theorem bt_max : bootBuiltins "max" = some (.builtin "max") := by decide +kernel
theorem bt_min : bootBuiltins "min" = some (.builtin "min") := by decide +kernel
theorem bt_int : bootBuiltins "int" = some (.type "int") := by decide +kernel
theorem bt_bool : bootBuiltins "bool" = some (.type "bool") := by decide +kernel
theorem bt_list : bootBuiltins "list" = some (.type "list") := by decide +kernel
theorem bt_tuple : bootBuiltins "tuple" = some (.type "tuple") := by decide +kernel
end L2.Mi

namespace L2.Mi
open PySem PySem.Spec PyProof.Rows L2

/-! ### match x: case [a, b] if ..: -/
def seqOf (d : D) (c : Cs) : Option (List D) := match d with
  | .lst xs => some xs
  | .tup xs => some xs
  | .ro xs => some xs
  | .ref k => match c[k]? with
    | some (.lst xs) => some xs
    | _ => none
  | _ => none
section
variable {prog : Program} {w : World} {A : Around} {E : Value → Shared → Prop} {s : Shared}
end
theorem seq_at {K : PySem.W.Frag} {I H : Hp} {m : List Addr} {c : Cs} {v : V} {d : D} {ds : List D} (R : Rel K I H m c) (p : Rep K I m v d) (h : seqOf d c = some ds) : ∃ a xs, v = .ref a ∧ (SqL K H a xs ∨ SqT K H a xs) ∧ Reps K I m xs ds := by
  cases p with
  | lst q r => cases h; exact ⟨_, _, rfl, .inl (R.same.seq (.inl (.inl q))), r⟩
  | ro q r => cases h; exact ⟨_, _, rfl, .inl (R.same.seq q), r⟩
  | tup q r => cases h; exact ⟨_, _, rfl, .inr (sqT_same R.same q), r⟩
  | @ref k a q =>
    have h : (match c[k]? with
      | some (.lst xs) => some xs
      | _ => none) = some ds := h
    cases e : c[k]? with
    | none => rw [e] at h; cases h
    | some x =>
      rw [e] at h
      cases x with
      | lst es =>
        cases h
        obtain ⟨_, vs, h1, h2⟩ := R.cell k a _ q e
        exact ⟨a, vs, rfl, .inl (.inl (.inl h1)), h2⟩
      | _ => cases h
  | _ => cases h
end L2.Mi

namespace L2.Mi
open PySem PySem.Spec PyProof.Rows L2

section
variable {K : PySem.W.Frag}
/-! ### tuple(x), list(x), int(x), str(n), bool(x) -/
def lstOf (d : D) (c : Cs) : Option (List D) := match d with
  | .lst xs => some xs
  | .ro xs => some xs
  | .ref k => match c[k]? with
    | some (.lst xs) => some xs
    | _ => none
  | _ => none
theorem lst_at {I H : Hp} {m : List Addr} {c : Cs} {v : V} {d : D} {ds : List D} (R : Rel K I H m c) (p : Rep K I m v d) (h : lstOf d c = some ds) : ∃ a xs, v = .ref a ∧ SqL K H a xs ∧ Reps K I m xs ds := by
  cases p with
  | lst q r => cases h; exact ⟨_, _, rfl, R.same.seq (.inl (.inl q)), r⟩
  | ro q r => cases h; exact ⟨_, _, rfl, R.same.seq q, r⟩
  | @ref k a q =>
    have h : (match c[k]? with
      | some (.lst xs) => some xs
      | _ => none) = some ds := h
    cases e : c[k]? with
    | none => rw [e] at h; cases h
    | some x =>
      rw [e] at h
      cases x with
      | lst es =>
        cases h
        obtain ⟨_, vs, h1, h2⟩ := R.cell k a _ q e
        exact ⟨a, vs, rfl, .inl (.inl h1), h2⟩
      | _ => cases h
  | _ => cases h
def tupleP (d : D) (c : Cs) : R D := match d with
  | .tup xs => .ok (.tup xs) c
  | d => match lstOf d c with
    | some xs => .ok (.tup xs) c
    | none => .stuck
def tupleD : List D → Cs → R D := on1 tupleP
abbrev rTuple (K : PySem.W.Frag) : List V → Hp → VK → Prop := fun xs H Q => ∃ p ys, xs = [.ref p] ∧ ((SqL K H p ys ∧ ∀ l, H l = none → Q (.ref l) (upd H l (.tup ys))) ∨ (SqT K H p ys ∧ Q (.ref p) H))
theorem cs_tuple : CallS K (rTuple K) tupleD := fun I H m c vs ds W Q R p A => by
  obtain ⟨v, d, rfl, rfl, pd, A⟩ := on1_arg p A
  have other : After (rD K) K I m H W Q (match lstOf d c with
    | some xs => .ok (.tup xs) c
    | none => .stuck) → rTuple K [v] H Q := fun A2 => by
    cases e : lstOf d c with
    | none => rw [e] at A2; exact A2.elim
    | some xs =>
      rw [e] at A2
      obtain ⟨a, ys, rfl, h1, h2⟩ := lst_at R pd e
      exact ⟨a, ys, rfl, .inl ⟨h1, fun l nl => A2.new R nl (.tup (SqT.of upd_same) (h2.mono (same_upd R.same nl) (Pre.refl _)) (.inl upd_same))⟩⟩
  cases pd with
  | tup q r x => exact ⟨_, _, rfl, .inr ⟨sqT_same R.same q, A.here R (.tup q r x)⟩⟩
  | _ => exact other A
/-- list(x), a new list that stays as it is -/
def listP (d : D) (c : Cs) : R D := match seqOf d c with
  | some xs => .ok (.lst xs) c
  | none => .stuck
def listD : List D → Cs → R D := on1 listP
abbrev rList (K : PySem.W.Frag) : List V → Hp → VK → Prop := fun xs H Q => ∃ p ys, xs = [.ref p] ∧ (SqL K H p ys ∨ SqT K H p ys) ∧ ∀ l, H l = none → Q (.ref l) (upd H l (.lst ys))
theorem cs_list : CallS K (rList K) listD := fun I H m c vs ds W Q R p A => by
  obtain ⟨v, d, rfl, rfl, pd, A⟩ := on1_arg p A
  have A2 : After (rD K) K I m H W Q (match seqOf d c with
    | some xs => .ok (.lst xs) c
    | none => .stuck) := A
  cases e : seqOf d c with
  | none => rw [e] at A2; exact A2.elim
  | some xs =>
    rw [e] at A2
    obtain ⟨a, ys, rfl, h1, h2⟩ := seq_at R pd e
    exact ⟨a, ys, rfl, h1, fun l nl => A2.new R nl (.lst upd_same (h2.mono (same_upd R.same nl) (Pre.refl _)))⟩
def intP (d : D) (c : Cs) : R D := match d with
  | .int i => .ok (.int i) c
  | .bl k => .ok (.int (if k then 1 else 0)) c
  | .str a => match PySem.intText? a with
    | some n => if a.length ≤ 640 then .ok (.int n) c else .stuck
    | none => .stuck
  | _ => .stuck
def intFD : List D → Cs → R D := on1 intP
def rIntF : List V → Hp → VK → Prop := fun xs H Q => ((∃ i, xs = [.int i] ∧ Q (.int i) H) ∨ ∃ k, xs = [.bl k] ∧ Q (.int (if k then 1 else 0)) H) ∨ ∃ a n, xs = [.str a] ∧ PySem.intText? a = some n ∧ a.length ≤ 640 ∧ Q (.int n) H
theorem call_intF {X : Cx} : CallR X (.type "int") rIntF := call_int1.or call_int_str
theorem cs_intF : CallS K rIntF intFD := fun I H m c vs ds W Q R p A => by
  obtain ⟨v, d, rfl, rfl, pd, A⟩ := on1_arg p A
  cases pd with
  | int i => exact .inl (.inl ⟨i, rfl, A.here R (.int i)⟩)
  | bl k => exact .inl (.inr ⟨k, rfl, A.here R (.int _)⟩)
  | str a =>
    have A2 : After (rD K) K I m H W Q (match PySem.intText? a with
      | some n => if a.length ≤ 640 then .ok (.int n) c else .stuck
      | none => .stuck) := A
    cases e : PySem.intText? a with
    | none => rw [e] at A2; exact A2.elim
    | some n =>
      rw [e] at A2
      by_cases hl : a.length ≤ 640
      · have A3 : After (rD K) K I m H W Q (if a.length ≤ 640 then .ok (.int n) c else .stuck) := A2
        rw [if_pos hl] at A3
        exact .inr ⟨a, n, rfl, e, hl, A3.here R (.int n)⟩
      · have A3 : After (rD K) K I m H W Q (if a.length ≤ 640 then .ok (.int n) c else .stuck) := A2
        rw [if_neg hl] at A3
        exact A3.elim
  | _ => exact A.elim
end
/-! ### what stands at the module's top -/
section
variable {X : Cx} {W : WX} {pos : Pos} {x : Str}
def IsC (K : PySem.W.Frag) (mg : Str → Option Value) (x : Str) (d : D) : Prop := ∃ u v, mg x = some u ∧ RelV v u ∧ ∀ I m, Rep K I m v d
theorem me_const {d : D} (hg : Gl X x) (h : IsC X.K X.mg x d) (hd : (x == ("__debug__" : Str)) = false := by decide) : PE X (.Name x pos) (rdE X.K W (mC d)) := by
  obtain ⟨u, v, h1, h2, h3⟩ := h
  exact me_c (pe_glob hg h1 h2 hd) h3
theorem isc_int {K : PySem.W.Frag} {mg : Str → Option Value} {i : Int} {t : Tok} (h : mg x = some (.int i t)) : IsC K mg x (.int i) := ⟨_, .int i, h, ⟨_, rfl⟩, fun _ _ => .int i⟩
/-- a tuple of the written part, and what stands in it -/
inductive KV' (K : PySem.W.Frag) : Value → D → Prop where
  | int (i : Int) (t : Tok) : KV' K (.int i t) (.int i)
  | str (i : Str) (t : Tok) : KV' K (.str i t) (.str i)
theorem KV'.get {K : PySem.W.Frag} {u : Value} {d : D} (h : KV' K u d) : ∃ v, RelV v u ∧ ∀ I m, Rep K I m v d := by
  cases h with
  | int i t => exact ⟨.int i, ⟨_, rfl⟩, fun _ _ => .int i⟩
  | str i t => exact ⟨.str i, ⟨_, rfl⟩, fun _ _ => .str i⟩
end
end L2.Mi

namespace L2.Mi
open PySem PySem.Spec PyProof.Rows L2 PySem.SeqAt PySem.AutoSeq1

/-! ### a dict and a text are never equal -/
theorem str_eq_declines_dict (b : Str) (u : Tok) (l : Addr) (c : Value) (es : Array DictEntry) (n : Nat) (dd : Option Addr) (sl : Array (Option Value)) :
    Meets (Builtin.«str.__eq__» ⟨[.str b u, .ref l], []⟩) (fun _ R s => s.heap.get? l = some { cls := c, dict := dd, data := .dict es n, slots := sl } ∧ R (.ok (.ret .notImplemented)) s) :=
  .of_wp fun prog w A R s h => by obtain ⟨hp, g, d, tk, os⟩ := s; obtain ⟨hl, h⟩ := h; wp_walk using wpAny_loadPart' hl, wpAny_load hl; exact ⟨_, rfl, h⟩
theorem rc_dict_str {prog : Program} {w : World} {A : Around} {E Q : Value → Shared → Prop} {s : Shared} {l : Addr} {es : Array DictEntry} {n : Nat} {dd : Option Addr} {sl : Array (Option Value)} (b : Str) (u : Tok)
    (ho : s.heap.get? l = some { cls := .type "dict", dict := dd, data := .dict es n, slots := sl }) (hu : A.units < cLine) (h : Q (.bool false) s) : wpAny (model prog w) A (richCompare .Eq (.ref l) (.str b u)) Q E s := by
  have tl : s.TypeIs (.ref l) "dict" := ⟨_, ho, rfl⟩
  refine rc_eq_decline_or (k := false) tl (typeIs_str s b u) (by decide) F.sub_str_dict F.slot_dict_eq F.slot_str_eq_refl
    (fun Q' hq => wpAny_call_entry F.slot_dict_eq tl F.entry_dict_eq ?_ (F.args_dict_eq_2 _ _))
    (fun _ hq => call_meets F.slot_str_eq_refl (typeIs_str s b u) F.entry_str_eq (F.args_str_eq_2 _ _) (str_eq_declines_dict b u l (.type "dict") es n dd sl) ⟨ho, hq⟩)
    (fun _ hq => wpAny_of_eq (rfl : isSame (.ref l) (.str b u) = pure false) hq) (.inr hu) h
  show wpAny _ _ (Builtin.Dict.dictSlotArgs "__eq__" ⟨[.ref l, .str b u], []⟩ >>= _) _ _ s
  refine wpAny_bind ?_
  unfold Builtin.Dict.dictSlotArgs
  refine wpAny_bind (wpAny_notOrdered_dict tl ?_)
  show wpAny _ _ (pure (Value.ref l, Value.str b u)) _ _ s
  refine wpAny_pure ?_
  refine wpAny_bind (wpAny_isInstance (T := "str") (typeIs_str s b u) F.sub_str_dict ?_)
  simp only [Bool.not_false, if_true]
  exact wpAny_bind (wpAny_rule (wpAny_pure ⟨_, rfl, hq⟩))
def rDs : R2 := fun x y H Q => ∃ a kvs b, x = .ref a ∧ H a = some (.dK kvs) ∧ y = .str b ∧ Q (.bl false) H
theorem op_ds {X : Cx} (hu : X.A.units + 64 < cLine) : OpR X (compareOp .Eq) rDs := by
  intro pins s σ H x y v u Q I rx ry h
  obtain ⟨a, kvs, b, rfl, ha, rfl, q⟩ := h
  cases (show v = Value.ref a from rx)
  obtain ⟨t, rfl⟩ := ry
  obtain ⟨_, _, vs, _, ⟨cls, dd, data, sl⟩, es, ep, h1, h2, h3, _⟩ := (show ObjOk X.prog X.w H s.heap a (.dK kvs) from I.hok a _ ha)
  have h2 := h2.1
  simp only at h2 h3
  subst h2 h3
  exact rc_dict_str b t h1 (by omega) ⟨.bl false, H, I, rfl, q⟩
section
variable {K : PySem.W.Frag}
def rEqB (K : PySem.W.Frag) : R2 := fun x y H Q => rEqA K x y H Q ∨ rDs x y H Q
theorem op_eqB {X : Cx} (hu : X.A.units + 64 < cLine) : OpR X (compareOp .Eq) (rEqB X.K) := (op_eqA hu).or (op_ds hu)
def eqE : D → D → Cs → R D
  | .dct _, .str _, c => .ok (.bl false) c
  | d, e, c => eqD d e c
theorem os_eqE : OpS K (rEqB K) eqE := fun I H m c v1 v2 d1 d2 W Q R p1 p2 A => by
  have gen : After (rD K) K I m H W Q (eqD d1 d2 c) → rEqB K v1 v2 H Q := fun A => .inl (os_eq I H m c v1 v2 d1 d2 W Q R p1 p2 A)
  cases p1 with
  | dct h r => cases p2 with
    | str s => exact .inr ⟨_, _, s, rfl, R.same _ _ h, rfl, A.here R (.bl _)⟩
    | _ => exact gen A
  | _ => exact gen A
end
end L2.Mi

namespace L2.Mi
open PySem PySem.Spec PyProof.Rows L2

/-! ### data with dicts, read and shown -/
def kP : Key → PyData
  | .inl i => .int i
  | .inr s => .str s
mutual
inductive Rx (h : Heap) : Value → PyData → Prop
  | non : Rx h .none .none
  | bl (b : Bool) : Rx h (.bool b) (.bool b)
  | int (i : Int) (t : Tok) : Rx h (.int i t) (.int i)
  | str (x : Str) (t : Tok) : Rx h (.str x t) (.str x)
  | lst {a : Addr} {o : Obj} {vs : Array Value} {n : Nat} {xs : List PyData} (h1 : h.get? a = some o) (h2 : o.cls = .type "list") (h3 : o.data = .seq vs n) (h4 : Rxs h vs.toList xs) : Rx h (.ref a) (.list xs)
  | tup {a : Addr} {o : Obj} {vs : Array Value} {n : Nat} {xs : List PyData} (h1 : h.get? a = some o) (h2 : o.cls = .type "tuple") (h3 : o.data = .seq vs n) (h4 : Rxs h vs.toList xs) : Rx h (.ref a) (.tuple xs)
  | dct {a : Addr} {o : Obj} {es : Array DictEntry} {n : Nat} {kvs : List (PyData × PyData)} (h1 : h.get? a = some o) (h2 : o.cls = .type "dict") (h3 : o.data = .dict es n) (hs : (a == sysModules) = false)
      (h4 : Rxs h (es.toList.map (·.key)) (kvs.map (·.1))) (h5 : Rxs h (es.toList.map (·.val)) (kvs.map (·.2))) : Rx h (.ref a) (.dict kvs)
inductive Rxs (h : Heap) : List Value → List PyData → Prop
  | nil : Rxs h [] []
  | cons {v : Value} {vs : List Value} {d : PyData} {ds : List PyData} (r : Rx h v d) (t : Rxs h vs ds) : Rxs h (v :: vs) (d :: ds)
end
mutual
theorem Rx.reads {h : Heap} : ∀ {v : Value} {d : PyData}, Rx h v d → ∃ as, Reads h v d as
  | _, _, .non => ⟨_, .none⟩
  | _, _, .bl b => ⟨_, .bool b⟩
  | _, _, .int i t => ⟨_, .int i t⟩
  | _, _, .str x t => ⟨_, .str x t⟩
  | _, _, .lst h1 h2 h3 h4 => let ⟨_, r⟩ := Rxs.reads h4; ⟨_, .list h1 h2 h3 r⟩
  | _, _, .tup h1 h2 h3 h4 => let ⟨_, r⟩ := Rxs.reads h4; ⟨_, .tuple h1 h2 h3 r⟩
  | _, _, .dct h1 h2 h3 _ h4 h5 => let ⟨_, r⟩ := Rxs.reads h4; let ⟨_, q⟩ := Rxs.reads h5; ⟨_, .dict h1 h2 h3 r q⟩
theorem Rxs.reads {h : Heap} : ∀ {v : List Value} {d : List PyData}, Rxs h v d → ∃ as, ReadsAll h v d as
  | _, _, .nil => ⟨_, .nil⟩
  | _, _, .cons r t => let ⟨_, r⟩ := Rx.reads r; let ⟨_, q⟩ := Rxs.reads t; ⟨_, .cons r q⟩
end
theorem Rxs.length {h : Heap} : ∀ {v : List Value} {d : List PyData}, Rxs h v d → v.length = d.length
  | _, _, .nil => rfl
  | _, _, .cons _ t => congrArg (· + 1) t.length
section
variable {P : Program} {w : World} {h : Heap}
def Shw (P : Program) (w : World) (h : Heap) (n : Nat) (v : Value) (t : Str) : Prop := ∃ bs, ReadAtMost h n bs ∧ ReprK P w bs h n v t
def Shws (P : Program) (w : World) (h : Heap) (n : Nat) (vs : List Value) (ts : List Str) : Prop := ∃ bs, ReadAtMost h n bs ∧ ReprAllK P w bs h n vs ts
theorem Shws.cons {n m : Nat} {v : Value} {vs : List Value} {t : Str} {ts : List Str} (a : Shw P w h n v t) (b : Shws P w h m vs ts) : Shws P w h (max n m) (v :: vs) (t :: ts) := by
  obtain ⟨b1, r1, k1⟩ := a
  obtain ⟨b2, r2, k2⟩ := b
  refine ⟨b1 ++ b2, (r1.mono (Nat.le_max_left _ _)).append (r2.mono (Nat.le_max_right _ _)), ?_⟩
  exact .cons ((k1.more fun b hb => List.mem_append_left _ hb).level_le (Nat.le_max_left _ _)) (k2.more_le (fun b hb => List.mem_append_right _ hb) (Nat.le_max_right _ _))
/-- a dict's parts: its entries as they are shown, and that it does not stand in itself -/
theorem shw_dct {a : Addr} {o : Obj} {es : Array DictEntry} {n : Nat} {kvs : List (PyData × PyData)} (r : Rx h (.ref a) (.dict kvs)) (h3 : o.data = .dict es n) (k1 : Shws P w h (PyData.depthAll (kvs.map (·.1))) (es.toList.map (·.key)) (PyData.shownAll (kvs.map (·.1))))
    (k2 : Shws P w h (PyData.depthAll (kvs.map (·.2))) (es.toList.map (·.val)) (PyData.shownAll (kvs.map (·.2)))) :
    ∃ bs, ReadAtMost h (PyData.depthKv kvs) bs ∧ a ∉ bs ∧ ReprEntriesK P w bs h (PyData.depthKv kvs) es.toList (PyData.shownKv kvs) := by
  obtain ⟨b1, r1, k1⟩ := k1
  obtain ⟨b2, r2, k2⟩ := k2
  have hb := (r1.mono (PyData.depthAll_keys_le kvs)).append (r2.mono (PyData.depthAll_vals_le kvs))
  obtain ⟨as, rr⟩ := r.reads
  refine ⟨b1 ++ b2, hb, not_mem_of_deeper rr (by simp only [PyData.depth]; omega) hb, ?_⟩
  rw [PyData.shownKv_eq]
  exact ReprEntriesK.of_two _ _ _ (k1.more_le (fun b hb => List.mem_append_left _ hb) (PyData.depthAll_keys_le kvs)) (k2.more_le (fun b hb => List.mem_append_right _ hb) (PyData.depthAll_vals_le kvs))
theorem shw_seq {a : Addr} {xs : List PyData} {d : PyData} {vs : List Value} (r : Rx h (.ref a) d) (hd : d.depth = PyData.depthAll xs + 1) (k : Shws P w h (PyData.depthAll xs) vs (PyData.shownAll xs)) :
    ∃ bs, ReadAtMost h (PyData.depthAll xs) bs ∧ a ∉ bs ∧ ReprAllK P w bs h (PyData.depthAll xs) vs (PyData.shownAll xs) := by
  obtain ⟨bs, hb, hk⟩ := k
  obtain ⟨as, rr⟩ := r.reads
  exact ⟨bs, hb, not_mem_of_deeper rr (by rw [hd]; omega) hb, hk⟩
mutual
theorem Rx.shw : ∀ {v : Value} {d : PyData}, Rx h v d → d.showable = true → d.shown.length ≤ sizeLine → Shw P w h d.depth v d.shown
  | _, _, .non, _, _ => ⟨[], (fun _ h => nomatch h), by simp only [PyData.shown]; exact .of_is ReprIs.none _ _ _⟩
  | _, _, .bl b, _, _ => ⟨[], (fun _ h => nomatch h), by simp only [PyData.shown]; exact .of_is (ReprIs.bool b) _ _ _⟩
  | _, _, .int i t, hs, _ => ⟨[], (fun _ h => nomatch h), by simp only [PyData.shown]; exact .of_is (ReprIs.int t (by simpa [PyData.showable] using hs)) _ _ _⟩
  | _, _, .str x t, _, hz => ⟨[], (fun _ h => nomatch h), by simp only [PyData.shown]; exact .of_is (ReprIs.str x t (by simpa only [PyData.shown] using hz)) _ _ _⟩
  | _, _, .lst (a := a) (vs := vs) (xs := xs) h1 h2 h3 h4, hs, hz => by
    have hz' : (listText (PyData.shownAll xs)).length ≤ sizeLine := by simpa only [PyData.shown] using hz
    have r : Rx h (.ref a) (.list xs) := .lst h1 h2 h3 h4
    obtain ⟨bs, hb, hna, hk⟩ := shw_seq r (by simp only [PyData.depth]) (Rxs.shw h4 (by simpa [PyData.showable] using hs) fun t ht => Nat.le_trans (listText_mem_le ht) hz')
    obtain ⟨as, rr⟩ := r.reads
    refine ⟨a :: bs, ReadAtMost.cons rr (by simp only [PyData.depth]; omega) hb, ?_⟩
    simp only [PyData.depth, PyData.shown]
    obtain ⟨l⟩ := vs
    cases l with
    | nil =>
      have e : xs = [] := List.length_eq_zero_iff.mp h4.length.symm
      subst e
      simp only [PyData.shownAll, listText_nil]
      exact ReprK.listEmpty h1 h2 h3
    | cons x l => exact ReprK.list h1 h2 h3 hna (by simpa using hk.length_eq) (fun i y e => hk.item i y (by simpa using e))
  | _, _, .tup (a := a) (xs := xs) h1 h2 h3 h4, hs, hz => by
    have hz' : (tupleText (PyData.shownAll xs)).length ≤ sizeLine := by simpa only [PyData.shown] using hz
    have r : Rx h (.ref a) (.tuple xs) := .tup h1 h2 h3 h4
    obtain ⟨bs, hb, hna, hk⟩ := shw_seq r (by simp only [PyData.depth]) (Rxs.shw h4 (by simpa [PyData.showable] using hs) fun t ht => Nat.le_trans (tupleText_mem_le ht) hz')
    obtain ⟨as, rr⟩ := r.reads
    refine ⟨a :: bs, ReadAtMost.cons rr (by simp only [PyData.depth]; omega) hb, ?_⟩
    simp only [PyData.depth, PyData.shown]
    exact ReprK.tuple h1 h2 h3 hna hk
  | _, _, .dct (a := a) (es := es) (kvs := kvs) h1 h2 h3 hx h4 h5, hs, hz => by
    have hz' : (dictText (PyData.shownKv kvs)).length ≤ sizeLine := by simpa only [PyData.shown] using hz
    obtain ⟨hs1, hs2⟩ := PyData.showableKv_split kvs (by simpa [PyData.showable] using hs)
    have r : Rx h (.ref a) (.dict kvs) := .dct h1 h2 h3 hx h4 h5
    obtain ⟨bs, hb, hna, hk⟩ := shw_dct r h3 (Rxs.shw h4 hs1 fun t ht => let ⟨p, hp, hl⟩ := PyData.shownKv_key_le kvs t ht; Nat.le_trans hl (Nat.le_trans (dictText_mem_le hp) hz'))
      (Rxs.shw h5 hs2 fun t ht => let ⟨p, hp, hl⟩ := PyData.shownKv_val_le kvs t ht; Nat.le_trans hl (Nat.le_trans (dictText_mem_le hp) hz'))
    obtain ⟨as, rr⟩ := r.reads
    refine ⟨a :: bs, ReadAtMost.cons rr (by simp only [PyData.depth]; omega) hb, ?_⟩
    simp only [PyData.depth, PyData.shown]
    exact ReprK.dict h1 h2 h3 hx hna hk
theorem Rxs.shw : ∀ {v : List Value} {d : List PyData}, Rxs h v d → PyData.showableAll d = true → (∀ t ∈ PyData.shownAll d, t.length ≤ sizeLine) → Shws P w h (PyData.depthAll d) v (PyData.shownAll d)
  | _, _, .nil, _, _ => ⟨[], (fun _ h => nomatch h), by simp only [PyData.shownAll]; exact .nil⟩
  | _, _, .cons (d := d) (ds := ds) r t, hs, hz => by
    have hs' : d.showable = true ∧ PyData.showableAll ds = true := by simpa [PyData.showableAll] using hs
    simp only [PyData.depthAll, PyData.shownAll] at hz ⊢
    exact Shws.cons (Rx.shw r hs'.1 (hz _ (List.mem_cons_self ..))) (Rxs.shw t hs'.2 fun t ht => hz t (List.mem_cons_of_mem _ ht))
end
/-- repr(x), x an object -/
theorem repr_rx {A : Around} {E Q : Value → Shared → Prop} {s : Shared} {a : Addr} {d : PyData} (r : Rx s.heap (.ref a) d) (hs : d.showable = true) (hg : A.guards = some []) (hu : A.units + (d.depth + 1) < cLine)
    (hQ : ∀ h' u tk, (∀ b o, s.heap.get? b = some o → h'.get? b = some o) → Q (.str d.shown u) { s with heap := h', toks := tk }) (hz : d.shown.length ≤ sizeLine) : wpAny (model P w) A (call (.builtin "repr") [.ref a]) Q E s := by
  have fin : ∀ {idr : String}, wpAny (model P w) A.in1 (call (.builtin idr) [.ref a]) (fun v s1 => ∃ h' u tk, (∀ b o, s.heap.get? b = some o → h'.get? b = some o) ∧ v = .str d.shown u ∧ s1 = { s with heap := h', toks := tk }) E s →
      wpAny (model P w) A.in1 (call (.builtin idr) [.ref a]) (fun r s₁ => ∃ x t, r = .str x t ∧ Q r s₁) E s := fun hc =>
    wpAny_mono hc (fun v s1 ⟨h', u, tk, k, e1, e2⟩ => ⟨_, _, e1, by rw [e1, e2]; exact hQ h' u tk k⟩) fun _ _ x => x
  have hu1 : A.in1.units = A.units + 1 := rfl
  cases r with
  | @lst _ o vs n xs h1 h2 h3 h4 =>
    have r : Rx s.heap (.ref a) (.list xs) := .lst h1 h2 h3 h4
    have hz' : (listText (PyData.shownAll xs)).length ≤ sizeLine := by simpa only [PyData.shown] using hz
    obtain ⟨bs, hb, hna, hk⟩ := shw_seq (P := P) (w := w) r (by simp only [PyData.depth]) (Rxs.shw h4 (by simpa [PyData.showable] using hs) fun t ht => Nat.le_trans (listText_mem_le ht) hz')
    simp only [PyData.depth] at hu
    simp only [PyData.shown] at fin
    refine call_repr_slot (by omega) ⟨o, h1, h2⟩ F.slot_list_repr.toG (fin ?_)
    obtain ⟨l⟩ := vs
    cases l with
    | nil =>
      have e : xs = [] := List.length_eq_zero_iff.mp h4.length.symm
      subst e
      refine call_list_repr_empty ⟨o, h1, h2⟩ h1 h3 ⟨s.heap, s.toks, s.toks + 1, fun _ _ e => e, ?_, rfl⟩
      simp only [PyData.shownAll, listText_nil]
    | cons x l => exact call_list_reprK h1 h2 h3 hna (by simpa using hk.length_eq) (fun i y e => hk.item i y (by simpa using e)) (g := []) hg (fun b _ => Clear.nil b) (by omega) (fun _ _ e => e) (fun h' u tk k => ⟨h', u, tk, k, rfl, rfl⟩) hz'
  | @tup _ o vs n xs h1 h2 h3 h4 =>
    have r : Rx s.heap (.ref a) (.tuple xs) := .tup h1 h2 h3 h4
    have hz' : (tupleText (PyData.shownAll xs)).length ≤ sizeLine := by simpa only [PyData.shown] using hz
    obtain ⟨bs, hb, hna, hk⟩ := shw_seq (P := P) (w := w) r (by simp only [PyData.depth]) (Rxs.shw h4 (by simpa [PyData.showable] using hs) fun t ht => Nat.le_trans (tupleText_mem_le ht) hz')
    simp only [PyData.depth] at hu
    simp only [PyData.shown] at fin
    refine call_repr_slot (by omega) ⟨o, h1, h2⟩ F.slot_tuple_repr (fin ?_)
    exact call_tuple_reprK h1 h2 h3 hna hk (g := []) hg (fun b _ => Clear.nil b) (by omega) (fun _ _ e => e) (fun h' u tk k => ⟨h', u, tk, k, rfl, rfl⟩) hz'
  | @dct _ o es n kvs h1 h2 h3 hx h4 h5 =>
    have r : Rx s.heap (.ref a) (.dict kvs) := .dct h1 h2 h3 hx h4 h5
    have hz' : (dictText (PyData.shownKv kvs)).length ≤ sizeLine := by simpa only [PyData.shown] using hz
    obtain ⟨hs1, hs2⟩ := PyData.showableKv_split kvs (by simpa [PyData.showable] using hs)
    obtain ⟨bs, hb, hna, hk⟩ := shw_dct (P := P) (w := w) r h3 (Rxs.shw h4 hs1 fun t ht => let ⟨p, hp, hl⟩ := PyData.shownKv_key_le kvs t ht; Nat.le_trans hl (Nat.le_trans (dictText_mem_le hp) hz'))
      (Rxs.shw h5 hs2 fun t ht => let ⟨p, hp, hl⟩ := PyData.shownKv_val_le kvs t ht; Nat.le_trans hl (Nat.le_trans (dictText_mem_le hp) hz'))
    simp only [PyData.depth] at hu
    simp only [PyData.shown] at fin
    refine call_repr_slot (by omega) ⟨o, h1, h2⟩ F.slot_dict_repr (fin ?_)
    exact call_dict_reprK h1 h2 h3 hx hna hk (g := []) hg (fun b _ => Clear.nil b) (by omega) (fun _ _ e => e) (fun h' u tk k => ⟨h', u, tk, k, rfl, rfl⟩) hz'
end
/-! ### .. at the level of tracked things -/
mutual
inductive Dx (K : PySem.W.Frag) (H : Hp) : V → PyData → Prop
  | non : Dx K H .non .none
  | bl (b : Bool) : Dx K H (.bl b) (.bool b)
  | int (i : Int) : Dx K H (.int i) (.int i)
  | str (x : Str) : Dx K H (.str x) (.str x)
  | lst {a : Addr} {xs : List V} {ds : List PyData} (h : SqL K H a xs) (t : Dxs K H xs ds) : Dx K H (.ref a) (.list ds)
  | tup {a : Addr} {xs : List V} {ds : List PyData} (h : SqT K H a xs) (t : Dxs K H xs ds) : Dx K H (.ref a) (.tuple ds)
  | dct {a : Addr} {xs : List (Key × V)} {ds : List (PyData × PyData)} (h : H a = some (.dK xs)) (t : Dxk K H xs ds) : Dx K H (.ref a) (.dict ds)
inductive Dxs (K : PySem.W.Frag) (H : Hp) : List V → List PyData → Prop
  | nil : Dxs K H [] []
  | cons {v : V} {vs : List V} {d : PyData} {ds : List PyData} (h : Dx K H v d) (t : Dxs K H vs ds) : Dxs K H (v :: vs) (d :: ds)
inductive Dxk (K : PySem.W.Frag) (H : Hp) : List (Key × V) → List (PyData × PyData) → Prop
  | nil : Dxk K H [] []
  | cons {k : Key} {v : V} {vs : List (Key × V)} {d : PyData} {ds : List (PyData × PyData)} (h : Dx K H v d) (t : Dxk K H vs ds) : Dxk K H ((k, v) :: vs) ((kP k, d) :: ds)
end
section
variable {X : Cx} {pins : List (Addr × Obj)} {σ : St} {H : Hp} {s : Shared}
theorem key_rx {h : Heap} {k : Key} {u : Value} (e : keyIs k u = true) : Rx h u (kP k) := by
  rcases keyIs_shape e with ⟨i, t, rfl, rfl⟩ | ⟨x, t, rfl, rfl⟩
  · exact .int i t
  · exact .str x t
mutual
theorem Dx.rx (I : Inv X pins σ H s) : ∀ {v : V} {d : PyData} {u : Value}, Dx X.K H v d → RelV v u → Rx s.heap u d
  | _, _, _, .non, r => by cases r; exact .non
  | _, _, _, .bl b, r => by cases r; exact .bl b
  | _, _, _, .int i, r => by obtain ⟨t, rfl⟩ := r; exact .int i t
  | _, _, _, .str x, r => by obtain ⟨t, rfl⟩ := r; exact .str x t
  | _, _, _, .lst h t, r => by
    cases r
    obtain ⟨its, rv, ⟨o, n, ho, hc, _, hd⟩, _⟩ := I.list h
    exact .lst ho hc hd (by simpa using Dxs.rx I t rv)
  | _, _, _, .tup h t, r => by
    cases r
    obtain ⟨its, rv, ⟨o, ho, hc, n, hd⟩, _⟩ := I.tuple h
    exact .tup ho hc hd (by simpa using Dxs.rx I t rv)
  | _, _, _, .dct (a := a) h t, r => by
    cases r
    obtain ⟨_, hs, vs, rv, o, es, ep, h1, h2, h3, _, h5, _⟩ := (show ObjOk X.prog X.w H s.heap a (.dK _) from I.hok a _ h)
    obtain ⟨k1, k2⟩ := Dxk.rx I t rv h5
    exact .dct h1 h2.1 h3 hs k1 k2
theorem Dxs.rx (I : Inv X pins σ H s) : ∀ {v : List V} {d : List PyData} {u : List Value}, Dxs X.K H v d → Vals v u → Rxs s.heap u d
  | _, _, _, .nil, r => by cases r; exact .nil
  | _, _, _, .cons h t, r => by
    cases r with
    | cons r1 r2 => exact .cons (Dx.rx I h r1) (Dxs.rx I t r2)
theorem Dxk.rx (I : Inv X pins σ H s) : ∀ {v : List (Key × V)} {d : List (PyData × PyData)} {u : List (Key × Value)} {es : List DictEntry}, Dxk X.K H v d → KV v u → Pairs (mixKind X.prog X.w) es u →
    Rxs s.heap (es.map (·.key)) (d.map (·.1)) ∧ Rxs s.heap (es.map (·.val)) (d.map (·.2))
  | _, _, _, _, .nil, r, p => by
    cases r
    cases p
    exact ⟨.nil, .nil⟩
  | _, _, _, _, .cons (k := k) h t, r, p => by
    cases r with
    | cons r1 r2 =>
      cases p with
      | cons p1 p2 p3 =>
        obtain ⟨q1, q2⟩ := Dxk.rx I t r2 p3
        obtain ⟨e1, e2⟩ := r1
        refine ⟨.cons (key_rx (k := k) ?_) q1, .cons ?_ q2⟩
        · have e1 : k = _ := e1
          rw [e1]
          exact p1
        · have q := Dx.rx I h e2
          rw [← p2] at q
          exact q
end
end
/-! ### repr and == of what a computation holds, cells looked through -/
def mapO {α β : Type} (f : α → Option β) : List α → Option (List β)
  | [] => some []
  | x :: xs => match f x with
    | some y => match mapO f xs with
      | some ys => some (y :: ys)
      | none => none
    | none => none
def toPyC : Nat → Cs → D → Option PyData
  | 0, _, _ => none
  | n + 1, c, d => match d with
    | .non => some .none
    | .bl b => some (.bool b)
    | .int i => some (.int i)
    | .str s => some (.str s)
    | .lst xs => (mapO (toPyC n c) xs).map .list
    | .ro xs => (mapO (toPyC n c) xs).map .list
    | .tup xs => (mapO (toPyC n c) xs).map .tuple
    | .dct kvs => (mapO (fun p => (toPyC n c p.2).map fun q => (kP p.1, q)) kvs).map .dict
    | .ref k => match c[k]? with
      | some (.lst xs) => (mapO (toPyC n c) xs).map .list
      | some (.dct kvs) => (mapO (fun p => (toPyC n c p.2).map fun q => (kP p.1, q)) kvs).map .dict
      | some (.frz d) => toPyC n c d
      | _ => none
    | _ => none
section
variable {K : PySem.W.Frag} {I H : Hp} {m : List Addr} {c : Cs}
theorem dxs_of {f : D → Option PyData} (hf : ∀ v d p, Rep K I m v d → f d = some p → Dx K H v p) : ∀ {vs : List V} {ds : List D} {ps : List PyData}, Reps K I m vs ds → mapO f ds = some ps → Dxs K H vs ps
  | _, _, _, .nil, e => by simp [mapO] at e; subst e; exact .nil
  | _, _, _, .cons (d := d) (ds := ds) h t, e => by
    unfold mapO at e
    cases q : f d with
    | none => rw [q] at e; cases e
    | some y =>
      cases q2 : mapO f ds with
      | none => rw [q, q2] at e; cases e
      | some ys => rw [q, q2] at e; cases e; exact .cons (hf _ _ _ h q) (dxs_of hf t q2)
theorem dxk_of {f : D → Option PyData} (hf : ∀ v d p, Rep K I m v d → f d = some p → Dx K H v p) : ∀ {vs : List (Key × V)} {ds : List (Key × D)} {ps : List (PyData × PyData)}, RepK K I m vs ds →
    mapO (fun p => (f p.2).map fun q => (kP p.1, q)) ds = some ps → Dxk K H vs ps
  | _, _, _, .nil, e => by simp [mapO] at e; subst e; exact .nil
  | _, _, _, .cons (k := k) (d := d) (ds := ds) h t, e => by
    unfold mapO at e
    cases q : f d with
    | none => simp only [q, Option.map_none] at e; cases e
    | some y =>
      cases q2 : mapO (fun p : Key × D => (f p.2).map fun q => (kP p.1, q)) ds with
      | none => simp only [q, q2, Option.map_some] at e; cases e
      | some ys => simp only [q, q2, Option.map_some] at e; cases e; exact .cons (hf _ _ _ h q) (dxk_of hf t q2)
theorem dx_of (R : Rel K I H m c) : ∀ (n : Nat) (v : V) (d : D) (p : PyData), Rep K I m v d → toPyC n c d = some p → Dx K H v p
  | 0, _, _, _, _, e => by cases e
  | n + 1, v, d, p, h, e => by
    have ih := dx_of R n
    cases h with
    | non => cases e; exact .non
    | bl b => cases e; exact .bl b
    | int i => cases e; exact .int i
    | str s => cases e; exact .str s
    | lst h r =>
      obtain ⟨ps, e1, rfl⟩ := Option.map_eq_some_iff.mp e
      exact .lst (.inl (.inl (R.same _ _ h))) (dxs_of ih r e1)
    | ro h r =>
      obtain ⟨ps, e1, rfl⟩ := Option.map_eq_some_iff.mp e
      exact .lst (R.same.seq h) (dxs_of ih r e1)
    | tup h r =>
      obtain ⟨ps, e1, rfl⟩ := Option.map_eq_some_iff.mp e
      exact .tup (sqT_same R.same h) (dxs_of ih r e1)
    | dct h r =>
      obtain ⟨ps, e1, rfl⟩ := Option.map_eq_some_iff.mp e
      exact .dct (R.same _ _ h) (dxk_of ih r e1)
    | @ref k a h =>
      have e : (match c[k]? with
        | some (.lst xs) => (mapO (toPyC n c) xs).map .list
        | some (.dct kvs) => (mapO (fun p => (toPyC n c p.2).map fun q => (kP p.1, q)) kvs).map .dict
        | some (.frz d) => toPyC n c d
        | _ => none) = some p := e
      cases q : c[k]? with
      | none => rw [q] at e; cases e
      | some x =>
        rw [q] at e
        have hc := R.cell k a x h q
        cases x with
        | lst xs =>
          obtain ⟨ps, e1, rfl⟩ := Option.map_eq_some_iff.mp e
          obtain ⟨_, vs, h1, h2⟩ := hc
          exact .lst (.inl (.inl h1)) (dxs_of ih h2 e1)
        | dct xs =>
          obtain ⟨ps, e1, rfl⟩ := Option.map_eq_some_iff.mp e
          obtain ⟨_, vs, h1, h2⟩ := hc
          exact .dct h1 (dxk_of ih h2 e1)
        | frz d => exact ih _ _ _ hc.2 e
        | _ => cases e
    | _ => cases e
def rReprX (K : PySem.W.Frag) : List V → Hp → VK → Prop := fun xs H Q => ∃ v d, xs = [v] ∧ Dx K H v d ∧ d.depth ≤ 60 ∧ d.showable = true ∧ d.shown.length ≤ sizeLine ∧ Q (.str d.shown) H
theorem call_reprX {X : Cx} (hg : X.A.guards = some []) (hu : X.A.units + 100 < cLine) : CallR X (.builtin "repr") (rReprX X.K) := fun pins s σ H xs us Q I r h => by
  obtain ⟨v, d, rfl, hd, hs, hw, hz, q⟩ := h
  obtain ⟨u, rfl, rx⟩ := vals1 r
  have hr := Dx.rx I hd rx
  have far : ∀ {a : Addr}, u = .ref a → wpAny (model X.prog X.w) X.A (call (.builtin "repr") [u]) (EP X pins σ Q) X.xe s := fun {a} e => by
    subst e
    exact repr_rx hr hw hg (by omega) (fun h' t tk k => ⟨.str _, H, I.kept k, ⟨t, rfl⟩, q⟩) hz
  cases hd with
  | non => cases (show u = Value.none from rx); exact PySem.P.repr_of_none ⟨.str _, H, I.tok _, ⟨_, rfl⟩, by simpa [PyData.shown] using q⟩
  | bl b => cases (show u = Value.bool b from rx); exact PySem.P.repr_of_bool ⟨.str _, H, I.tok _, ⟨_, rfl⟩, by simpa [PyData.shown] using q⟩
  | int i =>
    obtain ⟨t, rfl⟩ := rx
    exact PySem.P.repr_of_int (by simpa [PyData.showable] using hw) ⟨.str _, H, I.tok _, ⟨_, rfl⟩, by simpa [PyData.shown] using q⟩
  | str x =>
    obtain ⟨t, rfl⟩ := rx
    exact PySem.P.repr_of_str ⟨.str _, H, I.tok _, ⟨_, rfl⟩, by simpa [PyData.shown] using q⟩ (by simpa [PyData.shown] using hz)
  | lst h t => exact far rx
  | tup h t => exact far rx
  | dct h t => exact far rx
def okR (p : PyData) : Bool := decide (p.depth ≤ 60) && p.showable && decide (p.shown.length ≤ sizeLine)
def reprQ (d : D) (c : Cs) : R D := match toPyC 30 c d with
  | some p => if okR p = true then .ok (.str p.shown) c else .stuck
  | none => .stuck
def reprX : List D → Cs → R D := on1 reprQ
theorem cs_reprX : CallS K (rReprX K) reprX := fun I H m c vs ds W Q R p A => by
  obtain ⟨v, d, rfl, rfl, p, A⟩ := on1_arg p A
  unfold reprQ at A
  cases q : toPyC 30 c d with
  | none => rw [q] at A; exact A.elim
  | some y =>
    rw [q] at A
    by_cases h : okR y = true
    · have A2 : After (rD K) K I m H W Q (if okR y = true then .ok (.str y.shown) c else .stuck) := A
      rw [if_pos h] at A2
      simp only [okR, Bool.and_eq_true, decide_eq_true_eq] at h
      exact ⟨v, y, rfl, dx_of R 30 _ _ _ p q, h.1.1, h.1.2, h.2, A2.here R (.str _)⟩
    · have A2 : After (rD K) K I m H W Q (if okR y = true then .ok (.str y.shown) c else .stuck) := A
      rw [if_neg h] at A2
      exact A2.elim
/-- == of data that stands in cells, too -/
def rEqX (neg : Bool) (K : PySem.W.Frag) : R2 := fun x y H Q => ∃ d e, Dx K H x d ∧ Dx K H y e ∧ SeqAt.shaped d = true ∧ SeqAt.shaped e = true ∧ Q (.bl (if neg then !PyData.eqv d e else PyData.eqv d e)) H
theorem op_eqX {X : Cx} (hu : X.A.units + 64 < cLine) : OpR X (compareOp .Eq) (rEqX false X.K) := by
  intro pins s σ H x y v u Q I rx ry h
  obtain ⟨d, e, hd, he, sd, se, q⟩ := h
  obtain ⟨as, r1⟩ := (Dx.rx I hd rx).reads
  obtain ⟨bs, r2⟩ := (Dx.rx I he ry).reads
  exact SeqAt.compareEq_shaped r1 r2 sd se hu ⟨.bl _, H, I, rfl, q⟩
theorem op_neX {X : Cx} (hu : X.A.units + 64 < cLine) : OpR X (compareOp .NotEq) (rEqX true X.K) := by
  intro pins s σ H x y v u Q I rx ry h
  obtain ⟨d, e, hd, he, sd, se, q⟩ := h
  obtain ⟨as, r1⟩ := (Dx.rx I hd rx).reads
  obtain ⟨bs, r2⟩ := (Dx.rx I he ry).reads
  exact SeqAt.compareNe_shaped r1 r2 sd se hu ⟨.bl _, H, I, rfl, q⟩
def eqQ (neg : Bool) (d e : D) (c : Cs) : R D := match toPyC 30 c d with
  | some a => match toPyC 30 c e with
    | some b => if SeqAt.shaped a = true ∧ SeqAt.shaped b = true then .ok (.bl (if neg then !PyData.eqv a b else PyData.eqv a b)) c else .stuck
    | none => .stuck
  | none => .stuck
theorem eqQ_read {W : XK} {Q : VK} {v1 v2 : V} {d1 d2 : D} {neg : Bool} (R : Rel K I H m c) (p1 : Rep K I m v1 d1) (p2 : Rep K I m v2 d2) (A : After (rD K) K I m H W Q (eqQ neg d1 d2 c)) : rEqX neg K v1 v2 H Q := by
  unfold eqQ at A
  cases q1 : toPyC 30 c d1 with
  | none => rw [q1] at A; exact A.elim
  | some a =>
    cases q2 : toPyC 30 c d2 with
    | none => rw [q1, q2] at A; exact A.elim
    | some b =>
      rw [q1, q2] at A
      by_cases hs : SeqAt.shaped a = true ∧ SeqAt.shaped b = true
      · have A2 : After (rD K) K I m H W Q (if SeqAt.shaped a = true ∧ SeqAt.shaped b = true then .ok (.bl (if neg then !PyData.eqv a b else PyData.eqv a b)) c else .stuck) := A
        rw [if_pos hs] at A2
        exact ⟨a, b, dx_of R 30 _ _ _ p1 q1, dx_of R 30 _ _ _ p2 q2, hs.1, hs.2, A2.here R (.bl _)⟩
      · have A2 : After (rD K) K I m H W Q (if SeqAt.shaped a = true ∧ SeqAt.shaped b = true then .ok (.bl (if neg then !PyData.eqv a b else PyData.eqv a b)) c else .stuck) := A
        rw [if_neg hs] at A2
        exact A2.elim
/-- ==, !=: scalars and a dict against a text as before, all else by what the cells hold -/
def eqX : D → D → Cs → R D
  | .int i, .int j, c => .ok (.bl (decide (i = j))) c
  | .str i, .str j, c => .ok (.bl (decide (i = j))) c
  | .bl i, .bl j, c => .ok (.bl (decide (i = j))) c
  | .dct _, .str _, c => .ok (.bl false) c
  | d, e, c => eqQ false d e c
def neX : D → D → Cs → R D
  | .int i, .int j, c => .ok (.bl (!decide (i = j))) c
  | .str i, .str j, c => .ok (.bl (!decide (i = j))) c
  | .bl i, .bl j, c => .ok (.bl (!decide (i = j))) c
  | d, e, c => eqQ true d e c
def rEqY (K : PySem.W.Frag) : R2 := fun x y H Q => rEqB K x y H Q ∨ rEqX false K x y H Q
def rNeY (K : PySem.W.Frag) : R2 := fun x y H Q => rNeA K x y H Q ∨ rEqX true K x y H Q
theorem op_eqY {X : Cx} (hu : X.A.units + 64 < cLine) : OpR X (compareOp .Eq) (rEqY X.K) := (op_eqB hu).or (op_eqX hu)
theorem op_neY {X : Cx} (hu : X.A.units + 64 < cLine) : OpR X (compareOp .NotEq) (rNeY X.K) := (op_neA hu).or (op_neX hu)
theorem os_eqX : OpS K (rEqY K) eqX := fun I H m c v1 v2 d1 d2 W Q R p1 p2 A => by
  have gen : After (rD K) K I m H W Q (eqQ false d1 d2 c) → rEqY K v1 v2 H Q := fun A => .inr (eqQ_read R p1 p2 A)
  cases p1 with
  | int i => cases p2 with
    | int j => exact .inl (os_eqE I H m c _ _ _ _ W Q R (.int i) (.int j) A)
    | _ => exact gen A
  | str i => cases p2 with
    | str j => exact .inl (os_eqE I H m c _ _ _ _ W Q R (.str i) (.str j) A)
    | _ => exact gen A
  | bl i => cases p2 with
    | bl j => exact .inl (os_eqE I H m c _ _ _ _ W Q R (.bl i) (.bl j) A)
    | _ => exact gen A
  | dct h r => cases p2 with
    | str j => exact .inl (os_eqE I H m c _ _ _ _ W Q R (.dct h r) (.str j) A)
    | _ => exact gen A
  | _ => exact gen A
theorem os_neX : OpS K (rNeY K) neX := fun I H m c v1 v2 d1 d2 W Q R p1 p2 A => by
  have gen : After (rD K) K I m H W Q (eqQ true d1 d2 c) → rNeY K v1 v2 H Q := fun A => .inr (eqQ_read R p1 p2 A)
  cases p1 with
  | int i => cases p2 with
    | int j => exact .inl (os_ne I H m c _ _ _ _ W Q R (.int i) (.int j) A)
    | _ => exact gen A
  | str i => cases p2 with
    | str j => exact .inl (os_ne I H m c _ _ _ _ W Q R (.str i) (.str j) A)
    | _ => exact gen A
  | bl i => cases p2 with
    | bl j => exact .inl (os_ne I H m c _ _ _ _ W Q R (.bl i) (.bl j) A)
    | _ => exact gen A
  | _ => exact gen A
end
end L2.Mi

namespace L2.Mi
open PySem PySem.Spec PyProof.Rows L2

section
variable {K : PySem.W.Frag}
/-! ### in, of what stands in a cell -/
/-! ### s.split(sep): a list of its own -/
/-! ### methods of a list's cell -/
def isL (d : D) (c : Cs) : Bool := (lstOf d c).isSome
def mBM (g : D → List D → Cs → R D) (a : ME) (t : MA) : ME := fun l c => (a l c).bind fun x c1 => if isL x c1 = true then (t l c1).bind fun xs c2 => g x xs c2 else .stuck
def MethS (K : PySem.W.Frag) (r : V → List V → Hp → VK → Prop) (g : D → List D → Cs → R D) : Prop := ∀ (I H : Hp) (m : List Addr) (c : Cs) (v : V) (vs : List V) (d : D) (ds : List D) (W : XK) (Q : VK),
  Rel K I H m c → Rep K I m v d → Reps K I m vs ds → After (rD K) K I m H W Q (g d ds c) → r v vs H Q
theorem me_bm {X : Cx} {W : WX} {e : Expr} {fa : ME} {ga : MA} {r : V → List V → Hp → VK → Prop} {g : D → List D → Cs → R D} (h : PE X e (tBM X.K "list" r (rdE X.K W fa) (rdA X.K W ga))) (hs : MethS X.K r g) : PE X e (rdE X.K W (mBM g fa ga)) :=
  PEi h fun σ H Q ⟨I, m, l, c, R, L, A⟩ => ⟨I, m, l, c, R, L, After.mono (After.bind (rep := rD X.K) A) fun v1 H1 ⟨I1, m1, c1, d1, E1, R1, p1, A1⟩ => by
    have A1 : After (rD X.K) X.K I1 m1 H1 _ Q (if isL d1 c1 = true then (ga l c1).bind fun xs c2 => g d1 xs c2 else .stuck) := A1
    by_cases hl : isL d1 c1 = true
    · rw [if_pos hl] at A1
      obtain ⟨ds, hds⟩ := Option.isSome_iff_exists.mp hl
      obtain ⟨a, xs, e1, h1, _⟩ := lst_at R1 p1 hds
      subst e1
      refine ⟨.inl ⟨rfl, xs, h1⟩, I1, m1, l, c1, R1, L.ext E1, After.mono (After.bind (rep := rA X.K) A1) fun v2 H2 ⟨I2, m2, c2, d2, E2, R2, p2, A2⟩ => ?_⟩
      exact hs I2 H2 m2 c2 _ v2 d1 d2 _ Q R2 (Rep.ext p1 E2) p2 A2
    · rw [if_neg hl] at A1
      exact A1.elim⟩
def appendD : D → List D → Cs → R D := fun d ds c => match d, ds with
  | .ref k, [y] => match c[k]? with
    | some (.lst xs) => if xs.length < sizeLine then .ok .non (c.set k (.lst (xs ++ [y]))) else .stuck
    | _ => .stuck
  | _, _ => .stuck
theorem meth_append : MethS K rAppend appendD := fun I H m c v vs d ds W Q R p ps A => by
  cases d with
  | ref k =>
    cases ps with
    | nil => exact A.elim
    | @cons y ys dy dys h t =>
      cases t with
      | cons _ _ => exact A.elim
      | nil =>
        have A2 : After (rD K) K I m H W Q (match c[k]? with
          | some (.lst xs) => if xs.length < sizeLine then .ok .non (c.set k (.lst (xs ++ [dy]))) else .stuck
          | _ => .stuck) := A
        cases q : c[k]? with
        | none => rw [q] at A2; exact A2.elim
        | some x =>
          rw [q] at A2
          cases x with
          | lst xs =>
            cases p with
            | @ref _ a hm =>
              obtain ⟨_, ws, h1, h2⟩ := R.cell k a _ hm q
              by_cases hz : xs.length < sizeLine
              · have A3 : After (rD K) K I m H W Q (if xs.length < sizeLine then .ok .non (c.set k (.lst (xs ++ [dy]))) else .stuck) := A2
                rw [if_pos hz] at A3
                obtain ⟨R2, E2⟩ := R.put hm q (h2.append (.cons h .nil))
                exact ⟨a, ws, y, rfl, rfl, h1, by rw [h2.length]; exact hz, A3 _ _ _ _ E2 R2 .non⟩
              · have A3 : After (rD K) K I m H W Q (if xs.length < sizeLine then .ok .non (c.set k (.lst (xs ++ [dy]))) else .stuck) := A2
                rw [if_neg hz] at A3
                exact A3.elim
          | _ => exact A2.elim
  | _ => exact A.elim
end
/-! ### if (x := e) op f: -/
section
variable {X : Cx} {W : WX} {a b : Expr} {pos p p2 p3 : Pos} {f g : MS}
def sIfNm (i : Nat) (h : D → D → Cs → R D) (fa fb : ME) (f g : MS) : MS := fun l c => (fa l c).seq l fun x c1 => (fb (l.set i (some x)) c1).seq (l.set i (some x)) fun y c2 => (h x y c2).seq (l.set i (some x)) fun z c3 => match z with
  | .bl true => f (l.set i (some x)) c3
  | .bl false => g (l.set i (some x)) c3
  | _ => .stuck
theorem ms_ifNm {i : Nat} {x : Str} {op : CmpOp} {r : R2} {h : D → D → Cs → R D} {fa fb : ME} {sa sb : List Stmt} (hN : X.N.Nodup) (hi : X.N[i]? = some x) (hx : Loc X.env.scope x) (ho : OpR X (compareOp op) r) (hs : OpS X.K r h) (ha : PE X a (rdE X.K W fa)) (hb : PE X b (rdE X.K W fb))
    (hf : PSs X sa (rdS X.K W f)) (hg : PSs X sb (rdS X.K W g)) (hm : behindInMarks op b = false := by first | exact nomark _ | rfl) (hfn : X.fn x = true ∨ X.env.scope.names.lookup x = some .local := by first | exact .inl rfl | exact .inr rfl | assumption) :
    PS X (.If (.Compare (.NamedExpr (.Name x p) a p2) [op] [b] p3) sa sb pos) (rdS X.K W (sIfNm i h fa fb f g)) :=
  PSi (ps_ifW (ptw_cmp ho (pew_named hN hi hx (pew_of ha) hfn) hb hm) hf hg) fun D σ H ⟨I, m, l, c, R, L, A⟩ =>
    ⟨I, m, l, c, R, L, After.mono (AfterS.seq (rep := rD X.K) L A) fun v1 H1 ⟨I1, m1, c1, d1, E1, R1, p1, A1⟩ => by
      have L1 := (L.ext E1).set i p1
      refine ⟨I1, m1, _, c1, R1, L1, After.mono (AfterS.seq (rep := rD X.K) L1 A1) fun v2 H2 ⟨I2, m2, c2, d2, E2, R2, p2, A2⟩ => ?_⟩
      have L2 := L1.ext E2
      refine hs I2 H2 m2 c2 _ _ _ _ (fun cls dd H' => W cls dd (σ.set i (some v1)) H') _ R2 (Rep.ext p1 E2) p2 (After.mono (AfterS.seq (rep := rD X.K) L2 A2) fun v3 H3 ⟨I3, m3, c3, d3, E3, R3, p3, A3⟩ => ?_)
      cases p3 with
      | bl k =>
        refine ⟨k, rfl, ?_⟩
        cases k with
        | true => exact (if_pos rfl).mpr ⟨I3, m3, _, c3, R3, L2.ext E3, A3⟩
        | false => exact (if_neg Bool.false_ne_true).mpr ⟨I3, m3, _, c3, R3, L2.ext E3, A3⟩
      | _ => exact A3.elim⟩
end
/-! ### defs with defaults -/
section
variable {X : Cx} {W : WX} {k n : Nat} {f : Addr} {fd : FuncData} {ps ks : List Str} {g : List D → Cs → R D} {x : Str} {p pos : Pos} {e : Expr} {es : List Expr} {ga gk : MA}
/-- f(e, ..), defaults fill up -/
def mCBd (g : List D → Cs → R D) (n : Nat) (df : List D) (t : MA) : ME := fun l c => (t l c).bind fun xs c1 => if xs.length = n then g (xs ++ df) c1 else .stuck
/-- f(e, .., k = v, ..) -/
def mCBk (g : List D → Cs → R D) (gd : List D → List D → List D) (n j : Nat) (t tk : MA) : ME := fun l c => (t l c).bind fun xs c1 => (tk l c1).bind fun ys c2 => if xs.length = n ∧ ys.length = j then g (gd xs ys) c2 else .stuck
end
end L2.Mi
namespace L2.Mi
open PySem PySem.Spec PyProof.Rows L2
/-! ### s.index(y), found -/
section
variable {X : Cx} {K : PySem.W.Frag}
end
end L2.Mi

/-! own exceptions whose __init__ says super().__init__(text), self.f = p -/
namespace PySem.Mxe
open PySem PySem.W PySem.Calls PyProof.Rows PySem.Spec
open Builtin Builtin.ObjectAttr
section
variable {prog : Program} {w : World} {A : Around} {E : Value → Shared → Prop} {R : Result → Shared → Prop} {hp : Heap} {g : Array GenState} {d : Drawn} {t : Nat} {os : OsState}
end
end PySem.Mxe

namespace L2.Mi
open PySem PySem.Spec PyProof.Rows L2

/-! ### own exceptions: made and raised -/
section
variable {X : Cx} {W : WX} {n x f : Str} {e : Expr} {te : TE} {fa : ME} {p pos : Pos}
end

/-! ### try: several clauses, with and without a name -/
inductive HdT where
  | cl (c : Value) (as : Option Nat) (ts : Addr → Value → Option Addr → TS)
  | stop
section
variable {X : Cx} {body : List Stmt} {h₀ : ExceptHandler} {hds : List ExceptHandler} {l : List HdT} {pos : Pos} {tb : WX → TS} {Wout : WX}
end

/-! ### try over values -/
inductive HE where
  | cl (c : Str) (as : Option Nat) (f : Ex → MS)
  | stop
def wipe (i : Nat) (r : RS) : RS := match r with
  | .go (.nx l) c => .go (.nx (l.set i none)) c
  | .go (.bk l) c => .go (.bk (l.set i none)) c
  | .go (.ct l) c => .go (.ct (l.set i none)) c
  | .go (.rt d) c => .go (.rt d) c
  | _ => .stuck
theorem Locs.setN {K : PySem.W.Frag} {I : Hp} {m : List Addr} {σ : St} {l : Ls} (i : Nat) (w : Option V) (h : Locs K I m σ l) : Locs K I m (σ.set i w) (l.set i none) := by
  refine ⟨by simp [h.len], fun j d e => ?_⟩
  by_cases hj : i = j
  · subst hj
    by_cases hl : i < l.length
    · rw [List.getElem?_set_self hl] at e
      cases e
    · rw [List.getElem?_eq_none (by simpa using hl)] at e
      cases e
  · rw [List.getElem?_set_ne hj] at e ⊢
    exact h.at_ j d e
section
variable {X : Cx} {ns : List Str} {hds : List ExceptHandler} {hes : List HE}
end

/-! ### a field of the caught exception -/
theorem RepF.look {K : PySem.W.Frag} {I : Hp} {m : List Addr} {f : Str} {d : D} : ∀ {vs : List (Str × V)} {ds : List (Str × D)}, RepF K I m vs ds → ds.lookup f = some d → ∃ v, vs.lookup f = some v ∧ Rep K I m v d
  | _, _, .nil, e => by cases e
  | _, _, .cons (k := k) h t, e => by
    rw [List.lookup_cons] at e ⊢
    cases q : f == k with
    | true => rw [q] at e; cases e; exact ⟨_, rfl, h⟩
    | false => rw [q] at e; exact RepF.look t e
end L2.Mi

/-! instances: fields, making, methods, properties -/
namespace L2.Mi
open PySem PySem.Spec PyProof.Rows L2

def insOf (d : D) (c : Cs) : Option (Str × List (Str × D)) := match d with
  | .obj n fs => some (n, fs)
  | .ref k => match c[k]? with
    | some (.ins n fs) => some (n, fs)
    | some (.frz (.obj n fs)) => some (n, fs)
    | _ => none
  | _ => none
section
variable {K : PySem.W.Frag} {I H : Hp} {m : List Addr} {c : Cs}
theorem ins_at {v : V} {d : D} {n : Str} {fs : List (Str × D)} (R : Rel K I H m c) (p : Rep K I m v d) (e : insOf d c = some (n, fs)) : ∃ (a C dx : Addr) (vs : List (Str × V)), v = .ref a ∧ NamV K n (.ref C) ∧ H a = some (.ins C dx vs) ∧ RepF K I m vs fs := by
  cases p with
  | @obj a C dx n' vs ds hn h r => cases e; exact ⟨a, C, dx, vs, rfl, hn, R.same _ _ h, r⟩
  | @ref k a q =>
    have e : (match c[k]? with
      | some (.ins n fs) => some (n, fs)
      | some (.frz (.obj n fs)) => some (n, fs)
      | _ => none) = some (n, fs) := e
    cases z : c[k]? with
    | none => rw [z] at e; cases e
    | some x =>
      rw [z] at e
      have hc := R.cell k a x q z
      cases x with
      | ins n' ds =>
        cases e
        obtain ⟨_, dx, vs, _, _, _, ⟨C, hn, hH⟩, r⟩ := hc
        exact ⟨a, C, dx, vs, rfl, hn, hH, r⟩
      | frz d =>
        cases d with
        | obj n' ds =>
          cases e
          obtain ⟨_, hr⟩ := hc
          cases hr with
          | obj hn h r => exact ⟨a, _, _, _, rfl, hn, R.same _ _ h, r⟩
        | _ => cases e
      | _ => cases e
  | _ => cases e
theorem RepF.lookN {f : Str} : ∀ {vs : List (Str × V)} {ds : List (Str × D)}, RepF K I m vs ds → ds.lookup f = none → vs.lookup f = none
  | _, _, .nil, _ => rfl
  | _, _, .cons (k := k) h t, e => by
    rw [List.lookup_cons] at e ⊢
    cases q : f == k with
    | true => rw [q] at e; cases e
    | false => rw [q] at e; exact RepF.lookN t e
def putFD (f : Str) (d : D) : List (Str × D) → List (Str × D)
  | [] => [(f, d)]
  | (g, x) :: r => if g = f then (g, d) :: r else (g, x) :: putFD f d r
theorem RepF.put {f : Str} {v : V} {d : D} (p : Rep K I m v d) : ∀ {vs : List (Str × V)} {ds : List (Str × D)}, RepF K I m vs ds → RepF K I m (putF f v vs) (putFD f d ds)
  | _, _, .nil => .cons p .nil
  | _, _, .cons (k := k) h t => by
    unfold putF putFD
    by_cases e : k = f
    · rw [if_pos e, if_pos e]; exact .cons p t
    · rw [if_neg e, if_neg e]; exact .cons h (RepF.put p t)
theorem RepF.length : ∀ {vs : List (Str × V)} {ds : List (Str × D)}, RepF K I m vs ds → vs.length = ds.length
  | _, _, .nil => rfl
  | _, _, .cons _ t => congrArg (· + 1) (RepF.length t)
/-- a new cell of any kind -/
theorem Rel.pushC (r : Rel K I H m c) {p : Addr} (np : H p = none) {o : HO} {x : Cell} (q : CellAt K I (upd H p o) (m ++ [p]) p x) : Rel K I (upd H p o) (m ++ [p]) (c ++ [x]) ∧ Ext I m H I (m ++ [p]) (upd H p o) := by
  have sH : Same H (upd H p o) := fun b u e => by rw [upd_ne (ne_of_none e np)]; exact e
  have hp := pre_app m p
  have nm := r.fresh np
  refine ⟨⟨r.same.trans sH, by simp [r.len], fun i j a h1 h2 => ?_, fun k a x h1 h2 => ?_, r.tabs.upHm (nt_none np)⟩, Same.refl I, hp, fun b o h1 hT h2 h3 => ⟨sH _ _ h1, h2, ?_⟩⟩
  · rcases Nat.lt_or_ge i m.length with hi | hi
    · rcases Nat.lt_or_ge j m.length with hj | hj
      · rw [List.getElem?_append_left hi] at h1
        rw [List.getElem?_append_left hj] at h2
        exact r.nd i j a h1 h2
      · rw [List.getElem?_append_left hi] at h1
        rw [List.getElem?_append_right hj] at h2
        have e : a = p := by
          cases z : j - m.length with
          | zero => rw [z] at h2; simpa using h2.symm
          | succ n => rw [z] at h2; simp at h2
        exact absurd (List.mem_of_getElem? h1) (e ▸ nm)
    · rcases Nat.lt_or_ge j m.length with hj | hj
      · rw [List.getElem?_append_left hj] at h2
        rw [List.getElem?_append_right hi] at h1
        have e : a = p := by
          cases z : i - m.length with
          | zero => rw [z] at h1; simpa using h1.symm
          | succ n => rw [z] at h1; simp at h1
        exact absurd (List.mem_of_getElem? h2) (e ▸ nm)
      · have hi' := (List.getElem?_eq_some_iff.mp h1).1
        have hj' := (List.getElem?_eq_some_iff.mp h2).1
        simp at hi' hj'
        omega
  · rcases Nat.lt_or_ge k m.length with hk | hk
    · rw [List.getElem?_append_left hk] at h1
      rw [List.getElem?_append_left (by rw [← r.len]; exact hk)] at h2
      have q := r.cell k a x h1 h2
      cases x with
      | lst es =>
        obtain ⟨q1, ws, q2, q3⟩ := q
        exact ⟨q1, ws, sH _ _ q2, q3.mono (Same.refl I) hp⟩
      | dct es =>
        obtain ⟨q1, ws, q2, q3⟩ := q
        exact ⟨q1, ws, sH _ _ q2, q3.mono (Same.refl I) hp⟩
      | dT es =>
        obtain ⟨q1, ws, q2, q3⟩ := q
        exact ⟨q1, ws, sH _ _ q2, q3.mono (Same.refl I) hp⟩
      | dN P0 w0 es =>
        obtain ⟨q1, ws, q2, q3⟩ := q
        exact ⟨q1, ws, sH _ _ q2, q3.mono (Same.refl I) hp⟩
      | dTz es => exact q.imp (fun _ y => y.imp fun _ y => ⟨y.1, y.2.mono (Same.refl I) hp⟩)
      | ins C es =>
        obtain ⟨q1, dx, ws, q2, q3, q4, q5, q6⟩ := q
        exact ⟨q1, dx, ws, q2, fun z => by
          rcases List.mem_append.mp z with z | z
          · exact q3 z
          · simp only [List.mem_singleton] at z
            exact ne_of_none q4 np z, sH _ _ q4, q5.imp fun _ z => ⟨z.1, sH _ _ z.2⟩, q6.mono (Same.refl I) hp⟩
      | frz d => exact ⟨q.1, q.2.mono (Same.refl I) hp⟩
    · have hk' := (List.getElem?_eq_some_iff.mp h1).1
      simp at hk'
      have e : k = m.length := by omega
      subst e
      rw [List.getElem?_append_right (Nat.le_refl _)] at h1
      rw [r.len, List.getElem?_append_right (Nat.le_refl _)] at h2
      simp at h1 h2
      subst h1; subst h2
      exact q
  · intro z
    rcases List.mem_append.mp z with z | z
    · exact h3 z
    · simp only [List.mem_singleton] at z
      exact ne_of_none h1 np z
/-- a new instance -/
theorem Rel.pushI (r : Rel K I H m c) {x dx C : Addr} {n : Str} (nx : H x = none) (nd : H dx = none) (ne : dx ≠ x) (hn : NamV K n (.ref C)) :
    Rel K I (upd (upd H dx (.own x)) x (.ins C dx [])) (m ++ [x]) (c ++ [.ins n []]) ∧ Ext I m H I (m ++ [x]) (upd (upd H dx (.own x)) x (.ins C dx [])) := by
  have r1 : Rel K I (upd H dx (.own x)) m c := r.sideO (fun y z => by rw [nd] at z; cases z) (fun o z => by rw [nd] at z; first | (cases z; done) | (cases z; exact ⟨(fun _ q => nomatch q), (fun _ q => nomatch q)⟩)) (r.same.free nd) (r.fresh nd)
  have nx1 : upd H dx (.own x) x = none := by rw [upd_ne (Ne.symm ne)]; exact nx
  have nxm := r.fresh nx
  obtain ⟨r2, e2⟩ := r1.pushC (o := .ins C dx []) (x := .ins n []) nx1 ⟨r.same.free nx, dx, [], r.same.free nd, fun z => by
    rcases List.mem_append.mp z with z | z
    · exact r.fresh nd z
    · simp only [List.mem_singleton] at z; exact ne z, by rw [upd_ne ne, upd_same], ⟨C, hn, upd_same⟩, .nil⟩
  refine ⟨r2, (Ext.trans ⟨Same.refl I, Pre.refl m, fun b o h1 hT h2 h3 => ⟨by rw [upd_ne (ne_of_none h1 nd)]; exact h1, h2, h3⟩⟩ e2)⟩
/-- a field is stored -/
theorem Rel.putI (r : Rel K I H m c) {k : Nat} {a C dx : Addr} {n : Str} {vs0 vs : List (Str × V)} {fs0 fs : List (Str × D)} (hm : m[k]? = some a) (hc : c[k]? = some (.ins n fs0)) (hH : H a = some (.ins C dx vs0)) (q : RepF K I m vs fs) :
    Rel K I (upd H a (.ins C dx vs)) m (c.set k (.ins n fs)) ∧ Ext I m H I m (upd H a (.ins C dx vs)) := by
  obtain ⟨n1, dx', ws, d1, d2, d3, ⟨C', hn, hH'⟩, n3⟩ := r.cell k a _ hm hc
  rw [hH] at hH'
  cases hH'
  have da : dx ≠ a := fun z => by rw [z, hH] at d3; cases d3
  refine ⟨⟨fun b o e => ?_, by simp [r.len], r.nd, fun j b x h1 h2 => ?_, r.tabs.upH (nt_some hH ⟨(fun _ z => nomatch z), (fun _ z => nomatch z)⟩)⟩, Same.refl I, Pre.refl m, fun b o h1 hT h2 h3 => ⟨?_, h2, h3⟩⟩
  · rw [upd_ne (ne_of_none e n1)]
    exact r.same _ _ e
  · by_cases hj : k = j
    · subst hj
      rw [List.getElem?_set_self (List.getElem?_eq_some_iff.mp hc).1] at h2
      rw [hm] at h1
      cases h1; cases h2
      exact ⟨n1, dx, vs, d1, d2, by rw [upd_ne da]; exact d3, ⟨C, hn, upd_same⟩, q⟩
    · rw [List.getElem?_set_ne hj] at h2
      have nb : b ≠ a := fun e => hj (r.nd k j a hm (e ▸ h1))
      have q := r.cell j b x h1 h2
      cases x with
      | lst es =>
        obtain ⟨q1, ws, q2, q3⟩ := q
        exact ⟨q1, ws, by rw [upd_ne nb]; exact q2, q3⟩
      | dct es =>
        obtain ⟨q1, ws, q2, q3⟩ := q
        exact ⟨q1, ws, by rw [upd_ne nb]; exact q2, q3⟩
      | dT es =>
        obtain ⟨q1, ws, q2, q3⟩ := q
        exact ⟨q1, ws, by rw [upd_ne nb]; exact q2, q3⟩
      | dN P0 w0 es =>
        obtain ⟨q1, ws, q2, q3⟩ := q
        exact ⟨q1, ws, by rw [upd_ne nb]; exact q2, q3⟩
      | dTz es => exact q
      | ins C2 es =>
        obtain ⟨q1, dx2, ws, q2, q3, q4, q5, q6⟩ := q
        exact ⟨q1, dx2, ws, q2, q3, by rw [upd_ne (ne_of q4 hH (by intro z; cases z))]; exact q4, q5.imp fun _ z => ⟨z.1, by rw [upd_ne nb]; exact z.2⟩, q6⟩
      | frz d => exact q
  · rw [upd_ne (fun (e : b = a) => h3 (by rw [e]; exact List.mem_of_getElem? hm))]
    exact h1
/-- an instance does not change any more -/
theorem Rel.freezeI (r : Rel K I H m c) {k : Nat} {a : Addr} {n : Str} {fs : List (Str × D)} (hm : m[k]? = some a) (hc : c[k]? = some (.ins n fs)) : ∃ I' : Hp, Rel K I' H m (c.set k (.frz (.obj n fs))) ∧ Ext I m H I' m H ∧ Rep K I' m (.ref a) (.obj n fs) := by
  obtain ⟨n1, dx, ws, d1, d2, d3, ⟨C, hn, hH⟩, n3⟩ := r.cell k a _ hm hc
  have sI : Same I (upd I a (.ins C dx ws)) := fun b o e => by rw [upd_ne (ne_of_none e n1)]; exact e
  refine ⟨upd I a (.ins C dx ws), ⟨fun b o e => ?_, by simp [r.len], r.nd, fun j b x h1 h2 => ?_, r.tabs.upI (nt_some hH ⟨(fun _ z => nomatch z), (fun _ z => nomatch z)⟩)⟩, ⟨sI, Pre.refl m, fun b o h1 hT h2 h3 => ⟨h1, ?_, h3⟩⟩, .obj hn upd_same (n3.mono sI (Pre.refl m))⟩
  · by_cases hb : b = a
    · subst hb
      rw [upd_same] at e
      cases e
      exact hH
    · rw [upd_ne hb] at e
      exact r.same _ _ e
  · by_cases hj : k = j
    · subst hj
      rw [List.getElem?_set_self (List.getElem?_eq_some_iff.mp hc).1] at h2
      rw [hm] at h1
      cases h1; cases h2
      exact ⟨by rw [upd_same]; exact nofun, .obj hn upd_same (n3.mono sI (Pre.refl m))⟩
    · rw [List.getElem?_set_ne hj] at h2
      have nb : b ≠ a := fun e => hj (r.nd k j a hm (e ▸ h1))
      have q := r.cell j b x h1 h2
      cases x with
      | lst es =>
        obtain ⟨q1, ws, q2, q3⟩ := q
        exact ⟨by rw [upd_ne nb]; exact q1, ws, q2, q3.mono sI (Pre.refl m)⟩
      | dct es =>
        obtain ⟨q1, ws, q2, q3⟩ := q
        exact ⟨by rw [upd_ne nb]; exact q1, ws, q2, q3.mono sI (Pre.refl m)⟩
      | dT es =>
        obtain ⟨q1, ws, q2, q3⟩ := q
        exact ⟨by rw [upd_ne nb]; exact q1, ws, q2, q3.mono sI (Pre.refl m)⟩
      | dN P0 w0 es =>
        obtain ⟨q1, ws, q2, q3⟩ := q
        exact ⟨by rw [upd_ne nb]; exact q1, ws, q2, q3.mono sI (Pre.refl m)⟩
      | dTz es => exact q.imp (fun _ y => y.imp fun _ y => ⟨sI _ _ y.1, y.2.mono sI (Pre.refl m)⟩)
      | ins C2 es =>
        obtain ⟨q1, dx2, ws, q2, q3, q4, q5, q6⟩ := q
        exact ⟨by rw [upd_ne nb]; exact q1, dx2, ws, by rw [upd_ne (ne_of q4 hH (by intro z; cases z))]; exact q2, q3, q4, q5, q6.mono sI (Pre.refl m)⟩
      | frz d => exact ⟨by rw [upd_ne nb]; exact q.1, q.2.mono sI (Pre.refl m)⟩
  · rw [upd_ne (fun (e : b = a) => h3 (by rw [e]; exact List.mem_of_getElem? hm))]
    exact h2
end

/-! ### fields -/
def FldK (K : PySem.W.Frag) (n f : Str) : Prop := ∃ C, NamV K n (.ref C) ∧ Cls K C ∧ NoAttr K C f
def fldO (ns : List Str) (f : Str) (n : Str) (fs : List (Str × D)) (c : Cs) : R D := if n ∈ ns then (match fs.lookup f with
    | some d => .ok d c
    | none => .stuck) else .stuck
def fldR (ns : List Str) (f : Str) (x : D) (c : Cs) : R D := match insOf x c with
  | some (n, fs) => fldO ns f n fs c
  | none => .stuck
def mFld (ns : List Str) (f : Str) (a : ME) : ME := fun l c => (a l c).bind fun x c1 => fldR ns f x c1
section
variable {X : Cx} {W : WX} {e o : Expr} {es : List Expr} {f : Str} {fa fo : ME} {ga : MA} {ns : List Str} {pos p p' apos : Pos}
theorem me_fld (hT : ∀ n ∈ ns, FldK X.K n f) (ha : PE X e (rdE X.K W fa)) (hb : attributeBase e f X.env (eval e X.env) = eval e X.env := by rfl) : PE X (.Attribute e f pos) (rdE X.K W (mFld ns f fa)) :=
  PEi (pe_fld ha hb) fun σ H Q ⟨I, m, l, c, R, L, A⟩ => ⟨I, m, l, c, R, L, After.mono (After.bind (rep := rD X.K) A) fun v1 H1 ⟨I1, m1, c1, d1, E1, R1, p1, A1⟩ => by
    have A1 : After (rD X.K) X.K I1 m1 H1 (fun cls dd H' => W cls dd σ H') Q (fldR ns f d1 c1) := A1
    unfold fldR at A1
    cases q : insOf d1 c1 with
    | none => rw [q] at A1; exact A1.elim
    | some nf =>
      obtain ⟨n, fs⟩ := nf
      rw [q] at A1
      have A1 : After (rD X.K) X.K I1 m1 H1 (fun cls dd H' => W cls dd σ H') Q (fldO ns f n fs c1) := A1
      unfold fldO at A1
      by_cases hn : n ∈ ns
      · rw [if_pos hn] at A1
        cases z : fs.lookup f with
        | none => rw [z] at A1; exact A1.elim
        | some d =>
          rw [z] at A1
          obtain ⟨a, C, dx, vs, rfl, h1, h2, h3⟩ := ins_at R1 p1 q
          obtain ⟨C', k1, k2, k3⟩ := hT n hn
          cases h1.one k1
          obtain ⟨v, e1, e2⟩ := h3.look z
          exact ⟨a, C, dx, vs, v, rfl, h2, k2, k3, e1, A1.here R1 e2⟩
      · rw [if_neg hn] at A1
        exact A1.elim⟩
/-- o.f = e -/
def fldS (ns : List Str) (f : Str) (d x : D) (l : Ls) (c : Cs) : RS := match x with
  | .ref k => match c[k]? with
    | some (.ins n fs) => if n ∈ ns ∧ fs.length < 900 then .go (.nx l) (c.set k (.ins n (putFD f d fs))) else .stuck
    | _ => .stuck
  | _ => .stuck
def sFldM (ns : List Str) (f : Str) (o a : ME) : MS := fun l c => (a l c).seq l fun d c1 => (o l c1).seq l fun x c2 => fldS ns f d x l c2
theorem ms_fld (hT : ∀ n ∈ ns, FldK X.K n f) (ho : PE X o (rdE X.K W fo)) (hv : PE X e (rdE X.K W fa)) (hs : swapsWith e (some (.Attribute o f p')) pos.line X.env = pure false := by rfl) : PS X (.Assign [.Attribute o f p'] e pos) (rdS X.K W (sFldM ns f fo fa)) :=
  PSi (ps_fld ho hv hs) fun D σ H ⟨I, m, l, c, R, L, A⟩ => ⟨I, m, l, c, R, L, After.mono (AfterS.seq (rep := rD X.K) L A) fun v1 H1 ⟨I1, m1, c1, d1, E1, R1, p1, A1⟩ =>
    ⟨I1, m1, l, c1, R1, L.ext E1, After.mono (AfterS.seq (rep := rD X.K) (L.ext E1) A1) fun v2 H2 ⟨I2, m2, c2, d2, E2, R2, p2, A2⟩ => by
      have L2 := (L.ext E1).ext E2
      cases p2 with
      | @ref k a hk =>
        have A2 : AfterS X.K I2 m2 H2 W D (match c2[k]? with
          | some (.ins n fs) => if n ∈ ns ∧ fs.length < 900 then .go (.nx l) (c2.set k (.ins n (putFD f d1 fs))) else .stuck
          | _ => .stuck) := A2
        cases q : c2[k]? with
        | none => rw [q] at A2; exact A2.elim
        | some x =>
          rw [q] at A2
          cases x with
          | ins n fs =>
            have A2 : AfterS X.K I2 m2 H2 W D (if n ∈ ns ∧ fs.length < 900 then .go (.nx l) (c2.set k (.ins n (putFD f d1 fs))) else .stuck) := A2
            by_cases hn : n ∈ ns ∧ fs.length < 900
            · rw [if_pos hn] at A2
              obtain ⟨_, dx, vs, _, _, _, ⟨C, h1, h2⟩, h3⟩ := R2.cell k a _ hk q
              obtain ⟨C', k1, k2, k3⟩ := hT n hn.1
              cases h1.one k1
              refine ⟨a, C, dx, vs, rfl, h2, k2, k3, by rw [h3.length]; omega, ?_⟩
              obtain ⟨R3, E3⟩ := R2.putI hk q h2 (h3.put (f := f) (Rep.ext p1 E2))
              exact A2 I2 m2 _ σ E3 R3 (L2.ext E3)
            · rw [if_neg hn] at A2; exact A2.elim
          | _ => exact A2.elim
      | _ => exact A2.elim⟩⟩
end

/-! ### making -/
structure MakK (P : Program) (w : World) (K : PySem.W.Frag) (mg : Str → Option Value) (base : Heap) (n : Str) (g : List D → Cs → R D) (k : Nat) : Prop where
  ex : ∃ (C f : Addr) (fd : FuncData) (ps : List Str), PySem.W.nsIn K mainGlobals n = some (some (.ref C)) ∧ mg n = some (.ref C) ∧ Mk K C f ∧ GFn P w K mg base k f fd ps g ∧ Binds K fd ps []
def mkR (n : Str) (g : List D → Cs → R D) (ds : List D) (c : Cs) : R D := (g (.ref c.length :: ds) (c ++ [.ins n []])).bind fun r c2 => match r with
  | .non => .ok (.ref c.length) c2
  | _ => .stuck
theorem make_guards {A : Around} {C : Addr} {us : List Value} {kw : List (Str × Value)} (h : A.guards = some []) : (A.under (.builtin "type.__call__" ⟨.ref C :: us, kw⟩)).guards = some [] := by
  first | exact h | simpa [Around.under, Code.guards, pushGuards, Code.isGuard, guardIds] using h
section
variable {X : Cx} {W : WX} {e o : Expr} {es : List Expr} {f n x mm : Str} {fa fo : ME} {ga : MA} {g : List D → Cs → R D} {k : Nat} {pos p p' apos : Pos}
theorem run_makeG {pins : List (Addr × Obj)} {σ : St} {H : Hp} {s : Shared} {Q : VK} {us : List Value} {vs : List V} {I : Hp} {m : List Addr} {c : Cs} {ds : List D} {C fi : Addr} {fd : FuncData} {ps : List Str} (M : Mk X.K C fi) (hn : NamV X.K n (.ref C)) (F : GFn X.prog X.w X.K X.mg X.base k fi fd ps g)
    (hr : Room (k + 1) X.A) (hgd : X.A.guards = some []) (hb : Binds X.K fd ps []) (tk : Takes X W) (J : Inv X pins σ H s) (r : Vals vs us) (R : Rel X.K I H m c) (p : Reps X.K I m vs ds) (a : After (rD X.K) X.K I m H (fun cls d H' => W cls d σ H') Q (mkR n g ds c)) :
    wpAny (model X.prog X.w) X.A (call (.ref C) us) (EP X pins σ Q) X.xe s := by
  have nx := J.hok.fresh (Nat.le_succ s.heap.objs.size)
  have ndx := J.hok.fresh (Nat.le_refl s.heap.objs.size)
  have J2 := Inv.made (C := C) J
  obtain ⟨R2, E2⟩ := R.pushI nx ndx (Nat.ne_of_lt (Nat.lt_succ_self _)) hn
  have hx : (m ++ [s.heap.objs.size + 1])[c.length]? = some (s.heap.objs.size + 1) := by
    rw [← R.len, List.getElem?_append_right (Nat.le_refl _), Nat.sub_self]
    rfl
  have p2 : Reps X.K I (m ++ [s.heap.objs.size + 1]) (V.ref (s.heap.objs.size + 1) :: vs) (.ref c.length :: ds) := .cons (.ref hx) (p.ext E2)
  have r2 : Vals (V.ref (s.heap.objs.size + 1) :: vs) (Value.ref (s.heap.objs.size + 1) :: us) := .cons rfl r
  have a1 : After (rD X.K) X.K I (m ++ [s.heap.objs.size + 1]) (upd (upd H s.heap.objs.size (.own (s.heap.objs.size + 1))) (s.heap.objs.size + 1) (.ins C s.heap.objs.size [])) (fun cls d H' => W cls d σ H') (fun v H' => v = .non ∧ Q (.ref (s.heap.objs.size + 1)) H') (g (.ref c.length :: ds) (c ++ [.ins n []])) :=
    After.mono (After.bind (rep := rD X.K) (After.ext E2 a)) fun v1 H1 ⟨I1, m1, c1, d1, E1, R1, p1, A1⟩ => by
      cases p1 with
      | non => exact ⟨rfl, A1.here R1 (.ref (E1.pre _ _ hx))⟩
      | _ => exact A1.elim
  have hl0 := F.len _ _ (after_nonstuck a1)
  have hl : (Value.ref (s.heap.objs.size + 1) :: us).length = ps.length := by
    rw [← r2.length, p2.length]; exact hl0
  have hb2 : ∀ s', X.K.In s'.heap → BindsTo s' fd ⟨Value.ref (s.heap.objs.size + 1) :: us, []⟩ (ps.zip (Value.ref (s.heap.objs.size + 1) :: us)) := fun s' kin => by
    have z := hb s' (Value.ref (s.heap.objs.size + 1) :: us) kin (by rw [List.append_nil]; exact hl)
    rw [List.append_nil] at z
    exact z
  refine wpAny_call (make_map (f := fi) J.kIn M.makes M.init (beq_iff_eq.mp M.fn) (codeAny_mono (F.run _ X.stack _ _ ⟨Value.ref (s.heap.objs.size + 1) :: us, []⟩ (Value.ref (s.heap.objs.size + 1) :: us) _ _ (fun cls d H' => W cls d σ H') I _ _ _ (hr.make C us []) (make_guards hgd)
    (J2.env0.make C us []) (hb2 _ J2.kIn) r2 R2 p2 a1) fun r s' hq' => ?_))
  cases r with
  | error e => exact tk e s' (XE.of_call J2 (fun _ _ _ h => h) hq')
  | ok fl =>
    cases fl with
    | ret u =>
      obtain ⟨v, H', J3, rv, ev, q3⟩ := J2.after hq'
      subst ev
      exact ⟨rv, ⟨V.ref (s.heap.objs.size + 1), H', J3, rfl, q3⟩⟩
    | next => exact False.elim hq'
    | brk => exact False.elim hq'
    | cont => exact False.elim hq'
/-- n(e, ..) -/
def mMake (n : Str) (g : List D → Cs → R D) (t : MA) : ME := fun l c => (t l c).bind fun xs c1 => mkR n g xs c1
theorem me_make (T : MakK X.prog X.w X.K X.mg X.base n g k) (hr : Room (k + 1) X.A) (hgd : X.A.guards = some []) (hg : Gl X n) (tk : Takes X W) (ha : PA X (e :: es) (rdA X.K W ga))
    (hdb : (n == ("__debug__" : Str)) = false := by decide) (he : starEach (e :: es) X.env = (false, eval e X.env) :: starEach es X.env := by rfl) (hpl : (backTo pos (starEach es X.env)).any (·.1) = false := by rfl) :
    PE X (.Call (.Name n p) (e :: es) [] pos) (rdE X.K W (mMake n g ga)) := by
  obtain ⟨C, fi, fd, ps, nC, hm, M, F, hb⟩ := T.ex
  refine ⟨fun pins s σ H Q J ⟨I, m, l, c, R, L, A⟩ => ?_⟩
  refine wpAny_Call_Name_kw (ld_glob J hg hm ?_ hdb)
  refine PySem.W.callWith_K (h₀ := X.base) J.ok.mod.kin M.kp (thn (ha.run pos pins s σ H _ J ⟨I, m, l, c, R, L, After.bind (rep := rA X.K) A⟩) fun us s1 ⟨vs, H1, J1, r, I1, m1, c1, ds, E1, R1, p1, A1⟩ => ⟨J1.kIn, ?_⟩) he hpl
  exact run_makeG M (.inl nC) F hr hgd hb tk J1 r R1 p1 A1
/-- an instance that does not change from here on -/
def frzI (d : D) (c : Cs) : R D := match d with
  | .ref k => match c[k]? with
    | some (.ins n fs) => .ok (.obj n fs) (c.set k (.frz (.obj n fs)))
    | _ => .stuck
  | _ => .stuck
def mFrzI (a : ME) : ME := fun l c => (a l c).bind fun d c1 => frzI d c1
theorem me_frzI (h : PE X e (rdE X.K W fa)) : PE X e (rdE X.K W (mFrzI fa)) := PEi h fun σ H Q ⟨I, m, l, c, R, L, A⟩ =>
  ⟨I, m, l, c, R, L, After.mono (After.bind (rep := rD X.K) A) fun v1 H1 ⟨I1, m1, c1, d1, E1, R1, p1, A1⟩ => by
    cases p1 with
    | @ref k a hk =>
      have A2 : After (rD X.K) X.K I1 m1 H1 (fun cls dd H' => W cls dd σ H') Q (match c1[k]? with
        | some (.ins n fs) => .ok (.obj n fs) (c1.set k (.frz (.obj n fs)))
        | _ => .stuck) := A1
      cases q : c1[k]? with
      | none => rw [q] at A2; exact A2.elim
      | some x =>
        rw [q] at A2
        cases x with
        | ins n fs =>
          obtain ⟨I2, R2, E2, p2⟩ := R1.freezeI hk q
          exact A2 I2 m1 H1 _ E2 R2 p2
        | _ => exact A2.elim
    | _ => exact A1.elim⟩

/-! ### methods -/
structure MthK (P : Program) (w : World) (K : PySem.W.Frag) (mg : Str → Option Value) (base : Heap) (n mm : Str) (g : List D → Cs → R D) (k : Nat) : Prop where
  ex : ∃ (C f : Addr) (fd : FuncData) (ps : List Str), NamV K n (.ref C) ∧ Cls K C ∧ Meth K C mm f ∧ GFn P w K mg base k f fd ps g ∧ Binds K fd ps []
abbrev Tbl := List (Str × (List D → Cs → R D))
theorem tbl_mem {β : Type} {n : Str} {g : β} : ∀ {t : List (Str × β)}, t.lookup n = some g → (n, g) ∈ t
  | (a, b) :: t, h => by
    rw [List.lookup_cons] at h
    cases q : n == a with
    | true => rw [q] at h; cases h; rw [beq_iff_eq.mp q]; exact List.mem_cons_self
    | false => rw [q] at h; exact List.mem_cons_of_mem _ (tbl_mem h)
/-- the method of the receiver's class -/
def viaT {α : Type} (tbl : Tbl) (x : D) (c : Cs) (r : (List D → Cs → R D) → List (Str × D) → R α) : R α := match insOf x c with
  | some (n, fs) => match tbl.lookup n with
    | some g => r g fs
    | none => .stuck
  | none => .stuck
theorem via_read {α β : Type} {rep : Hp → List Addr → β → α → Prop} {K : PySem.W.Frag} {I H : Hp} {m : List Addr} {c : Cs} {W : XK} {Q : β → Hp → Prop} {tbl : Tbl} {d : D} {v : V} {r : (List D → Cs → R D) → List (Str × D) → R α} (R : Rel K I H m c) (p : Rep K I m v d)
    (A : After rep K I m H W Q (viaT tbl d c r)) : ∃ (a C dx : Addr) (vs : List (Str × V)) (n : Str) (fs : List (Str × D)) (g : List D → Cs → Mi.R D), v = .ref a ∧ NamV K n (.ref C) ∧ H a = some (.ins C dx vs) ∧ RepF K I m vs fs ∧ (n, g) ∈ tbl ∧ After rep K I m H W Q (r g fs) := by
  unfold viaT at A
  cases q : insOf d c with
  | none => rw [q] at A; exact A.elim
  | some nf =>
    obtain ⟨n, fs⟩ := nf
    rw [q] at A
    have A : After rep K I m H W Q (match tbl.lookup n with
      | some g => r g fs
      | none => .stuck) := A
    cases z : tbl.lookup n with
    | none => rw [z] at A; exact A.elim
    | some g =>
      rw [z] at A
      obtain ⟨a, C, dx, vs, e, h1, h2, h3⟩ := ins_at R p q
      exact ⟨a, C, dx, vs, n, fs, g, e, h1, h2, h3, tbl_mem z, A⟩
def mMeth (tbl : Tbl) (mm : Str) (o : ME) (t : MA) : ME := fun l c => (o l c).bind fun x c1 => viaT tbl x c1 fun g fs => match fs.lookup mm with
  | none => (t l c1).bind fun xs c2 => g (x :: xs) c2
  | some _ => .stuck
theorem me_meth {tbl : Tbl} {pl : Sem Bool} (hT : ∀ q ∈ tbl, MthK X.prog X.w X.K X.mg X.base q.1 mm q.2 k) (hr : Room k X.A) (hgd : X.A.guards = some []) (tk : Takes X W) (ho : PE X o (rdE X.K W fo)) (ha : PA X (e :: es) (rdA X.K W ga))
    (hst : starEach (e :: es) X.env = (false, eval e X.env) :: starEach es X.env := by rfl) (hpl : (backTo pos (starEach es X.env)).any (·.1) = false := by rfl)
    (ht : eval (.Call (.Attribute o mm apos) (e :: es) [] pos) X.env = (do
      let ov ← eval o X.env
      standAt apos.atName
      let (f, first) ← holding [ov] (getMethod ov mm pl)
      callWith pos f first (backTo pos (starEach (e :: es) X.env)) (backToKw pos (keywordEach [] X.env))) := by rfl) :
    PE X (.Call (.Attribute o mm apos) (e :: es) [] pos) (rdE X.K W (mMeth tbl mm fo ga)) := by
  refine ⟨fun pins s σ H Q J ⟨I, m, l, c, R, L, A⟩ => ?_⟩
  refine PySem.W.methodCall_KW (pl := pl) (thn (ho.run pins s σ H _ J ⟨I, m, l, c, R, L, After.bind (rep := rD X.K) A⟩) fun u s1 ⟨v, H1, J1, rv, I1, m1, c1, d1, E1, R1, p1, A1⟩ => ?_) ht
  obtain ⟨a, C, dx, vs, n, fs, g, rfl, h1, h2, h3, h4, A2⟩ := via_read R1 p1 A1
  obtain rfl : u = Value.ref a := rv
  obtain ⟨C', f', fd, ps, k1, k2, k3, F, hb⟩ := (hT _ h4).ex
  cases h1.one k1
  cases z : fs.lookup mm with
  | some d => rw [z] at A2; exact A2.elim
  | none =>
    rw [z] at A2
    refine getmeth_ok J1 h2 k2 k3 (h3.lookN z) ?_
    refine PySem.W.callWith_K (first := [.ref a]) (h₀ := X.base) J.ok.mod.kin k3.kp (thn (ha.run pos pins s1 σ H1 _ J1 ⟨I1, m1, l, c1, R1, L.ext E1, After.bind (rep := rA X.K) A2⟩) fun us s2 ⟨ws, H2, J2, r, I2, m2, c2, ds, E2, R2, p2, A3⟩ => ⟨J2.kIn, ?_⟩) hst hpl
    exact run_g (us := .ref a :: us) (vs := .ref a :: ws) F hr hgd hb tk J2 (.cons rfl r) R2 (.cons (Rep.ext p1 E2) p2) A3
theorem me_meth0 {tbl : Tbl} {pl : Sem Bool} (hT : ∀ q ∈ tbl, MthK X.prog X.w X.K X.mg X.base q.1 mm q.2 k) (hr : Room k X.A) (hgd : X.A.guards = some []) (tk : Takes X W) (ho : PE X o (rdE X.K W fo))
    (ht : eval (.Call (.Attribute o mm apos) [] [] pos) X.env = (do
      let ov ← eval o X.env
      standAt apos.atName
      let (f, first) ← holding [ov] (getMethod ov mm pl)
      callWith pos f first (backTo pos (starEach [] X.env)) (backToKw pos (keywordEach [] X.env))) := by rfl) :
    PE X (.Call (.Attribute o mm apos) [] [] pos) (rdE X.K W (mMeth tbl mm fo aNil)) := by
  refine ⟨fun pins s σ H Q J ⟨I, m, l, c, R, L, A⟩ => ?_⟩
  refine PySem.W.methodCall_KW (pl := pl) (thn (ho.run pins s σ H _ J ⟨I, m, l, c, R, L, After.bind (rep := rD X.K) A⟩) fun u s1 ⟨v, H1, J1, rv, I1, m1, c1, d1, E1, R1, p1, A1⟩ => ?_) ht
  obtain ⟨a, C, dx, vs, n, fs, g, rfl, h1, h2, h3, h4, A2⟩ := via_read R1 p1 A1
  obtain rfl : u = Value.ref a := rv
  obtain ⟨C', f', fd, ps, k1, k2, k3, F, hb⟩ := (hT _ h4).ex
  cases h1.one k1
  cases z : fs.lookup mm with
  | some d => rw [z] at A2; exact A2.elim
  | none =>
    rw [z] at A2
    refine getmeth_ok J1 h2 k2 k3 (h3.lookN z) ?_
    exact PySem.W.callWith_K0 (first := [.ref a]) J1.kIn k3.kp (run_g (us := [.ref a]) (vs := [.ref a]) F hr hgd hb tk J1 (.cons rfl .nil) R1 (.cons p1 .nil) A2)

/-! ### properties -/
end
end L2.Mi

/-! f-strings, dict cells, a written tuple's index -/
namespace L2.Mi
open PySem PySem.Spec PyProof.Rows L2
section
variable {X : Cx} {W : WX} {e o : Expr} {es : List Expr} {fa fo fi : ME} {pos p : Pos}
/-! ### f-strings -/
theorem me_js1 {f : ME} (h : PE X e (rdE X.K W f)) : PE X (.JoinedStr [e] pos) (rdE X.K W f) := pe_joined1 h

/-! ### index of a text in a written tuple of texts -/
/-! ### dicts as cells -/
theorem Rel.adoptC {K : PySem.W.Frag} {I H : Hp} {m : List Addr} {c : Cs} (r : Rel K I H m c) {p : Addr} (hm : p ∉ m) (hI : I p = none) (ho : ∀ x, H p ≠ some (.own x)) (hT : Nt H p) {x : Cell} (q : CellAt K I H (m ++ [p]) p x) : Rel K I H (m ++ [p]) (c ++ [x]) := by
  have hp := pre_app m p
  refine ⟨r.same, by simp [r.len], fun i j a h1 h2 => ?_, fun k a x h1 h2 => ?_, r.tabs.upm hT⟩
  · rcases Nat.lt_or_ge i m.length with hi | hi
    · rcases Nat.lt_or_ge j m.length with hj | hj
      · rw [List.getElem?_append_left hi] at h1
        rw [List.getElem?_append_left hj] at h2
        exact r.nd i j a h1 h2
      · rw [List.getElem?_append_left hi] at h1
        rw [List.getElem?_append_right hj] at h2
        have e : a = p := by
          cases z : j - m.length with
          | zero => rw [z] at h2; simpa using h2.symm
          | succ n => rw [z] at h2; simp at h2
        exact absurd (List.mem_of_getElem? h1) (e ▸ hm)
    · rcases Nat.lt_or_ge j m.length with hj | hj
      · rw [List.getElem?_append_left hj] at h2
        rw [List.getElem?_append_right hi] at h1
        have e : a = p := by
          cases z : i - m.length with
          | zero => rw [z] at h1; simpa using h1.symm
          | succ n => rw [z] at h1; simp at h1
        exact absurd (List.mem_of_getElem? h2) (e ▸ hm)
      · have hi' := (List.getElem?_eq_some_iff.mp h1).1
        have hj' := (List.getElem?_eq_some_iff.mp h2).1
        simp at hi' hj'
        omega
  · rcases Nat.lt_or_ge k m.length with hk | hk
    · rw [List.getElem?_append_left hk] at h1
      rw [List.getElem?_append_left (by rw [← r.len]; exact hk)] at h2
      have q := r.cell k a x h1 h2
      cases x with
      | lst es =>
        obtain ⟨q1, ws, q2, q3⟩ := q
        exact ⟨q1, ws, q2, q3.mono (Same.refl I) hp⟩
      | dct es =>
        obtain ⟨q1, ws, q2, q3⟩ := q
        exact ⟨q1, ws, q2, q3.mono (Same.refl I) hp⟩
      | dT es =>
        obtain ⟨q1, ws, q2, q3⟩ := q
        exact ⟨q1, ws, q2, q3.mono (Same.refl I) hp⟩
      | dN P0 w0 es =>
        obtain ⟨q1, ws, q2, q3⟩ := q
        exact ⟨q1, ws, q2, q3.mono (Same.refl I) hp⟩
      | dTz es => exact q.imp (fun _ y => y.imp fun _ y => ⟨y.1, y.2.mono (Same.refl I) hp⟩)
      | ins C es =>
        obtain ⟨q1, dx, ws, q2, q3, q4, q5, q6⟩ := q
        exact ⟨q1, dx, ws, q2, fun z => by
          rcases List.mem_append.mp z with z | z
          · exact q3 z
          · simp only [List.mem_singleton] at z
            exact ho _ (z ▸ q4), q4, q5, q6.mono (Same.refl I) hp⟩
      | frz d => exact ⟨q.1, q.2.mono (Same.refl I) hp⟩
    · have hk' := (List.getElem?_eq_some_iff.mp h1).1
      simp at hk'
      have e : k = m.length := by omega
      subst e
      rw [List.getElem?_append_right (Nat.le_refl _)] at h1
      rw [r.len, List.getElem?_append_right (Nat.le_refl _)] at h2
      simp at h1 h2
      subst h1; subst h2
      exact q
theorem RepK.any {K : PySem.W.Frag} {I : Hp} {m : List Addr} {k : Key} : ∀ {vs : List (Key × V)} {ds : List (Key × D)}, RepK K I m vs ds → (vs.any fun kv => decide (kv.1 = k)) = (ds.any fun kv => decide (kv.1 = k))
  | _, _, .nil => rfl
  | _, _, .cons _ t => by simp only [List.any_cons, RepK.any t]
def putKD (kvs : List (Key × D)) (k : Key) (d : D) : List (Key × D) :=
  if (kvs.any fun kv => decide (kv.1 = k)) = true then kvs.map (fun kv => if kv.1 = k then (kv.1, d) else kv) else kvs ++ [(k, d)]
theorem RepK.put {K : PySem.W.Frag} {I : Hp} {m : List Addr} {k : Key} {v : V} {d : D} (p : Rep K I m v d) {vs : List (Key × V)} {ds : List (Key × D)} (r : RepK K I m vs ds) : RepK K I m (putK vs k v) (putKD ds k d) := by
  have app : ∀ {vs : List (Key × V)} {ds : List (Key × D)}, RepK K I m vs ds → RepK K I m (vs ++ [(k, v)]) (ds ++ [(k, d)]) := by
    intro vs ds r
    induction vs generalizing ds with
    | nil => cases r; exact .cons p .nil
    | cons x vs ih => cases r with | cons h t => exact .cons h (ih t)
  have mp : ∀ {vs : List (Key × V)} {ds : List (Key × D)}, RepK K I m vs ds → RepK K I m (vs.map fun kv => if kv.1 = k then (kv.1, v) else kv) (ds.map fun kv => if kv.1 = k then (kv.1, d) else kv) := by
    intro vs ds r
    induction vs generalizing ds with
    | nil => cases r; exact .nil
    | cons x vs ih =>
      cases r with
      | @cons k' _ _ _ _ h t =>
        simp only [List.map_cons]
        by_cases e : k' = k
        · rw [if_pos e, if_pos e]; exact .cons p (ih t)
        · rw [if_neg e, if_neg e]; exact .cons h (ih t)
  unfold putK putKD
  rw [r.any]
  by_cases h : (ds.any fun kv => decide (kv.1 = k)) = true
  · rw [if_pos h, if_pos h]; exact mp r
  · rw [if_neg h, if_neg h]; exact app r
theorem RepK.length {K : PySem.W.Frag} {I : Hp} {m : List Addr} : ∀ {vs : List (Key × V)} {ds : List (Key × D)}, RepK K I m vs ds → vs.length = ds.length
  | _, _, .nil => rfl
  | _, _, .cons _ t => congrArg (· + 1) (RepK.length t)
theorem Rel.putD {K : PySem.W.Frag} {I H : Hp} {m : List Addr} {c : Cs} (r : Rel K I H m c) {k : Nat} {a : Addr} {vs : List (Key × V)} {ds ds0 : List (Key × D)} (hm : m[k]? = some a) (hc : c[k]? = some (.dct ds0)) (q : RepK K I m vs ds) : Rel K I (upd H a (.dK vs)) m (c.set k (.dct ds)) ∧ Ext I m H I m (upd H a (.dK vs)) := by
  obtain ⟨n1, ws, n2, n3⟩ := r.cell k a _ hm hc
  refine ⟨⟨fun b o e => ?_, by simp [r.len], r.nd, fun j b x h1 h2 => ?_, r.tabs.upH (nt_some n2 ⟨(fun _ z => nomatch z), (fun _ z => nomatch z)⟩)⟩, Same.refl I, Pre.refl m, fun b o h1 hT h2 h3 => ⟨?_, h2, h3⟩⟩
  · rw [upd_ne (ne_of_none e n1)]
    exact r.same _ _ e
  · by_cases hj : k = j
    · subst hj
      rw [List.getElem?_set_self (List.getElem?_eq_some_iff.mp hc).1] at h2
      rw [hm] at h1
      cases h1; cases h2
      exact ⟨n1, vs, upd_same, q⟩
    · rw [List.getElem?_set_ne hj] at h2
      have nb : b ≠ a := fun e => hj (r.nd k j a hm (e ▸ h1))
      have q := r.cell j b x h1 h2
      cases x with
      | lst es =>
        obtain ⟨q1, ws, q2, q3⟩ := q
        exact ⟨q1, ws, by rw [upd_ne nb]; exact q2, q3⟩
      | dct es =>
        obtain ⟨q1, ws, q2, q3⟩ := q
        exact ⟨q1, ws, by rw [upd_ne nb]; exact q2, q3⟩
      | dT es =>
        obtain ⟨q1, ws, q2, q3⟩ := q
        exact ⟨q1, ws, by rw [upd_ne nb]; exact q2, q3⟩
      | dN P0 w0 es =>
        obtain ⟨q1, ws, q2, q3⟩ := q
        exact ⟨q1, ws, by rw [upd_ne nb]; exact q2, q3⟩
      | dTz es => exact q
      | ins C es =>
        obtain ⟨q1, dx, ws, q2, q3, q4, q5, q6⟩ := q
        exact ⟨q1, dx, ws, q2, q3, by rw [upd_ne (ne_of q4 n2 (by intro z; cases z))]; exact q4, q5.imp fun _ z => ⟨z.1, by rw [upd_ne nb]; exact z.2⟩, q6⟩
      | frz d => exact q
  · rw [upd_ne (fun (e : b = a) => h3 (by rw [e]; exact List.mem_of_getElem? hm))]
    exact h1
end
end L2.Mi
namespace L2.Mi
open PySem PySem.Spec PyProof.Rows L2
/-! ### + of lists that stand in cells -/
def lstC (d : D) (c : Cs) : Option (List D) := match d with
  | .lst xs => some xs
  | .ref k => match c[k]? with
    | some (.lst xs) => some xs
    | some (.frz (.lst xs)) => some xs
    | _ => none
  | _ => none
theorem lstC_at {K : PySem.W.Frag} {I H : Hp} {m : List Addr} {c : Cs} {v : V} {d : D} {ds : List D} (R : Rel K I H m c) (p : Rep K I m v d) (h : lstC d c = some ds) : ∃ a vs, v = .ref a ∧ H a = some (.lst vs) ∧ Reps K I m vs ds := by
  cases p with
  | lst q r => cases h; exact ⟨_, _, rfl, R.same _ _ q, r⟩
  | @ref k a q =>
    have h : (match c[k]? with
      | some (.lst xs) => some xs
      | some (.frz (.lst xs)) => some xs
      | _ => none) = some ds := h
    cases e : c[k]? with
    | none => rw [e] at h; cases h
    | some x =>
      rw [e] at h
      have hc := R.cell k a x q e
      cases x with
      | lst xs => cases h; obtain ⟨_, vs, h1, h2⟩ := hc; exact ⟨a, vs, rfl, h1, h2⟩
      | frz d =>
        cases d with
        | lst xs =>
          cases h
          obtain ⟨_, hr⟩ := hc
          cases hr with
          | lst h1 h2 => exact ⟨a, _, rfl, R.same _ _ h1, h2⟩
        | _ => cases h
      | _ => cases h
  | _ => cases h
/-! ### words for the printed text -/
theorem all0 {α : Type} {P : α → Prop} : ∀ n ∈ ([] : List α), P n := fun _ h => absurd h List.not_mem_nil
theorem allc {α : Type} {P : α → Prop} {a : α} {l : List α} (h : P a) (t : ∀ n ∈ l, P n) : ∀ n ∈ a :: l, P n := fun n hn => by
  rcases List.mem_cons.mp hn with rfl | hn
  · exact h
  · exact t n hn
end L2.Mi
namespace L2.Mi
open PySem PySem.Spec PyProof.Rows L2
/-- a method's def, as it stands behind the top -/
def OwnF (K : PySem.W.Frag) (x qual : Str) (st : Stmt) (ps : List Str) (f : Addr) : Prop := ∃ fd, Fun K x qual st f fd ∧ Binds K fd ps []
end L2.Mi
namespace L2.Mi
open PySem PySem.Spec PyProof.Rows L2
end L2.Mi

/-! walking whatever stands there: a tree, a text, a cell as it stands at each turn -/
namespace L2.Mi
open PySem PySem.Spec PyProof.Rows L2
abbrev Wk := Nat → Cs → Option (Option D)
abbrev MK := Ls → Cs → R Wk
def fixW (ds : List D) : Wk := fun i _ => some ds[i]?
def cellL (k : Nat) (c : Cs) : Option (List D) := match c[k]? with
  | some (.lst ds) => some ds
  | some (.frz (.lst ds)) => some ds
  | _ => none
def cellW (k : Nat) : Wk := fun i c => match cellL k c with
  | some ds => some ds[i]?
  | none => none
def WalksW (K : PySem.W.Frag) (I : Hp) (m : List Addr) (J : It) (w : Wk) : Prop := ∀ (i : Nat) (I' H : Hp) (m' : List Addr) (c : Cs), Same I I' → Pre m m' → Rel K I' H m' c →
  (∀ d, w i c = some (some d) → J.go i H ∧ ∀ x H', J.yld i H x H' → ∃ I'', Ext I' m' H I'' m' H' ∧ Rel K I'' H' m' c ∧ Rep K I'' m' x d) ∧ (w i c = some none → J.stop i H)
theorem WalksW.ext {K : PySem.W.Frag} {I I1 H H1 : Hp} {m m1 : List Addr} {J : It} {w : Wk} (h : WalksW K I m J w) (e : Ext I m H I1 m1 H1) : WalksW K I1 m1 J w := fun i I' H m' c s p => h i I' H m' c (e.same.trans s) (e.pre.trans p)
def rW (K : PySem.W.Frag) : Hp → List Addr → It → Wk → Prop := fun I m J w => WalksW K I m J w
def rdK (K : PySem.W.Frag) (W : WX) (f : MK) : TI := rd (rW K) K W f
theorem walks_fix {K : PySem.W.Frag} {I : Hp} {m : List Addr} {J : It} {ds : List D} (h : Walks K I m J ds) : WalksW K I m J (fixW ds) := fun i I' H m' c s p R => by
  obtain ⟨h1, h2⟩ := h i I' H m' c s p R
  refine ⟨fun d e => h1 d (Option.some.inj e), fun e => h2 (List.getElem?_eq_none_iff.mp (Option.some.inj e))⟩
/-- a list of items told beforehand -/
def kFix (it : MI) : MK := fun l c => (it l c).bind fun ds c1 => .ok (fixW ds) c1
theorem walks_cell {K : PySem.W.Frag} {I : Hp} {m : List Addr} {k : Nat} {a : Addr} (hk : m[k]? = some a) : WalksW K I m (Itl K a) (cellW k) := fun i I' H m' c s p R => by
  have hk' := p _ _ hk
  have one : ∀ ds, cellL k c = some ds → ∃ vs, SqL K H a vs ∧ Reps K I' m' vs ds := fun ds e => by
    unfold cellL at e
    cases q : c[k]? with
    | none => rw [q] at e; cases e
    | some x =>
      rw [q] at e
      have hc := R.cell k a x hk' q
      cases x with
      | lst xs => cases e; obtain ⟨_, vs, h1, h2⟩ := hc; exact ⟨vs, SqL.of h1, h2⟩
      | frz d =>
        cases d with
        | lst xs =>
          cases e
          obtain ⟨_, hr⟩ := hc
          cases hr with
          | lst h1 h2 => exact ⟨_, SqL.of (R.same _ _ h1), h2⟩
        | _ => cases e
      | _ => cases e
  unfold cellW
  cases q : cellL k c with
  | none => exact ⟨fun d e => by simp at e, fun e => by simp at e⟩
  | some ds =>
    obtain ⟨vs, hs, hr⟩ := one ds q
    refine ⟨fun d e => ?_, fun e => ⟨vs, hs, ?_⟩⟩
    · have e : ds[i]? = some d := Option.some.inj e
      obtain ⟨v, hv, pv⟩ := hr.get e
      refine ⟨⟨vs, v, hs, hv⟩, fun x H' y => ?_⟩
      obtain ⟨e2, y⟩ := y
      subst e2
      have ev : x = v := by
        have z := y vs hs
        rw [hv] at z
        exact (Option.some.inj z).symm
      subst ev
      exact ⟨I', Ext.refl _ _ _, R, pv⟩
    · have e : ds[i]? = none := Option.some.inj e
      rw [hr.length]
      exact List.getElem?_eq_none_iff.mp e
def wAny (x : D) (c : Cs) : R Wk := match x with
  | .lst ds => .ok (fixW ds) c
  | .ro ds => .ok (fixW ds) c
  | .tup ds => .ok (fixW ds) c
  | .str s => .ok (fixW (chrs s)) c
  | .ref k => match cellL k c with
    | some _ => .ok (cellW k) c
    | none => .stuck
  | _ => .stuck
def kAny (a : ME) : MK := fun l c => (a l c).bind fun x c1 => wAny x c1
def iSeq (K : PySem.W.Frag) (tl : TE) : TI := fun σ H R => tl σ H fun x H1 => (∃ a, x = .ref a ∧ (∃ xs, SqL K H1 a xs) ∧ R (Itl K a) H1) ∨ (∃ a, x = .ref a ∧ (∃ xs, SqT K H1 a xs) ∧ R (Itt K a) H1) ∨ ∃ y, x = .str y ∧ R (Its y) H1
theorem pi_seq {X : Cx} {tg l : Expr} {tl : TE} (hl : PE X l tl) : PI X tg l (iSeq X.K tl) := by
  refine ⟨fun pins s σ H R I h => ?_⟩
  refine thn (hl.run pins s σ H _ I h) fun v s1 ⟨x, H1, I1, r1, q1⟩ => ?_
  rcases q1 with ⟨a, e, ⟨xs, hq⟩, q⟩ | ⟨a, e, ⟨xs, hq⟩, q⟩ | ⟨y, e, q⟩
  · subst e
    cases r1
    obtain ⟨its, rv, p, hz⟩ := I1.list hq
    refine wpAny_pyIter_list p.isList ?_
    refine ⟨s1.heap.objs.size, [s1.heap.objs.size], _, _, H1, rfl, I1.kept (t' := s1.toks) fun b o e => Heap.get?_push_of_some _ e, turn_list a _, ⟨_, Heap.get?_push_size _ rfl, rfl, rfl⟩, fun b hb => ?_, q⟩
    have e : b = s1.heap.objs.size := by simpa using hb
    subst e
    exact I1.fpOk (Nat.le_refl _) (I1.hok.fresh (Nat.le_refl _))
  · subst e
    cases r1
    obtain ⟨its, rv, p, hz⟩ := I1.tuple hq
    refine wpAny_pyIter_tuple (show s1.heap.IsTuple a its.toArray from p) ?_
    refine ⟨s1.heap.objs.size, [s1.heap.objs.size], _, _, H1, rfl, I1.kept (t' := s1.toks) fun b o e => Heap.get?_push_of_some _ e, turn_tuple a _, ⟨_, Heap.get?_push_size _ rfl, rfl, rfl⟩, fun b hb => ?_, q⟩
    have e : b = s1.heap.objs.size := by simpa using hb
    subst e
    exact I1.fpOk (Nat.le_refl _) (I1.hok.fresh (Nat.le_refl _))
  · subst e
    obtain ⟨t, rfl⟩ := r1
    cases ha : y.cps.all (· < 128)
    · exact wpAny_pyIter_wide ha (pi_one (tk := s1.toks) I1 _ (turn_str _ y t "str_iterator" (.inr rfl)) ⟨_, Heap.get?_push_size _ rfl, rfl, rfl⟩ q)
    · exact wpAny_pyIter_ascii ha (pi_one (tk := s1.toks) I1 _ (turn_str _ y t "str_ascii_iterator" (.inl rfl)) ⟨_, Heap.get?_push_size _ rfl, rfl, rfl⟩ q)
theorem mk_any {X : Cx} {W : WX} {tg e : Expr} {fa : ME} (h : PE X e (rdE X.K W fa)) : PI X tg e (rdK X.K W (kAny fa)) := PIi (pi_seq h) fun σ H Q ⟨I, m, l, c, R, L, A⟩ =>
  ⟨I, m, l, c, R, L, After.mono (After.bind (rep := rD X.K) A) fun v1 H1 ⟨I1, m1, c1, d1, E1, R1, p1, A1⟩ => by
    cases p1 with
    | @lst a vs ds h r => exact .inl ⟨a, rfl, ⟨vs, SqL.of (R1.same _ _ h)⟩, A1.here R1 (walks_fix (walks_list (SqL.of h) r))⟩
    | @ro a vs ds h r => exact .inl ⟨a, rfl, ⟨vs, R1.same.seq h⟩, A1.here R1 (walks_fix (walks_list h r))⟩
    | @tup a vs ds h r => exact .inr (.inl ⟨a, rfl, ⟨vs, sqT_same R1.same h⟩, A1.here R1 (walks_fix (walks_tup h r))⟩)
    | str s => exact .inr (.inr ⟨s, rfl, A1.here R1 (walks_fix walks_str)⟩)
    | @ref k a hk =>
      have A2 : After (rW X.K) X.K I1 m1 H1 (fun cls dd H' => W cls dd σ H') Q (match cellL k c1 with
        | some _ => .ok (cellW k) c1
        | none => .stuck) := A1
      cases q : cellL k c1 with
      | none => rw [q] at A2; exact A2.elim
      | some ds =>
        rw [q] at A2
        refine .inl ⟨a, rfl, ?_, A2.here R1 (walks_cell hk)⟩
        have q0 := q
        unfold cellL at q
        cases z : c1[k]? with
        | none => rw [z] at q; cases q
        | some x =>
          rw [z] at q
          have hc := R1.cell k a x hk z
          cases x with
          | lst xs => obtain ⟨_, vs, h1, h2⟩ := hc; exact ⟨vs, SqL.of h1⟩
          | frz d =>
            cases d with
            | lst xs =>
              obtain ⟨_, hr⟩ := hc
              cases hr with
              | lst h1 h2 => exact ⟨_, SqL.of (R1.same _ _ h1)⟩
            | _ => cases q
          | _ => cases q
    | _ => exact A1.elim⟩

/-! ### for -/
def forW (g : MG) (f : MS) (w : Wk) : Nat → Nat → Ls → Cs → RS
  | 0, _, _, _ => .stuck
  | n + 1, i, l, c => match w i c with
    | none => .stuck
    | some none => .go (.nx l) c
    | some (some d) => (g d l c).seq l fun l1 c1 => match f l1 c1 with
      | .go (.nx l2) c2 => forW g f w n (i + 1) l2 c2
      | .go (.ct l2) c2 => forW g f w n (i + 1) l2 c2
      | .go (.bk l2) c2 => .go (.nx l2) c2
      | r => r
def fuelW : Nat := 20000000
def sForW (it : MK) (g : MG) (f : MS) : MS := fun l c => (it l c).seq l fun w c1 => forW g f w fuelW 0 l c1
theorem ms_forW {X : Cx} {W : WX} {tg iter : Expr} {body : List Stmt} {pos : Pos} {fi : MK} {g : MG} {f : MS} (hp : PassesOwn (model X.prog X.w) X.A X.env X.xe) (hc : X.calm = true) (hi : PI X tg iter (rdK X.K W fi)) (hg : PG X tg (rdG X.K W g)) (hb : PSs X body (rdS X.K W f))
    (hs : ∀ x, foldedSetIterable iter X.env x = pure x := by intro _; rfl) : PS X (.For tg iter body [] pos) (rdS X.K W (sForW fi g f)) := PSi (ps_for hp hc hi hg hb hs) fun D σ H ⟨I, m, l, c, R, L, A⟩ => by
  refine ⟨I, m, l, c, R, L, After.mono (AfterS.seq (rep := rW X.K) L A) fun J H1 ⟨I1, m1, c1, w, E1, R1, w1, A1⟩ => ?_⟩
  refine ⟨fun i n σ H => ∃ I' m' l' c', Ext I1 m1 H1 I' m' H ∧ Rel X.K I' H m' c' ∧ Locs X.K I' m' σ l' ∧ AfterS X.K I' m' H W D (forW g f w n i l' c'), ⟨_, I1, m1, l, c1, Ext.refl _ _ _, R1, L.ext E1, A1⟩, ?_⟩
  rintro i n σ' H' ⟨I', m', l', c', E', R', L', A'⟩
  obtain ⟨wg, ws⟩ := w1 i I' H' m' c' E'.same E'.pre R'
  cases n with
  | zero => exact A'.elim
  | succ n =>
    have A' : AfterS X.K I' m' H' W D (match w i c' with
      | none => .stuck
      | some none => .go (.nx l') c'
      | some (some d) => (g d l' c').seq l' fun l1 c1 => match f l1 c1 with
        | .go (.nx l2) c2 => forW g f w n (i + 1) l2 c2
        | .go (.ct l2) c2 => forW g f w n (i + 1) l2 c2
        | .go (.bk l2) c2 => .go (.nx l2) c2
        | r => r) := A'
    cases q : w i c' with
    | none => rw [q] at A'; exact A'.elim
    | some od =>
      rw [q] at A'
      cases od with
      | none => exact .inl ⟨ws q, A' I' m' H' σ' (Ext.refl _ _ _) R' L'⟩
      | some d =>
        obtain ⟨go, yl⟩ := wg d q
        refine .inr ⟨go, fun σ2 H2 => ∃ I2 m2 l2 c2, Ext I1 m1 H1 I2 m2 H2 ∧ Rel X.K I2 H2 m2 c2 ∧ Locs X.K I2 m2 σ2 l2 ∧ AfterS X.K I2 m2 H2 W D (forW g f w n (i + 1) l2 c2),
          fun σ2 H2 ⟨I2, m2, l2, c2, e2, r2, L2, a2⟩ => ⟨n, Nat.lt_succ_self n, I2, m2, l2, c2, e2, r2, L2, a2⟩, fun x H3 y => ?_⟩
        obtain ⟨I3, E3, R3, p3⟩ := yl x H3 y
        have A3 := AfterS.ext E3 A'
        refine ⟨I3, m', l', c', d, R3, L'.ext E3, p3, After.mono (AfterS.seq (rep := rL X.K) (L'.ext E3) A3) fun σ4 H4 ⟨I4, m4, c4, l4, E4, R4, L4, A4⟩ => ?_⟩
        refine ⟨I4, m4, l4, c4, R4, L4, ?_⟩
        have EE := (E'.trans E3).trans E4
        have A5 : AfterS X.K I4 m4 H4 W D (match f l4 c4 with
          | .go (.nx l2) c2 => forW g f w n (i + 1) l2 c2
          | .go (.ct l2) c2 => forW g f w n (i + 1) l2 c2
          | .go (.bk l2) c2 => .go (.nx l2) c2
          | r => r) := A4
        cases qf : f l4 c4 with
        | stuck => rw [qf] at A5; exact A5
        | exc x l' c' => rw [qf] at A5; exact A5
        | go fl c5 =>
          rw [qf] at A5
          cases fl with
          | nx l5 => exact fun I6 m6 H6 σ6 e6 r6 L6 => ⟨I6, m6, l5, c5, EE.trans e6, r6, L6, AfterS.ext e6 A5⟩
          | ct l5 => exact fun I6 m6 H6 σ6 e6 r6 L6 => ⟨I6, m6, l5, c5, EE.trans e6, r6, L6, AfterS.ext e6 A5⟩
          | bk l5 => exact A5
          | rt d => exact A5

/-! ### comprehensions -/
def compW (g : MG) (t : MT) (e : ME) (lw : Ls) (w : Wk) : Nat → Nat → List D → Cs → R (List D)
  | 0, _, _, _ => .stuck
  | n + 1, i, acc, c => match w i c with
    | none => .stuck
    | some none => .ok acc c
    | some (some d) => (g d lw c).nox.bind fun l1 c1 => (t l1 c1).nox.bind fun k c2 => match k with
      | true => (e l1 c2).nox.bind fun x c3 => if acc.length < sizeLine then compW g t e lw w n (i + 1) (acc ++ [x]) c3 else .stuck
      | false => compW g t e lw w n (i + 1) acc c2
def mLcW (it : MK) (js : List Nat) (g : MG) (t : MT) (e : ME) : ME := fun l c => (it l c).bind fun w c1 => (compW g t e (wipeL l js) w fuelW 0 [] c1).bind fun xs c2 => .ok (.lst xs) c2
theorem lc_readW {K : PySem.W.Frag} {W : WX} {fi : MK} {g : MG} {ft : MT} {fe : ME} {js : List Nat} {g0 : TG} (good : Good g0 js) (rg : ∀ v σ H Q, rdG K W0 g v σ H Q → g0 v σ H Q) {σ : St} {H : Hp} {Q : VK} (h : rdE K W (mLcW fi js g ft fe) σ H Q) :
    tLc (rdK K W fi) g0 (rdT K W0 ft) (rdE K W0 fe) js σ H Q := by
  obtain ⟨I, m, l, c, R, L, A⟩ := h
  refine ⟨I, m, l, c, R, L, After.mono (After.bind (rep := rW K) A) fun J H1 ⟨I1, m1, c1, w, E1, R1, w1, A1⟩ => ?_⟩
  intro Dn hD
  have nI := R1.same.free hD
  have nm := R1.fresh hD
  refine ⟨fun i n H => ∃ I' m' c' acc vs, Ext I1 m1 H1 I' m' H ∧ Rel K I' H m' c' ∧ Reps K I' m' vs acc ∧ H Dn = some (.lst vs) ∧ I' Dn = none ∧ Dn ∉ m' ∧
    After (rD K) K I1 m1 H1 (fun cls dd H' => W cls dd σ H') Q ((compW g ft fe (wipeL l js) w n i acc c').bind fun xs c2 => .ok (.lst xs) c2),
    ⟨_, I1, m1, c1, [], [], ⟨Same.refl _, Pre.refl _, fun b o h1 hT h2 h3 => ⟨by rw [upd_ne (ne_of_none h1 hD)]; exact h1, h2, h3⟩⟩, R1.side (vs := []) (.inl hD) nI nm, .nil, upd_same, nI, nm, A1⟩, ?_⟩
  rintro i n H' ⟨I', m', c', acc, vs, E', R', p', hH', hI', hm', A'⟩
  obtain ⟨wg, ws⟩ := w1 i I' H' m' c' E'.same E'.pre R'
  have asc : ∀ {α β γ : Type} (r : Mi.R α) (f : α → Cs → Mi.R β) (h : β → Cs → Mi.R γ), (r.bind f).bind h = r.bind fun a c => (f a c).bind h := fun r f h => by cases r <;> rfl
  cases n with
  | zero => exact A'.elim
  | succ n =>
    have A' : After (rD K) K I1 m1 H1 (fun cls dd H' => W cls dd σ H') Q ((match w i c' with
      | none => .stuck
      | some none => .ok acc c'
      | some (some d) => (g d (wipeL l js) c').nox.bind fun l1 c1 => (ft l1 c1).nox.bind fun k c2 => match k with
        | true => (fe l1 c2).nox.bind fun x c3 => if acc.length < sizeLine then compW g ft fe (wipeL l js) w n (i + 1) (acc ++ [x]) c3 else .stuck
        | false => compW g ft fe (wipeL l js) w n (i + 1) acc c2 : Mi.R (List D)).bind fun xs c2 => .ok (.lst xs) c2) := A'
    cases q : w i c' with
    | none => rw [q] at A'; exact A'.elim
    | some od =>
      rw [q] at A'
      cases od with
      | none =>
        refine .inl ⟨ws q, ?_⟩
        have sI : Same I' (upd I' Dn (.lst vs)) := fun b o e => by rw [upd_ne (ne_of_none e hI')]; exact e
        refine A' (upd I' Dn (.lst vs)) m' H' (.ref Dn) ⟨E'.same.trans sI, E'.pre, fun b o h1 hT h2 h3 => ?_⟩ (R'.adopt hH' hI' hm') (.lst upd_same (p'.mono sI (Pre.refl _)))
        obtain ⟨q1, q2, q3⟩ := E'.fr b o h1 hT h2 h3
        exact ⟨q1, by rw [upd_ne (ne_of_none h1 hD)]; exact q2, q3⟩
      | some d =>
        obtain ⟨go, yl⟩ := wg d q
        refine .inr ⟨go, fun H2 => ∃ I2 m2 c2 acc2 vs2, Ext I1 m1 H1 I2 m2 H2 ∧ Rel K I2 H2 m2 c2 ∧ Reps K I2 m2 vs2 acc2 ∧ H2 Dn = some (.lst vs2) ∧ I2 Dn = none ∧ Dn ∉ m2 ∧
          After (rD K) K I1 m1 H1 (fun cls dd H' => W cls dd σ H') Q ((compW g ft fe (wipeL l js) w n (i + 1) acc2 c2).bind fun xs c2 => .ok (.lst xs) c2),
          fun H2 ⟨I2, m2, c2, acc2, vs2, e2, r2, pp2, h2, i2, n2, a2⟩ => ⟨n, Nat.lt_succ_self n, I2, m2, c2, acc2, vs2, e2, r2, pp2, h2, i2, n2, a2⟩, fun x H3 y => ?_⟩
        obtain ⟨I3, E3, R3, p3⟩ := yl x H3 y
        have Lw := ((locs_wipe L js).ext E1).ext (E'.trans E3)
        have A3 : After (rD K) K I1 m1 H1 (fun cls dd H' => W cls dd σ H') Q (((g d (wipeL l js) c').nox.bind fun l1 c1 => (ft l1 c1).nox.bind fun k c2 => match k with
          | true => (fe l1 c2).nox.bind fun x c3 => if acc.length < sizeLine then compW g ft fe (wipeL l js) w n (i + 1) (acc ++ [x]) c3 else .stuck
          | false => compW g ft fe (wipeL l js) w n (i + 1) acc c2).bind fun xs c2 => .ok (.lst xs) c2) := A'
        rw [asc] at A3
        refine good x σ H3 _ (rg _ _ _ _ ⟨I3, m', wipeL l js, c', d, R3, Lw, p3, After.mono (After.nox (After.bindAt (rep := rL K) A3 (E'.trans E3))) fun σ4 H4 ⟨I4, m4, c4, l4, E4, R4, L4, A4⟩ => ?_⟩)
        rw [asc] at A4
        have EE := (E'.trans E3).trans E4
        refine ⟨I4, m4, l4, c4, R4, L4, After.mono (After.nox (After.bindAt (rep := rB) A4 EE)) fun b H5 ⟨I5, m5, c5, b5, E5, R5, p5, A5⟩ => ?_⟩
        cases (show b = b5 from p5)
        have F5 := (E3.trans E4).trans E5
        cases b with
        | false =>
          obtain ⟨f1, f2, f3⟩ := F5.fr _ _ hH' ⟨⟨(fun _ z => nomatch z), (fun _ z => nomatch z)⟩, (fun _ z => nomatch z)⟩ hI' hm'
          exact iteF ⟨I5, m5, c5, acc, vs, EE.trans E5, R5, p'.ext F5, f1, f2, f3, A5⟩
        | true =>
          have A6 : After (rD K) K I1 m1 H1 (fun cls dd H' => W cls dd σ H') Q (((fe l4 c5).nox.bind fun x c3 => if acc.length < sizeLine then compW g ft fe (wipeL l js) w n (i + 1) (acc ++ [x]) c3 else .stuck).bind fun xs c2 => .ok (.lst xs) c2) := A5
          rw [asc] at A6
          have L4' : Locs K I4 m4 σ4 l4 := L4
          refine iteT ⟨I5, m5, l4, c5, R5, L4'.ext E5, After.mono (After.nox (After.bindAt (rep := rD K) A6 (EE.trans E5))) fun z H7 ⟨I7, m7, c7, d7, E7, R7, p7, A7⟩ => ?_⟩
          have F7 := F5.trans E7
          obtain ⟨f1, f2, f3⟩ := F7.fr _ _ hH' ⟨⟨(fun _ z => nomatch z), (fun _ z => nomatch z)⟩, (fun _ z => nomatch z)⟩ hI' hm'
          by_cases hz : acc.length < sizeLine
          · have A8 : After (rD K) K I1 m1 H1 (fun cls dd H' => W cls dd σ H') Q ((if acc.length < sizeLine then compW g ft fe (wipeL l js) w n (i + 1) (acc ++ [d7]) c7 else .stuck).bind fun xs c2 => .ok (.lst xs) c2) := A7
            rw [if_pos hz] at A8
            refine ⟨vs, f1, by rw [p'.length]; exact hz, I7, m7, c7, acc ++ [d7], vs ++ [z], ?_, R7.side (.inr f1) f2 f3, (p'.ext F7).append (.cons p7 .nil), upd_same, f2, f3, A8⟩
            have G := (EE.trans E5).trans E7
            refine ⟨G.same, G.pre, fun b o h1 hT h2 h3 => ?_⟩
            obtain ⟨q1, q2, q3⟩ := G.fr b o h1 hT h2 h3
            exact ⟨by rw [upd_ne (ne_of_none h1 hD)]; exact q1, q2, q3⟩
          · have A8 : After (rD K) K I1 m1 H1 (fun cls dd H' => W cls dd σ H') Q ((if acc.length < sizeLine then compW g ft fe (wipeL l js) w n (i + 1) (acc ++ [d7]) c7 else .stuck).bind fun xs c2 => .ok (.lst xs) c2) := A7
            rw [if_neg hz] at A8
            exact A8.elim
end L2.Mi

/-! operations of own classes -/
namespace L2.Mi
open PySem PySem.Spec PyProof.Rows L2
section
variable {X : Cx} {W : WX} {e o a b : Expr} {es : List Expr} {fa fb fo : ME} {ga : MA} {ns : List Str} {pos p : Pos} {k : Nat} {tbl : Tbl} {mm : Str} {g0 : D → D → Cs → R D}
/-! ### two operands -/
def rX (K : PySem.W.Frag) (W : WX) (σ : St) (g : D → D → Cs → R D) (x y : V) (H : Hp) (Q : VK) : Prop := ∃ I m c d e, Rel K I H m c ∧ Rep K I m x d ∧ Rep K I m y e ∧ After (rD K) K I m H (fun cls dd H' => W cls dd σ H') Q (g d e c)
def OpX (X : Cx) (W : WX) (f : Value → Value → Sem Value) (g : D → D → Cs → R D) : Prop := ∀ (pins : List (Addr × Obj)) (s : Shared) (σ : St) (H : Hp) (x y : V) (v u : Value) (Q : VK), Inv X pins σ H s → RelV x v → RelV y u → rX X.K W σ g x y H Q →
  wpAny (model X.prog X.w) X.A (f v u) (EP X pins σ Q) X.xe s
theorem OpX.of {f : Value → Value → Sem Value} {r : R2} (ho : OpR X f r) (hs : OpS X.K r g0) : OpX X W f g0 := fun pins s σ H x y v u Q J rx ry ⟨I, m, c, d, e, R, p, q, A⟩ => ho pins s σ H x y v u Q J rx ry (hs _ _ _ _ _ _ _ _ _ _ R p q A)
end
end L2.Mi

/-! lists and texts once more: *, join, count, and results that stand in cells -/
namespace L2.Mi
open PySem PySem.Spec PyProof.Rows L2
section
variable {K : PySem.W.Frag} {I H : Hp} {m : List Addr} {c : Cs}
theorem After.cell {W : XK} {Q : VK} {p : Addr} {vs : List V} {ds : List D} (A : After (rD K) K I m H W Q (.ok (.ref c.length) (c ++ [.lst ds]))) (R : Rel K I H m c) (np : H p = none) (r : Reps K I m vs ds) : Q (.ref p) (upd H p (.lst vs)) := by
  obtain ⟨R2, E2⟩ := R.push np r
  refine A _ _ _ _ E2 R2 (Rep.ref ?_)
  rw [← R.len, List.getElem?_append_right (Nat.le_refl _), Nat.sub_self]
  rfl
/-! ### * -/
theorem Reps.rep {vs : List V} {ds : List D} (r : Reps K I m vs ds) : ∀ n : Nat, Reps K I m (List.replicate n vs).flatten (List.replicate n ds).flatten
  | 0 => .nil
  | n + 1 => by
    rw [List.replicate_succ, List.replicate_succ, List.flatten_cons, List.flatten_cons]
    exact r.append (Reps.rep r n)
def mulLim (n : Nat) (k : Int) : Prop := n * k.toNat ≤ 100000 ∧ -1000 ≤ k ∧ k ≤ 100000
instance (n : Nat) (k : Int) : Decidable (mulLim n k) := inferInstanceAs (Decidable (n * k.toNat ≤ 100000 ∧ -1000 ≤ k ∧ k ≤ 100000))
/-! ### sep.join of what stands in a cell too -/
/-! ### s.count(t) -/
def countD (x y : D) (c : Cs) : R D := match x, y with
  | .str a, .str b => .ok (.int (Txt.count a b)) c
  | _, _ => .stuck
theorem m1_count : M1S K (fun x xs H Q => ∃ a b, x = .str a ∧ xs = [.str b] ∧ Q (.int (Txt.count a b)) H) countD := fun I H m c v1 v2 d1 d2 W Q R p1 p2 A => by
  cases p1 with
  | str a => cases p2 with
    | str b => exact ⟨a, b, rfl, rfl, A.here R (.int _)⟩
    | _ => exact A.elim
  | _ => cases p2 <;> exact A.elim
/-! ### list(x), the list a cell -/
def listMP (d : D) (c : Cs) : R D := match seqOf d c with
  | some xs => .ok (.ref c.length) (c ++ [.lst xs])
  | none => .stuck
def listM : List D → Cs → R D := on1 listMP
theorem cs_listM : CallS K (rList K) listM := fun I H m c vs ds W Q R p A => by
  obtain ⟨v, d, rfl, rfl, pd, A⟩ := on1_arg p A
  have A2 : After (rD K) K I m H W Q (match seqOf d c with
    | some xs => .ok (.ref c.length) (c ++ [.lst xs])
    | none => .stuck) := A
  cases e : seqOf d c with
  | none => rw [e] at A2; exact A2.elim
  | some xs =>
    rw [e] at A2
    obtain ⟨a, ys, rfl, h1, h2⟩ := seq_at R pd e
    exact ⟨a, ys, rfl, h1, fun l nl => After.cell A2 R nl h2⟩
end
/-! ### a class's constant, isinstance of an own class -/
section
variable {X : Cx} {W : WX} {e o : Expr} {es : List Expr} {f n : Str} {fa fo : ME} {ga : MA} {ns : List Str} {pos p p2 : Pos}
structure IsoK (K : PySem.W.Frag) (n : Str) (ns : List Str) : Prop where
  ex : ∃ C, PySem.W.nsIn K mainGlobals n = some (some (.ref C)) ∧ (∀ m ∈ ns, ∃ D', NamV K m (.ref D') ∧ Cls K D' ∧ PySem.W.findIn K (.ref D') "__class__" = some (some (.builtin "object.__class__")) ∧ PySem.W.specialIn K (.builtin "object.__class__") "__get__" = some (some (.builtin "getset_descriptor.__get__")) ∧
    PySem.W.takesIn K (.builtin "object.__class__") = some true ∧ PySem.W.mroIn K D' (.type "object") = some true ∧ PySem.W.kitOne K (.ref D') (.ref C) = some (m == n)) ∧ ∀ t ∈ tyNames, PySem.W.kitOne K (.type t) (.ref C) = some false
def isoR (n : Str) (ns : List Str) (x : D) (c : Cs) : R D := match insOf x c with
  | some (k, _) => if k ∈ ns then .ok (.bl (k == n)) c else .stuck
  | none => match tyD x c with
    | some _ => .ok (.bl false) c
    | none => .stuck
def mIso (n : Str) (ns : List Str) (a : ME) : ME := fun l c => (a l c).bind fun x c1 => isoR n ns x c1
theorem me_iso {q : Pos} (T : IsoK X.K n ns) (hg : Gl X "isinstance") (hm : X.mg "isinstance" = none) (hgn : Gl X n) (gx : ∀ n C, PySem.W.nsIn X.K mainGlobals n = some (some (.ref C)) → X.mg n = some (.ref C)) (ha : PE X e (rdE X.K W fa)) (hd : (n == ("__debug__" : Str)) = false := by decide)
    (he : starEach [e, .Name n p2] X.env = (false, eval e X.env) :: starEach [.Name n p2] X.env := by rfl) (hpl : (backTo pos (starEach [.Name n p2] X.env)).any (·.1) = false := by rfl) :
    PE X (.Call (.Name "isinstance" p) [e, .Name n p2] [] pos) (rdE X.K W (mIso n ns fa)) := by
  obtain ⟨C, h1, h2, h3⟩ := T.ex
  refine PEi (pe_callB (call_isi (X := X)) hg hm bt_isinstance (pa_cons ha (pa_cons (pe_glob (v := .ref C) hgn (gx _ _ h1) rfl hd) pa_nil) he) (he := he) (hpl := hpl)) fun σ H Q ⟨I, m, l, c, R, L, A⟩ =>
    ⟨I, m, l, c, R, L, After.mono (After.bind (rep := rD X.K) A) fun v1 H1 ⟨I1, m1, c1, d1, E1, R1, p1, A1⟩ => ?_⟩
  have A1 : After (rD X.K) X.K I1 m1 H1 (fun cls dd H' => W cls dd σ H') Q (match insOf d1 c1 with
    | some (k, _) => if k ∈ ns then .ok (.bl (k == n)) c1 else .stuck
    | none => match tyD d1 c1 with
      | some _ => .ok (.bl false) c1
      | none => .stuck) := A1
  cases q : insOf d1 c1 with
  | some nf =>
    obtain ⟨k, fs⟩ := nf
    rw [q] at A1
    have A1 : After (rD X.K) X.K I1 m1 H1 (fun cls dd H' => W cls dd σ H') Q (if k ∈ ns then .ok (.bl (k == n)) c1 else .stuck) := A1
    by_cases hk : k ∈ ns
    · rw [if_pos hk] at A1
      obtain ⟨a, C', dx, ws, rfl, k1, k2, k3⟩ := ins_at R1 p1 q
      obtain ⟨D', j1, j2, j3, j4, j5, j6, j7⟩ := h2 k hk
      cases k1.one j1
      exact ⟨.ref a, .ref C, _, .ref C, _, rfl, .own C, .base (.ins k2 j2 j3 j4 j5 j6), j7, A1.here R1 (.bl _)⟩
    · rw [if_neg hk] at A1; exact A1.elim
  | none =>
    rw [q] at A1
    have A1 : After (rD X.K) X.K I1 m1 H1 (fun cls dd H' => W cls dd σ H') Q (match tyD d1 c1 with
      | some _ => .ok (.bl false) c1
      | none => .stuck) := A1
    cases z : tyD d1 c1 with
    | none => rw [z] at A1; exact A1.elim
    | some t =>
      rw [z] at A1
      exact ⟨v1, .ref C, _, .ref C, _, rfl, .own C, tyD_is R1 p1 z, h3 t (tyD_mem z), A1.here R1 (.bl _)⟩
end
end L2.Mi
namespace L2.Mi
open PySem PySem.Spec PyProof.Rows L2
end L2.Mi

/-! the classmethod of(cls, *rows): return cls(rows); one-operand operations of own classes -/
namespace L2.Mi
open PySem PySem.Spec PyProof.Rows L2
def OfRun (P : Program) (w : World) (K : PySem.W.Frag) (mg : Str → Option Value) (base : Heap) (n : Str) (C f : Addr) (g : List D → Cs → R D) (k : Nat) : Prop :=
  ∀ (A : Around) (outer : List Env) (s : Shared) (H : Hp) (us : List Value) (vs : List V) (Q : VK) (E : XK) (I : Hp) (m : List Addr) (c : Cs) (ds : List D), Room k A → A.guards = some [] → Env0 P w K mg base A outer s H → Vals vs us → Rel K I H m c → Reps K I m vs ds → ds.length ≤ sizeLine →
    After (rD K) K I m H E Q (mkR n g [.tup ds] c) → codeAny (model P w) A (.call (.ref f) ⟨.ref C :: us, []⟩) (CR (CX P w) outer P w H s Q E) s
def ofR (n : Str) (g : List D → Cs → R D) (xs : List D) (c : Cs) : R D := if xs.length ≤ sizeLine then mkR n g [.tup xs] c else .stuck
section
variable {X : Cx} {W : WX} {n : Str} {g : List D → Cs → R D} {k : Nat} {e : Expr} {es : List Expr} {ga : MA} {p0 apos pos : Pos} {pl : Sem Bool}
theorem of_call {pins : List (Addr × Obj)} {σ : St} {H : Hp} {s : Shared} {Q : VK} {q C f : Addr} {us : List Value} {vs : List V} {I : Hp} {m : List Addr} {c : Cs} {ds : List D} (O : OfRun X.prog X.w X.K X.mg X.base n C f g k) (hr : Room k X.A) (hgd : X.A.guards = some []) (tk : Takes X W)
    (J : Inv X ((q, PySem.W.methodObj (.ref f) (.ref C)) :: pins) σ H s) (r : Vals vs us) (R : Rel X.K I H m c) (p : Reps X.K I m vs ds) (a : After (rD X.K) X.K I m H (fun cls dd H' => W cls dd σ H') Q (ofR n g ds c)) : wpAny (model X.prog X.w) X.A (call (.ref q) us) (EP X pins σ Q) X.xe s := by
  unfold ofR at a
  by_cases hz : ds.length ≤ sizeLine
  · rw [if_pos hz] at a
    have z : wpAny (model X.prog X.w) X.A (call (.ref q) us) (EP X ((q, PySem.W.methodObj (.ref f) (.ref C)) :: pins) σ Q) X.xe s := by
      refine wpAny_call (PySem.W.method_call (ClX.pin_at J) (codeAny_mono (O X.A X.stack s H us vs Q (fun cls d H' => W cls d σ H') I m c ds hr hgd J.env0 r R p hz a) fun res s' hq => ?_))
      cases res with
      | error e => exact tk e s' (XE.of_call J (fun _ _ _ h => h) hq)
      | ok fl =>
        cases fl with
        | ret u => exact J.after hq
        | next => exact False.elim hq
        | brk => exact False.elim hq
        | cont => exact False.elim hq
    exact thn z fun _ _ y => ClX.unpinE y
  · rw [if_neg hz] at a; exact a.elim
end
/-! ### one operand -/
section
variable {X : Cx} {W : WX} {a b e : Expr} {fa fb : ME} {ga : MA} {pos p : Pos} {k : Nat} {tbl : Tbl}
end
end L2.Mi
namespace L2.Mi
open PySem PySem.Spec PyProof.Rows L2
/-! ### x == [], x != [] -/
def e0 (neg : Bool) (x y : D) (c : Cs) : R D := match y with
  | .lst [] => match lstC x c with
    | some xs => .ok (.bl (sgn neg xs.isEmpty)) c
    | none => .stuck
  | _ => .stuck
end L2.Mi

namespace L2.Mi
open PySem PySem.Spec PyProof.Rows L2

/-! ### what a computation comes to -/
def Ok {α : Type} (r : R α) (Q : α → Cs → Prop) : Prop := ∃ a c, r = .ok a c ∧ Q a c
theorem Ok.bind {α β : Type} {r : R α} {f : α → Cs → R β} {Q : β → Cs → Prop} (h : Ok r fun a c => Ok (f a c) Q) : Ok (r.bind f) Q := by
  obtain ⟨a, c, rfl, h⟩ := h
  exact h
theorem Ok.mono {α : Type} {r : R α} {Q Q' : α → Cs → Prop} (h : Ok r Q) (w : ∀ a c, Q a c → Q' a c) : Ok r Q' := by
  obtain ⟨a, c, e, h⟩ := h
  exact ⟨a, c, e, w a c h⟩
theorem Ok.of {α : Type} {r : R α} {Q : α → Cs → Prop} {a : α} {c : Cs} (e : r = .ok a c) (h : Q a c) : Ok r Q := ⟨a, c, e, h⟩
def OkS (r : RS) (Q : Fl → Cs → Prop) : Prop := ∃ f c, r = .go f c ∧ Q f c
theorem OkS.seq {α : Type} {r : R α} {l : Ls} {f : α → Cs → RS} {Q : Fl → Cs → Prop} (h : Ok r fun a c => OkS (f a c) Q) : OkS (r.seq l f) Q := by
  obtain ⟨a, c, rfl, h⟩ := h
  exact h
theorem OkS.mono {r : RS} {Q Q' : Fl → Cs → Prop} (h : OkS r Q) (w : ∀ a c, Q a c → Q' a c) : OkS r Q' := by
  obtain ⟨a, c, e, h⟩ := h
  exact ⟨a, c, e, w a c h⟩
theorem OkS.next {r : RS} {g : Ls → Cs → RS} {Q : Fl → Cs → Prop} (h : OkS r fun f c => match f with
  | .nx l => OkS (g l c) Q
  | f => Q f c) : OkS (r.next g) Q := by
  obtain ⟨f, c, rfl, h⟩ := h
  cases f with
  | nx l => exact h
  | rt d => exact ⟨_, _, rfl, h⟩
  | bk l => exact ⟨_, _, rfl, h⟩
  | ct l => exact ⟨_, _, rfl, h⟩
/-- a loop, by what holds between its turns -/
theorem OkS.for {g : MG} {f : MS} {Q : Fl → Cs → Prop} (P : List D → Ls → Cs → Prop) (hd : ∀ l c, P [] l c → Q (.nx l) c)
    (ht : ∀ d ds l c, P (d :: ds) l c → Ok (g d l c) fun l1 c1 => OkS (f l1 c1) fun fl c2 => match fl with
      | .nx l2 => P ds l2 c2
      | .ct l2 => P ds l2 c2
      | .bk l2 => Q (.nx l2) c2
      | .rt d => Q (.rt d) c2) : ∀ ds l c, P ds l c → OkS (forD g f ds l c) Q
  | [], l, c, h => ⟨_, _, rfl, hd l c h⟩
  | d :: ds, l, c, h => by
    obtain ⟨l1, c1, e1, fl, c2, e2, q⟩ := ht d ds l c h
    unfold forD
    rw [e1]
    simp only [R.seq_ok]
    rw [e2]
    cases fl with
    | nx l2 => exact OkS.for P hd ht ds l2 c2 q
    | ct l2 => exact OkS.for P hd ht ds l2 c2 q
    | bk l2 => exact ⟨_, _, rfl, q⟩
    | rt d => exact ⟨_, _, rfl, q⟩
theorem Ok.fun {n a : Nat} {b : MS} {ds : List D} {c : Cs} {Q : D → Cs → Prop} (hl : ds.length = a) (h : OkS (b (ds.map some ++ List.replicate (n - a) none) c) fun f c => match f with
  | .rt d => Q d c
  | .nx _ => Q .non c
  | _ => False) : Ok (mFun n a b ds c) Q := by
  obtain ⟨f, c', e, h⟩ := h
  unfold mFun
  rw [if_pos hl, e]
  cases f with
  | nx l => exact ⟨_, _, rfl, h⟩
  | rt d => exact ⟨_, _, rfl, h⟩
  | bk l => exact h.elim
  | ct l => exact h.elim

/-! ### rules, by combinator -/
section
variable {l : Ls} {c : Cs} {Q : D → Cs → Prop} {a b e : ME} {t : MA} {QS : Fl → Cs → Prop}
theorem ok_ret {α : Type} {d : α} {Q : α → Cs → Prop} (h : Q d c) : Ok (.ok d c) Q := ⟨_, _, rfl, h⟩
theorem ok_var {i : Nat} {d : D} (e : l[i]? = some (some d)) (h : Q d c) : Ok (mVar i l c) Q := ⟨d, c, by unfold mVar; rw [e], h⟩
theorem ok_c {d : D} (h : Q d c) : Ok (mC d l c) Q := ⟨d, c, rfl, h⟩
theorem ok_op {g : D → D → Cs → R D} (h : Ok (a l c) fun x c1 => Ok (b l c1) fun y c2 => Ok (g x y c2) Q) : Ok (mOp g a b l c) Q := Ok.bind (h.mono fun _ _ h => Ok.bind h)
theorem ok_un {g : D → Cs → R D} (h : Ok (a l c) fun x c1 => Ok (g x c1) Q) : Ok (mUn g a l c) Q := Ok.bind h
theorem ok_cb {g : List D → Cs → R D} (h : Ok (t l c) fun xs c1 => Ok (g xs c1) Q) : Ok (mCB g t l c) Q := Ok.bind h
theorem ok_anil {Q : List D → Cs → Prop} (h : Q [] c) : Ok (aNil l c) Q := ⟨_, _, rfl, h⟩
theorem ok_acons {Q : List D → Cs → Prop} (h : Ok (a l c) fun x c1 => Ok (t l c1) fun xs c2 => Q (x :: xs) c2) : Ok (aCons a t l c) Q := Ok.bind (h.mono fun _ _ h => Ok.bind (h.mono fun _ _ h => ⟨_, _, rfl, h⟩))
theorem ok_fits {α : Type} {n : Nat} {r : R α} {Q : α → Cs → Prop} (hn : n ≤ sizeLine) (h : Ok r Q) : Ok (fits n r) Q := by
  unfold fits
  rw [if_pos hn]
  exact h
theorem ok_lst (h : Ok (t l c) fun xs c1 => xs.length ≤ sizeLine ∧ Q (.lst xs) c1) : Ok (mLst t l c) Q := Ok.bind (h.mono fun _ _ h => ok_fits h.1 ⟨_, _, rfl, h.2⟩)
theorem ok_tup (h : Ok (t l c) fun xs c1 => xs.length ≤ sizeLine ∧ Q (.tup xs) c1) : Ok (mTup t l c) Q := Ok.bind (h.mono fun _ _ h => ok_fits h.1 ⟨_, _, rfl, h.2⟩)
theorem ok_lstM (h : Ok (t l c) fun xs c1 => xs.length ≤ sizeLine ∧ Q (.ref c1.length) (c1 ++ [.lst xs])) : Ok (mLstM t l c) Q := Ok.bind (h.mono fun _ _ h => ok_fits h.1 ⟨_, _, rfl, h.2⟩)
theorem ok_dict1 {k : Key} (h : Ok (a l c) fun d c1 => Q (.dct [(k, d)]) c1) : Ok (mDict1 k a l c) Q := Ok.bind (h.mono fun _ _ h => ⟨_, _, rfl, h⟩)
theorem ok_and (h : Ok (a l c) fun x c1 => ∃ k, x = .bl k ∧ (k = true → Ok (b l c1) Q) ∧ (k = false → Q (.bl false) c1)) : Ok (mAnd a b l c) Q := Ok.bind (h.mono fun x c1 ⟨k, e, h1, h2⟩ => by
  subst e
  cases k with
  | true => exact h1 rfl
  | false => exact ⟨_, _, rfl, h2 rfl⟩)
theorem ok_or (h : Ok (a l c) fun x c1 => ∃ k, x = .bl k ∧ (k = true → Q (.bl true) c1) ∧ (k = false → Ok (b l c1) Q)) : Ok (mOr a b l c) Q := Ok.bind (h.mono fun x c1 ⟨k, e, h1, h2⟩ => by
  subst e
  cases k with
  | true => exact ⟨_, _, rfl, h1 rfl⟩
  | false => exact h2 rfl)
theorem ok_not (h : Ok (a l c) fun x c1 => ∃ k, x = .bl k ∧ Q (.bl (!k)) c1) : Ok (mNot a l c) Q := Ok.bind (h.mono fun x c1 ⟨k, e, h⟩ => by subst e; exact ⟨_, _, rfl, h⟩)
theorem ok_chain {f g : D → D → Cs → R D} {d : ME} (h : Ok (a l c) fun x c1 => Ok (b l c1) fun y c2 => Ok (f x y c2) fun z c3 => ∃ k, z = .bl k ∧ (k = true → Ok (d l c3) fun w c4 => Ok (g y w c4) Q) ∧ (k = false → Q (.bl false) c3)) : Ok (mChain f g a b d l c) Q :=
  Ok.bind (h.mono fun x c1 h => Ok.bind (h.mono fun y c2 h => Ok.bind (h.mono fun z c3 ⟨k, e, h1, h2⟩ => by
    subst e
    cases k with
    | true => exact Ok.bind (h1 rfl)
    | false => exact ⟨_, _, rfl, h2 rfl⟩)))
theorem ok_t {Q : Bool → Cs → Prop} (h : Ok (a l c) fun x c1 => ∃ k, x = .bl k ∧ Q k c1) : Ok (mT a l c) Q := Ok.bind (h.mono fun x c1 ⟨k, e, h⟩ => by subst e; exact ⟨_, _, rfl, h⟩)
theorem ok_tnot {p : MT} {Q : Bool → Cs → Prop} (h : Ok (p l c) fun k c1 => Q (!k) c1) : Ok (tNotM p l c) Q := Ok.bind (h.mono fun _ _ h => ⟨_, _, rfl, h⟩)
theorem ok_tand {p q : MT} {Q : Bool → Cs → Prop} (h : Ok (p l c) fun k c1 => (k = true → Ok (q l c1) Q) ∧ (k = false → Q false c1)) : Ok (tAndM p q l c) Q := Ok.bind (h.mono fun k c1 ⟨h1, h2⟩ => by
  cases k with
  | true => exact h1 rfl
  | false => exact ⟨_, _, rfl, h2 rfl⟩)
theorem ok_tor {p q : MT} {Q : Bool → Cs → Prop} (h : Ok (p l c) fun k c1 => (k = true → Q true c1) ∧ (k = false → Ok (q l c1) Q)) : Ok (tOrM p q l c) Q := Ok.bind (h.mono fun k c1 ⟨h1, h2⟩ => by
  cases k with
  | true => exact ⟨_, _, rfl, h1 rfl⟩
  | false => exact h2 rfl)
theorem ok_if {p : MT} (h : Ok (p l c) fun k c1 => (k = true → Ok (a l c1) Q) ∧ (k = false → Ok (b l c1) Q)) : Ok (mIf p a b l c) Q := Ok.bind (h.mono fun k c1 ⟨h1, h2⟩ => by
  cases k with
  | true => exact h1 rfl
  | false => exact h2 rfl)
theorem ok_onone {Q : Option Int → Cs → Prop} (h : Q none c) : Ok (oNone l c) Q := ⟨_, _, rfl, h⟩
theorem ok_osome {Q : Option Int → Cs → Prop} (h : Ok (a l c) fun x c1 => ∃ i, x = .int i ∧ Q (some i) c1) : Ok (oSome a l c) Q := Ok.bind (h.mono fun x c1 ⟨k, e, h⟩ => by subst e; exact ⟨_, _, rfl, h⟩)
theorem ok_slice {p q : MO} (h : Ok (a l c) fun x c1 => Ok (p l c1) fun i c2 => Ok (q l c2) fun j c3 => Ok (sliceD x i j c3) Q) : Ok (mSlice a p q l c) Q := Ok.bind (h.mono fun _ _ h => Ok.bind (h.mono fun _ _ h => Ok.bind h))
theorem ok_m1 {g : D → D → Cs → R D} (h : Ok (a l c) fun x c1 => ∃ s, x = .str s ∧ Ok (b l c1) fun y c2 => Ok (g (.str s) y c2) Q) : Ok (mM1 g a b l c) Q := Ok.bind (h.mono fun x c1 ⟨s, e, h⟩ => by subst e; exact Ok.bind h)
theorem ok_frz (h : Ok (a l c) fun x c1 => ∃ k ds, x = .ref k ∧ c1[k]? = some (.lst ds) ∧ Q (.lst ds) (c1.set k (.frz (.lst ds)))) : Ok (mFrz a l c) Q := Ok.bind (h.mono fun x c1 ⟨k, ds, e, e2, h⟩ => by
  subst e
  refine ⟨_, _, ?_, h⟩
  simp only [frzD, e2])
theorem ok_ilst {Q : List D → Cs → Prop} (h : Ok (a l c) fun x c1 => (∃ ds, x = .lst ds ∧ Q ds c1) ∨ ∃ ds, x = .ro ds ∧ Q ds c1) : Ok (iLst a l c) Q := Ok.bind (h.mono fun x c1 h => by
  rcases h with ⟨ds, e, h⟩ | ⟨ds, e, h⟩ <;> (subst e; exact ⟨_, _, rfl, h⟩))
theorem ok_itup {Q : List D → Cs → Prop} (h : Ok (a l c) fun x c1 => ∃ ds, x = .tup ds ∧ Q ds c1) : Ok (iTup' a l c) Q := Ok.bind (h.mono fun x c1 ⟨s, e, h⟩ => by subst e; exact ⟨_, _, rfl, h⟩)
theorem ok_istr {Q : List D → Cs → Prop} (h : Ok (a l c) fun x c1 => ∃ s, x = .str s ∧ Q (chrs s) c1) : Ok (iStr' a l c) Q := Ok.bind (h.mono fun x c1 ⟨s, e, h⟩ => by subst e; exact ⟨_, _, rfl, h⟩)
theorem ok_r1 {Q : List D → Cs → Prop} (h : Ok (t l c) fun xs c1 => ∃ j, xs = [.int j] ∧ small62 j ∧ Q (rangeL 0 j.toNat) c1) : Ok (iR1 t l c) Q := Ok.bind (h.mono fun x c1 ⟨j, e, hj, h⟩ => by subst e; exact ⟨_, _, if_pos hj, h⟩)
theorem ok_r2 {Q : List D → Cs → Prop} (h : Ok (t l c) fun xs c1 => ∃ i j, xs = [.int i, .int j] ∧ small62 i ∧ small62 j ∧ Q (rangeL i (j - i).toNat) c1) : Ok (iR2 t l c) Q := Ok.bind (h.mono fun x c1 ⟨i, j, e, hi, hj, h⟩ => by subst e; exact ⟨_, _, if_pos ⟨hi, hj⟩, h⟩)
theorem ok_intC {C : Int → Int → Prop} [∀ i j, Decidable (C i j)] {g : Int → Int → Int} {i j : Int} (hc : C i j) (h : Q (.int (g i j)) c) : Ok (intC C g (.int i) (.int j) c) Q := ⟨_, _, if_pos hc, h⟩
/-- statements -/
theorem os_nil (h : QS (.nx l) c) : OkS (sNil l c) QS := ⟨_, _, rfl, h⟩
theorem os_brk (h : QS (.bk l) c) : OkS (sBreak l c) QS := ⟨_, _, rfl, h⟩
theorem os_cnt (h : QS (.ct l) c) : OkS (sCont l c) QS := ⟨_, _, rfl, h⟩
theorem os_seq {f g : MS} (h : OkS (f l c) fun fl c1 => match fl with
  | .nx l1 => OkS (g l1 c1) QS
  | fl => QS fl c1) : OkS (sSeq f g l c) QS := OkS.next h
theorem os_expr (h : Ok (a l c) fun _ c1 => QS (.nx l) c1) : OkS (sExpr a l c) QS := OkS.seq (h.mono fun _ _ h => ⟨_, _, rfl, h⟩)
theorem os_ret (h : Ok (a l c) fun d c1 => QS (.rt d) c1) : OkS (sRet a l c) QS := OkS.seq (h.mono fun _ _ h => ⟨_, _, rfl, h⟩)
theorem os_retn (h : QS (.rt .non) c) : OkS (sRetN l c) QS := ⟨_, _, rfl, h⟩
theorem os_if {p : MT} {f g : MS} (h : Ok (p l c) fun k c1 => (k = true → OkS (f l c1) QS) ∧ (k = false → OkS (g l c1) QS)) : OkS (sIf p f g l c) QS := OkS.seq (h.mono fun k c1 ⟨h1, h2⟩ => by
  cases k with
  | true => exact h1 rfl
  | false => exact h2 rfl)
theorem os_set {i : Nat} (h : Ok (a l c) fun d c1 => QS (.nx (l.set i (some d))) c1) : OkS (sSet i a l c) QS := OkS.seq (h.mono fun _ _ h => ⟨_, _, rfl, h⟩)
theorem os_asg {g : MG} (h : Ok (a l c) fun d c1 => Ok (g d l c1) fun l2 c2 => QS (.nx l2) c2) : OkS (sAsg a g l c) QS := OkS.seq (h.mono fun _ _ h => OkS.seq (h.mono fun _ _ h => ⟨_, _, rfl, h⟩))
theorem os_par {js : List Nat} (h : Ok (t l c) fun ds c1 => Ok (gNs js ds l c1) fun l2 c2 => QS (.nx l2) c2) : OkS (sPar js t l c) QS := OkS.seq (h.mono fun _ _ h => OkS.seq (h.mono fun _ _ h => ⟨_, _, rfl, h⟩))
theorem os_for {it : MI} {g : MG} {f : MS} (h : Ok (it l c) fun ds c1 => OkS (forD g f ds l c1) QS) : OkS (sFor it g f l c) QS := OkS.seq h
theorem ok_gn {i : Nat} {d : D} {Q : Ls → Cs → Prop} (h : Q (l.set i (some d)) c) : Ok (gN i d l c) Q := ⟨_, _, rfl, h⟩
/-- a comprehension, by its loop -/
theorem ok_lc {it : MI} {js : List Nat} {g : MG} {p : MT} (h : Ok (it l c) fun ds c1 => Ok (compD g p e (wipeL l js) ds [] c1) fun xs c2 => Q (.lst xs) c2) : Ok (mLc it js g p e l c) Q := Ok.bind (h.mono fun _ _ h => Ok.bind (h.mono fun _ _ h => ⟨_, _, rfl, h⟩))
/-- .. by what holds between its turns -/
theorem comp_ok {g : MG} {p : MT} {lw : Ls} {Q : List D → Cs → Prop} (I : List D → List D → Cs → Prop) (hd : ∀ acc c, I [] acc c → Q acc c)
    (ht : ∀ d ds acc c, I (d :: ds) acc c → Ok (g d lw c) fun l1 c1 => Ok (p l1 c1) fun k c2 => match k with
      | true => Ok (e l1 c2) fun x c3 => acc.length < sizeLine ∧ I ds (acc ++ [x]) c3
      | false => I ds acc c2) : ∀ ds acc c, I ds acc c → Ok (compD g p e lw ds acc c) Q
  | [], acc, c, h => ⟨_, _, rfl, hd acc c h⟩
  | d :: ds, acc, c, h => by
    obtain ⟨l1, c1, e1, k, c2, e2, q⟩ := ht d ds acc c h
    unfold compD
    rw [e1]
    simp only [R.nox_ok, R.bind_ok]
    rw [e2]
    simp only [R.nox_ok, R.bind_ok]
    cases k with
    | true =>
      obtain ⟨x, c3, e3, hz, q⟩ := q
      simp only []
      rw [e3]
      simp only [R.nox_ok, R.bind_ok]
      rw [if_pos hz]
      exact comp_ok I hd ht ds _ _ q
    | false => exact comp_ok I hd ht ds _ _ q
end

/-! ### the box that a law draws from -/
def Bx (c : Cs) (k : Nat) (n : Int) : Prop := ∃ a b z : Int, c[k]? = some (.lst [.int a, .int b, .int z]) ∧ 0 ≤ a ∧ 0 ≤ b ∧ b < 2147483629 ∧ 0 ≤ z ∧ z ≤ n

theorem ok_il {l : Ls} {c : Cs} {a : ME} {Q : List D → Cs → Prop} (h : Ok (a l c) fun x c1 => ∃ ds, x = .lst ds ∧ Q ds c1) : Ok (iLst a l c) Q := ok_ilst (h.mono fun _ _ h => Or.inl h)
theorem os_fcons {g : MG} {f : MS} {d : D} {ds : List D} {l : Ls} {c : Cs} {Q : Fl → Cs → Prop} (h : Ok (g d l c) fun l1 c1 => OkS (f l1 c1) fun fl c2 => match fl with
    | .nx l2 => OkS (forD g f ds l2 c2) Q
    | .ct l2 => OkS (forD g f ds l2 c2) Q
    | .bk l2 => Q (.nx l2) c2
    | .rt d => Q (.rt d) c2) : OkS (forD g f (d :: ds) l c) Q := by
  obtain ⟨l1, c1, e1, fl, c2, e2, q⟩ := h
  unfold forD
  rw [e1]
  simp only [R.seq_ok]
  rw [e2]
  cases fl with
  | nx l2 => exact q
  | ct l2 => exact q
  | bk l2 => exact ⟨_, _, rfl, q⟩
  | rt d => exact ⟨_, _, rfl, q⟩
theorem os_fnil {g : MG} {f : MS} {l : Ls} {c : Cs} {Q : Fl → Cs → Prop} (h : Q (.nx l) c) : OkS (forD g f [] l c) Q := ⟨_, _, rfl, h⟩
theorem rangeL_mem {lo : Int} {n : Nat} {d : D} (h : d ∈ rangeL lo n) : ∃ i : Nat, i < n ∧ d = .int (lo + i) := by
  obtain ⟨i, h1, rfl⟩ := List.mem_map.mp h
  exact ⟨i, List.mem_range.mp h1, rfl⟩
theorem rangeL_len {lo : Int} {n : Nat} : (rangeL lo n).length = n := by simp [rangeL]
/-! ### texts: their lengths, their signs -/
def SB (n : Nat) (s : Str) : Prop := s.length ≤ n ∧ ∀ k ∈ s.cps.toList, k < 1114112
theorem SB.mono {n m : Nat} {s : Str} (h : SB n s) (hm : n ≤ m) : SB m s := ⟨Nat.le_trans h.1 hm, h.2⟩
theorem SB.app {n m : Nat} {s t : Str} (h : SB n s) (g : SB m t) : SB (n + m) (s ++ t) := by
  refine ⟨?_, fun k hk => ?_⟩
  · rw [Str.length_append]
    exact Nat.add_le_add h.1 g.1
  · have e : (s ++ t).cps.toList = s.cps.toList ++ t.cps.toList := Array.toList_append
    rw [e] at hk
    rcases List.mem_append.mp hk with q | q
    · exact h.2 k q
    · exact g.2 k q
theorem SB.one {k : Nat} (h : k < 1114112) : SB 1 ⟨#[k]⟩ := ⟨Nat.le_refl _, fun x hx => by simp at hx; omega⟩
theorem ok_add_str {s t : Str} {c : Cs} {Q : D → Cs → Prop} (h : s.length + t.length ≤ sizeLine) (q : Q (.str (s ++ t)) c) : Ok (addD (.str s) (.str t) c) Q := ⟨_, _, if_pos h, q⟩
theorem ok_slice_str {s : Str} {i j : Option Int} {c : Cs} {Q : D → Cs → Prop} (h : s.length ≤ sizeLine) (q : Q (.str (cutS s i j)) c) : Ok (sliceD (.str s) i j c) Q := ⟨_, _, if_pos h, q⟩
theorem ok_len_str {s : Str} {c : Cs} {Q : D → Cs → Prop} (h : s.length ≤ sizeLine) (q : Q (.int s.length) c) : Ok (lenD [.str s] c) Q := ⟨_, _, by simp [lenD, lenC, h], q⟩
section
variable {l : Ls} {c : Cs} {Q : D → Cs → Prop} {a b e : ME} {t tk : MA} {QS : Fl → Cs → Prop}
theorem ok_bm {g : D → List D → Cs → R D} (h : Ok (a l c) fun x c1 => isL x c1 = true ∧ Ok (t l c1) fun xs c2 => Ok (g x xs c2) Q) : Ok (mBM g a t l c) Q := Ok.bind (h.mono fun x c1 ⟨h1, h2⟩ => by
  rw [if_pos h1]
  exact Ok.bind h2)
theorem ok_gs {o i : ME} {d : D} {Q : Ls → Cs → Prop} (h : Ok (o l c) fun x c1 => Ok (i l c1) fun y c2 => Ok (putD x y d c2) fun _ c3 => Q l c3) : Ok (gS o i d l c) Q := Ok.bind (h.mono fun _ _ h => Ok.bind (h.mono fun _ _ h => Ok.bind (h.mono fun _ _ h => ⟨_, _, rfl, h⟩)))
theorem ok_cbd {g : List D → Cs → R D} {n : Nat} {df : List D} (h : Ok (t l c) fun xs c1 => xs.length = n ∧ Ok (g (xs ++ df) c1) Q) : Ok (mCBd g n df t l c) Q := Ok.bind (h.mono fun x c1 ⟨h1, h2⟩ => by
  rw [if_pos h1]
  exact h2)
theorem ok_cbk {g : List D → Cs → R D} {gd : List D → List D → List D} {n j : Nat} (h : Ok (t l c) fun xs c1 => Ok (tk l c1) fun ys c2 => (xs.length = n ∧ ys.length = j) ∧ Ok (g (gd xs ys) c2) Q) : Ok (mCBk g gd n j t tk l c) Q :=
  Ok.bind (h.mono fun x c1 h => Ok.bind (h.mono fun y c2 ⟨h1, h2⟩ => by
    rw [if_pos h1]
    exact h2))
theorem os_ifNm {i : Nat} {h : D → D → Cs → R D} {f g : MS} (q : Ok (a l c) fun x c1 => Ok (b (l.set i (some x)) c1) fun y c2 => Ok (h x y c2) fun z c3 => ∃ k, z = .bl k ∧ (k = true → OkS (f (l.set i (some x)) c3) QS) ∧ (k = false → OkS (g (l.set i (some x)) c3) QS)) :
    OkS (sIfNm i h a b f g l c) QS := OkS.seq (q.mono fun x c1 q => OkS.seq (q.mono fun y c2 q => OkS.seq (q.mono fun z c3 ⟨k, e, h1, h2⟩ => by
  subst e
  cases k with
  | true => exact h1 rfl
  | false => exact h2 rfl)))
theorem isL_ref {k : Nat} {xs : List D} (h : c[k]? = some (.lst xs)) : isL (.ref k) c = true := by
  have e : lstOf (.ref k) c = (match c[k]? with
    | some (.lst xs) => some xs
    | _ => none) := rfl
  unfold isL
  rw [e, h]
  rfl
theorem ok_append {k : Nat} {xs : List D} {y : D} (h : c[k]? = some (.lst xs)) (hz : xs.length < sizeLine) (q : Q .non (c.set k (.lst (xs ++ [y])))) : Ok (appendD (.ref k) [y] c) Q := by
  have e : appendD (.ref k) [y] c = (match c[k]? with
    | some (.lst xs) => if xs.length < sizeLine then .ok .non (c.set k (.lst (xs ++ [y]))) else .stuck
    | _ => .stuck) := rfl
  refine ⟨_, _, ?_, q⟩
  rw [e, h]
  exact if_pos hz
end
end L2.Mi

namespace L2.Mi
open PySem PySem.Spec PyProof.Rows L2
/-! ### how long a shown value is -/
mutual
def wP : PyData → Nat
  | .none => 4
  | .bool _ => 5
  | .int _ => 45
  | .str s => 10 * s.length + 2
  | .list xs => wPs xs + 2
  | .tuple xs => wPs xs + 3
  | .dict kvs => wPk kvs + 2
def wPs : List PyData → Nat
  | [] => 0
  | x :: xs => wP x + 2 + wPs xs
def wPk : List (PyData × PyData) → Nat
  | [] => 0
  | (k, v) :: r => wP k + wP v + 4 + wPk r
end
mutual
def bP : PyData → Bool
  | .none => true
  | .bool _ => true
  | .int i => decide (i.natAbs < 10 ^ 40)
  | .str s => s.cps.toList.all fun k => decide (k < 1114112)
  | .list xs => bPs xs
  | .tuple xs => bPs xs
  | .dict kvs => bPk kvs
def bPs : List PyData → Bool
  | [] => true
  | x :: xs => bP x && bPs xs
def bPk : List (PyData × PyData) → Bool
  | [] => true
  | (k, v) :: r => bP k && bP v && bPk r
end
theorem join_le : ∀ ts : List Str, (Str.join ", " ts).length ≤ piled ts
  | [] => Nat.zero_le _
  | t :: ts => by have := join_length_add (t :: ts) (by simp); omega
theorem textFrom_pile : ∀ (ts : List Str) (k : Nat) (acc : Str), (textFrom k acc ts).length ≤ acc.length + piled ts
  | [], k, acc => by simp [textFrom]
  | t :: ts, k, acc => by
    have ih := textFrom_pile ts (k + 1) (acc ++ (if k > 0 then ", " else "" : String) ++ t)
    have e : (acc ++ (if k > 0 then ", " else "" : String) ++ t).length = acc.length + (if k > 0 then 2 else 0) + t.length := by
      rw [strLen_append, strLen_append]
      split <;> rfl
    rw [e] at ih
    have e3 : textFrom k acc (t :: ts) = textFrom (k + 1) (acc ++ (if k > 0 then ", " else "" : String) ++ t) ts := rfl
    rw [e3, piled_cons]
    have e4 : (if k > 0 then 2 else 0) ≤ 2 := by split <;> omega
    omega
mutual
theorem shown_w : ∀ p : PyData, bP p = true → p.showable = true ∧ p.shown.length ≤ wP p
  | .none, _ => ⟨rfl, by decide +kernel⟩
  | .bool b, _ => ⟨rfl, by cases b <;> decide +kernel⟩
  | .int i, h => by
    have h : i.natAbs < 10 ^ 40 := of_decide_eq_true h
    have h3 : (10 : Nat) ^ 40 < 2 ^ 1920 := by decide +kernel
    refine ⟨?_, ?_⟩
    · show decide (i.natAbs.log2 < 1920) = true
      by_cases h0 : i.natAbs = 0
      · rw [h0]; decide
      · exact decide_eq_true ((Nat.log2_lt h0).mpr (by omega))
    · have hl := int_text_length_le10 (k := 40) (by decide) h
      show (Str.ofString (toString i)).length ≤ 45
      have e : (Str.ofString (toString i)).cps.toList = (toString i).toList.map Char.toNat := by first | exact signs_ofString _ | exact PyProof.Rows.signs_ofString _ | exact PySem.signs_ofString _ | exact PySem.W.signs_ofString _
      have e2 : (Str.ofString (toString i)).length = (Str.ofString (toString i)).cps.toList.length := Array.length_toList.symm
      rw [e2, e, List.length_map, String.length_toList]
      omega
  | .str s, h => by
    refine ⟨rfl, ?_⟩
    have r := StrLaws.reprText_len s fun k hk => by
      have := of_decide_eq_true (List.all_eq_true.mp h k (by simpa using hk))
      omega
    show (reprText s).length ≤ 10 * s.length + 2
    omega
  | .list xs, h => by
    obtain ⟨h1, h2⟩ := shown_ws xs h
    refine ⟨h1, ?_⟩
    show (listText (PyData.shownAll xs)).length ≤ wPs xs + 2
    unfold listText
    rw [strLen_append]
    have q := textFrom_pile (PyData.shownAll xs) 0 "["
    have a : ("[" : Str).length = 1 := rfl
    have b : ("]" : Str).length = 1 := rfl
    omega
  | .tuple xs, h => by
    obtain ⟨h1, h2⟩ := shown_ws xs h
    refine ⟨h1, ?_⟩
    show (tupleText (PyData.shownAll xs)).length ≤ wPs xs + 3
    unfold tupleText
    rw [strLen_append, strLen_append]
    have q := join_le (PyData.shownAll xs)
    have a : ("(" : Str).length = 1 := rfl
    have b : (if (PyData.shownAll xs).length == 1 then ",)" else ")" : String).length ≤ 2 := by split <;> decide
    have b2 : (Str.ofString (if (PyData.shownAll xs).length == 1 then ",)" else ")" : String)).length ≤ 2 := by split <;> decide
    omega
  | .dict kvs, h => by
    obtain ⟨h1, h2⟩ := shown_wk kvs h
    refine ⟨h1, ?_⟩
    show (dictText (PyData.shownKv kvs)).length ≤ wPk kvs + 2
    unfold dictText
    rw [strLen_append, strLen_append]
    have q := join_le (PyData.shownKv kvs)
    have a : ("{" : Str).length = 1 := rfl
    have b : ("}" : Str).length = 1 := rfl
    omega
theorem shown_ws : ∀ ps : List PyData, bPs ps = true → PyData.showableAll ps = true ∧ piled (PyData.shownAll ps) ≤ wPs ps
  | [], _ => ⟨rfl, by decide⟩
  | p :: ps, h => by
    obtain ⟨a, b⟩ := Bool.and_eq_true_iff.mp h
    obtain ⟨h1, h2⟩ := shown_w p a
    obtain ⟨h3, h4⟩ := shown_ws ps b
    refine ⟨by show (PyData.showable p && PyData.showableAll ps) = true; rw [h1, h3]; rfl, ?_⟩
    show piled (p.shown :: PyData.shownAll ps) ≤ wP p + 2 + wPs ps
    rw [piled_cons]
    omega
theorem shown_wk : ∀ ps : List (PyData × PyData), bPk ps = true → PyData.showableKv ps = true ∧ piled (PyData.shownKv ps) ≤ wPk ps
  | [], _ => ⟨rfl, by decide⟩
  | (k, v) :: ps, h => by
    obtain ⟨ab, b⟩ := Bool.and_eq_true_iff.mp h
    obtain ⟨a, a2⟩ := Bool.and_eq_true_iff.mp ab
    obtain ⟨h1, h2⟩ := shown_w k a
    obtain ⟨g1, g2⟩ := shown_w v a2
    obtain ⟨h3, h4⟩ := shown_wk ps b
    refine ⟨by show (PyData.showable k && PyData.showable v && PyData.showableKv ps) = true; rw [h1, g1, h3]; rfl, ?_⟩
    show piled ((k.shown ++ ": " ++ v.shown) :: PyData.shownKv ps) ≤ wP k + wP v + 4 + wPk ps
    rw [piled_cons, strLen_append, strLen_append]
    have e : (Str.ofString ": ").length = 2 := rfl
    omega
end
theorem okR_w {p : PyData} (h1 : bP p = true) (h2 : wP p ≤ 16777216) (h3 : p.depth ≤ 60) : okR p = true := by
  obtain ⟨a, b⟩ := shown_w p h1
  have hz : sizeLine = 16777216 := sizeLine_eq
  simp only [okR, Bool.and_eq_true, decide_eq_true_eq]
  exact ⟨⟨h3, a⟩, by omega⟩
end L2.Mi

/-! plain reasoning about walks of whatever stands there -/
namespace L2.Mi
open PySem PySem.Spec PyProof.Rows L2
theorem wAny_seq {x : D} {c : Cs} {xs : List D} (h : seqOf x c = some xs) : ∃ w, wAny x c = .ok w c ∧ ∀ i, w i c = some xs[i]? := by
  cases x with
  | lst ys => cases h; exact ⟨_, rfl, fun _ => rfl⟩
  | tup ys => cases h; exact ⟨_, rfl, fun _ => rfl⟩
  | ro ys => cases h; exact ⟨_, rfl, fun _ => rfl⟩
  | ref k =>
    have h : (match c[k]? with
      | some (.lst xs) => some xs
      | _ => none) = some xs := h
    cases q : c[k]? with
    | none => rw [q] at h; cases h
    | some y =>
      rw [q] at h
      cases y with
      | lst ys =>
        cases h
        have e : cellL k c = some xs := by unfold cellL; rw [q]
        refine ⟨cellW k, ?_, fun i => ?_⟩
        · show (match cellL k c with
            | some _ => (.ok (cellW k) c : R Wk)
            | none => .stuck) = _
          rw [e]
        · unfold cellW
          rw [e]
      | _ => cases h
  | _ => cases h
theorem compW_pure {g : MG} {t : MT} {e : ME} {lw : Ls} {w : Wk} {c : Cs} {xs : List D} {P : D → Bool} {F : D → D} {lt : D → Ls} (hw : ∀ i, w i c = some xs[i]?) (h : ∀ d ∈ xs, g d lw c = .ok (lt d) c ∧ t (lt d) c = .ok (P d) c ∧ (P d = true → e (lt d) c = .ok (F d) c)) :
    ∀ (k n i : Nat) (acc : List D), xs.length - i = k → k < n → acc.length + k ≤ sizeLine → compW g t e lw w n i acc c = .ok (acc ++ ((xs.drop i).filter P).map F) c
  | 0, 0, i, acc, hk, hn, hl => absurd hn (Nat.lt_irrefl _)
  | 0, n + 1, i, acc, hk, hn, hl => by
    have hi : xs.length ≤ i := by omega
    unfold compW
    rw [hw, List.getElem?_eq_none hi, List.drop_eq_nil_of_le hi]
    simp
  | k + 1, 0, i, acc, hk, hn, hl => absurd hn (by omega)
  | k + 1, n + 1, i, acc, hk, hn, hl => by
    have hi : i < xs.length := by omega
    obtain ⟨h1, h2, h3⟩ := h xs[i] (List.getElem_mem hi)
    unfold compW
    rw [hw, List.getElem?_eq_getElem hi, List.drop_eq_getElem_cons hi]
    simp only []
    rw [h1]
    simp only [R.nox_ok, R.bind_ok]
    rw [h2]
    simp only [R.nox_ok, R.bind_ok]
    have ih := fun acc hl => compW_pure hw h k n (i + 1) acc (by omega) (by omega) hl
    cases q : P xs[i] with
    | true =>
      simp only []
      rw [h3 q]
      simp only [R.nox_ok, R.bind_ok]
      rw [if_pos (by omega), ih _ (by simp; omega), List.filter_cons_of_pos q, List.map_cons, List.append_assoc]
      rfl
    | false =>
      simp only []
      rw [ih _ (by omega), List.filter_cons_of_neg (by rw [q]; exact Bool.false_ne_true)]
theorem lcW_pure {it : MK} {js : List Nat} {g : MG} {t : MT} {e : ME} {l : Ls} {c : Cs} {w : Wk} {xs : List D} {P : D → Bool} {F : D → D} {lt : D → Ls} (hit : it l c = .ok w c) (hw : ∀ i, w i c = some xs[i]?) (hl : xs.length ≤ 1000000)
    (h : ∀ d ∈ xs, g d (wipeL l js) c = .ok (lt d) c ∧ t (lt d) c = .ok (P d) c ∧ (P d = true → e (lt d) c = .ok (F d) c)) : mLcW it js g t e l c = .ok (.lst ((xs.filter P).map F)) c := by
  have hz : sizeLine = 16777216 := sizeLine_eq
  unfold mLcW
  rw [hit]
  simp only [R.bind_ok]
  rw [compW_pure hw h xs.length fuelW 0 [] (by omega) (by unfold fuelW; omega) (by simp; omega)]
  simp
/-- a loop over what stands there and stays so -/
theorem OkS.forW {g : MG} {f : MS} {w : Wk} {xs : List D} {Q : Fl → Cs → Prop} (P : List D → Ls → Cs → Prop) (hw : ∀ ds l c, P ds l c → ∀ i, w i c = some xs[i]?) (hd : ∀ l c, P [] l c → Q (.nx l) c)
    (ht : ∀ d ds l c, P (d :: ds) l c → Ok (g d l c) fun l1 c1 => OkS (f l1 c1) fun fl c2 => match fl with
      | .nx l2 => P ds l2 c2
      | .ct l2 => P ds l2 c2
      | .bk l2 => Q (.nx l2) c2
      | .rt d => Q (.rt d) c2) : ∀ (k n i : Nat) (l : Ls) (c : Cs), xs.length - i = k → k < n → P (xs.drop i) l c → OkS (forW g f w n i l c) Q
  | _, 0, i, l, c, hk, hn, h => absurd hn (by omega)
  | 0, n + 1, i, l, c, hk, hn, h => by
    have hi : xs.length ≤ i := by omega
    have e := hw _ _ _ h i
    rw [List.drop_eq_nil_of_le hi] at h
    unfold Mi.forW
    rw [e, List.getElem?_eq_none hi]
    exact ⟨_, _, rfl, hd _ _ h⟩
  | k + 1, n + 1, i, l, c, hk, hn, h => by
    have hi : i < xs.length := by omega
    have e := hw _ _ _ h i
    rw [List.drop_eq_getElem_cons hi] at h
    unfold Mi.forW
    rw [e, List.getElem?_eq_getElem hi]
    obtain ⟨l1, c1, e1, fl, c2, e2, q⟩ := ht _ _ _ _ h
    simp only []
    rw [e1]
    simp only [R.seq_ok]
    rw [e2]
    cases fl with
    | nx l2 => exact OkS.forW P hw hd ht k n (i + 1) l2 c2 (by omega) (by omega) q
    | ct l2 => exact OkS.forW P hw hd ht k n (i + 1) l2 c2 (by omega) (by omega) q
    | bk l2 => exact ⟨_, _, rfl, q⟩
    | rt d => exact ⟨_, _, rfl, q⟩
theorem ok_kany {a : ME} {l : Ls} {c : Cs} {Q : Wk → Cs → Prop} (h : Ok (a l c) fun x c1 => Ok (wAny x c1) Q) : Ok (kAny a l c) Q := Ok.bind h
theorem os_forW {it : MK} {g : MG} {f : MS} {l : Ls} {c : Cs} {QS : Fl → Cs → Prop} (h : Ok (it l c) fun w c1 => OkS (forW g f w fuelW 0 l c1) QS) : OkS (sForW it g f l c) QS := OkS.seq h
theorem wPs_app : ∀ (ps : List PyData) (p : PyData), wPs (ps ++ [p]) = wPs ps + wP p + 2
  | [], p => by simp [wPs]
  | q :: ps, p => by
    have := wPs_app ps p
    simp only [List.cons_append, wPs]
    omega
theorem bPs_app : ∀ (ps : List PyData) (p : PyData), bPs ps = true → bP p = true → bPs (ps ++ [p]) = true
  | [], p, _, h => by simp [bPs, h]
  | q :: ps, p, h, h2 => by
    obtain ⟨a, b⟩ := Bool.and_eq_true_iff.mp h
    have := bPs_app ps p b h2
    simp [bPs, a, this]
theorem bx_app {c : Cs} {k : Nat} {n : Int} (h : Bx c k n) (x : Cs) : Bx (c ++ x) k n := by
  obtain ⟨a, b, z, h, r⟩ := h
  exact ⟨a, b, z, by rw [List.getElem?_append_left (List.getElem?_eq_some_iff.mp h).1]; exact h, r⟩
theorem bx_lt {c : Cs} {k : Nat} {n : Int} (h : Bx c k n) : k < c.length := by
  obtain ⟨a, b, z, h, r⟩ := h
  exact (List.getElem?_eq_some_iff.mp h).1
theorem bx_set {c : Cs} {k j : Nat} {n : Int} (h : Bx c k n) (hj : j ≠ k) (x : Cell) : Bx (c.set j x) k n := by
  obtain ⟨a, b, z, h, r⟩ := h
  exact ⟨a, b, z, by rw [List.getElem?_set_ne hj]; exact h, r⟩
theorem compW_fix {g : MG} {t : MT} {e : ME} {lw : Ls} {ds : List D} : ∀ (k n i : Nat) (acc : List D) (c : Cs), ds.length - i = k → k < n → compW g t e lw (fixW ds) n i acc c = compD g t e lw (ds.drop i) acc c
  | _, 0, i, acc, c, hk, hn => absurd hn (by omega)
  | 0, n + 1, i, acc, c, hk, hn => by
    have hi : ds.length ≤ i := by omega
    unfold compW fixW
    rw [List.getElem?_eq_none hi, List.drop_eq_nil_of_le hi]
    rfl
  | k + 1, n + 1, i, acc, c, hk, hn => by
    have hi : i < ds.length := by omega
    have ih := fun acc c => compW_fix (g := g) (t := t) (e := e) (lw := lw) (ds := ds) k n (i + 1) acc c (by omega) (by omega)
    rw [List.drop_eq_getElem_cons hi]
    unfold compW compD
    rw [show fixW ds i c = some (some ds[i]) by unfold fixW; rw [List.getElem?_eq_getElem hi]]
    simp only [ih] <;> rfl
theorem forW_fix {g : MG} {f : MS} {ds : List D} : ∀ (k n i : Nat) (l : Ls) (c : Cs), ds.length - i = k → k < n → forW g f (fixW ds) n i l c = forD g f (ds.drop i) l c
  | _, 0, i, l, c, hk, hn => absurd hn (by omega)
  | 0, n + 1, i, l, c, hk, hn => by
    have hi : ds.length ≤ i := by omega
    unfold Mi.forW fixW
    rw [List.getElem?_eq_none hi, List.drop_eq_nil_of_le hi]
    rfl
  | k + 1, n + 1, i, l, c, hk, hn => by
    have hi : i < ds.length := by omega
    have ih := fun l c => forW_fix (g := g) (f := f) (ds := ds) k n (i + 1) l c (by omega) (by omega)
    rw [List.drop_eq_getElem_cons hi]
    unfold Mi.forW forD
    rw [show fixW ds i c = some (some ds[i]) by unfold fixW; rw [List.getElem?_eq_getElem hi]]
    simp only [ih] <;> rfl
end L2.Mi

/-! x.translate(table), the table a tracked dict of numbers -/
namespace PySem
open Builtin Builtin.Str
section
variable {prog : Program} {w : World} {A : Around} {E : Value → Shared → Prop} {s : Shared} {d : Addr} {c : Nat} {g : Nat → Nat}
end
def TrAtG (g : Nat → Nat) (x : List Nat) (fast0 : Bool) (s : Shared) (rest : List Nat) (st : List Str × Nat × Bool × List (Nat × Option Nat) × Bool) (s' : Shared) : Prop :=
  ∃ (past : List Nat) (pieces : List Str) (known : List (Nat × Option Nat)) (h' : Heap) (k : Nat), x = past ++ rest ∧ st = (pieces, past.length, fast0, known, false) ∧ pieces.reverse = past.map (fun c => (⟨#[g c]⟩ : Str)) ∧
    (∀ c a, List.lookup c known = some a → a = some (g c)) ∧ s' = { s with heap := h', toks := k } ∧ ∀ b o, s.heap.get? b = some o → h'.get? b = some o
theorem TrAtG.next {g : Nat → Nat} {x : List Nat} {fast0 : Bool} {s : Shared} {rest past : List Nat} {c : Nat} {pieces : List Str} {known : List (Nat × Option Nat)} {h' : Heap} {k : Nat} (h1 : x = past ++ c :: rest)
    (h3 : pieces.reverse = past.map (fun c => (⟨#[g c]⟩ : Str))) (h4 : ∀ c a, List.lookup c known = some a → a = some (g c)) (h6 : ∀ b o, s.heap.get? b = some o → h'.get? b = some o) :
    TrAtG g x fast0 s rest (⟨#[g c]⟩ :: pieces, past.length + 1, fast0, known, false) { s with heap := h', toks := k } := by
  refine ⟨past ++ [c], ⟨#[g c]⟩ :: pieces, known, h', k, ?_, ?_, ?_, h4, rfl, h6⟩
  · rw [h1, List.append_assoc] <;> rfl
  · rw [List.length_append] <;> rfl
  · rw [List.reverse_cons, h3, List.map_append] <;> rfl
end PySem

/-! str.maketrans("01", "10") and x.translate of it -/
namespace PySem
open Builtin Builtin.Str
section
variable {prog : Program} {w : World} {A : Around} {E : Value → Shared → Prop} {s : Shared}
end
end PySem
namespace L2.Mi
open PySem PySem.Spec PyProof.Rows L2 Builtin Builtin.Str
/-- the table of maketrans("01", "10") -/
abbrev tab01 : List (Key × V) := [(.inl 48, .int 49), (.inl 49, .int 48)]
def exch (c : Nat) : Nat := if c = 48 then 49 else if c = 49 then 48 else c
theorem KV.two {t1 t2 : Tok} : KV tab01 [(.inl 48, Value.int 49 t1), (.inl 49, Value.int 48 t2)] := .cons ⟨rfl, ⟨t1, rfl⟩⟩ (.cons ⟨rfl, ⟨t2, rfl⟩⟩ .nil)
end L2.Mi

namespace PySem
open Builtin Builtin.Str
end PySem
namespace L2.Mi
open PySem PySem.Spec PyProof.Rows L2 Builtin Builtin.Str
section
variable {prog : Program} {w : World} {A : Around} {E : Value → Shared → Prop} {s : Shared} {K : PySem.W.Frag}
end
section
variable {X : Cx} {o e : Expr} {es : List Expr} {to : TE} {t : TA} {apos pos : Pos}
end
end L2.Mi

/-! x.translate(str.maketrans("01", "10")) -/
namespace L2.Mi
open PySem PySem.Spec PyProof.Rows L2
section
variable {X : Cx} {W : WX} {o es : Expr} {fa : ME} {p p1 p2 p3 p4 pos : Pos}
end
end L2.Mi

/-! pop, insert, reverse, clear of a cell -/
namespace L2.Mi
open PySem PySem.Spec PyProof.Rows L2
section
variable {K : PySem.W.Frag} {I H : Hp} {m : List Addr} {c : Cs}
theorem Reps.dropLast {vs : List V} {ds : List D} (r : Reps K I m vs ds) : Reps K I m vs.dropLast ds.dropLast := by
  rw [List.dropLast_eq_take, List.dropLast_eq_take, r.length]
  exact Reps.take _ r
theorem Reps.eraseIdx {vs : List V} {ds : List D} (i : Nat) (r : Reps K I m vs ds) : Reps K I m (vs.eraseIdx i) (ds.eraseIdx i) := by
  rw [List.eraseIdx_eq_take_drop_succ, List.eraseIdx_eq_take_drop_succ]
  exact Reps.append (Reps.take _ r) (Reps.drop _ r)
theorem Reps.reverse : ∀ {vs : List V} {ds : List D}, Reps K I m vs ds → Reps K I m vs.reverse ds.reverse
  | _, _, .nil => .nil
  | _, _, .cons h t => by
    rw [List.reverse_cons, List.reverse_cons]
    exact Reps.append (Reps.reverse t) (.cons h .nil)
def cellX (x : D) (c : Cs) : Option (Nat × List D) := match x with
  | .ref k => match c[k]? with
    | some (.lst xs) => some (k, xs)
    | _ => none
  | _ => none
theorem cellX_at {v : V} {d : D} {k : Nat} {xs : List D} (R : Rel K I H m c) (p : Rep K I m v d) (q : cellX d c = some (k, xs)) : ∃ a ws, v = .ref a ∧ m[k]? = some a ∧ c[k]? = some (.lst xs) ∧ H a = some (.lst ws) ∧ Reps K I m ws xs := by
  cases p with
  | @ref j a hm =>
    have q : (match c[j]? with
      | some (.lst xs) => some (j, xs)
      | _ => none) = some (k, xs) := q
    cases e : c[j]? with
    | none => rw [e] at q; cases q
    | some x =>
      rw [e] at q
      cases x with
      | lst ys =>
        cases q
        obtain ⟨_, ws, h1, h2⟩ := R.cell _ a _ hm e
        exact ⟨a, ws, rfl, hm, e, h1, h2⟩
      | _ => cases q
  | _ => cases q
/-- a method that changes a list -/
def mutM (f : List D → List D → Option (D × List D)) : D → List D → Cs → R D := fun d ds c => match cellX d c with
  | some (k, xs) => match f ds xs with
    | some (r, ys) => .ok r (c.set k (.lst ys))
    | none => .stuck
  | none => .stuck
def MutS (K : PySem.W.Frag) (r : V → List V → Hp → VK → Prop) (f : List D → List D → Option (D × List D)) : Prop := ∀ (I H : Hp) (m : List Addr) (l : Addr) (ws vs : List V) (ds xs : List D) (res : D) (ys : List D) (Q : VK),
  Reps K I m ws xs → Reps K I m vs ds → H l = some (.lst ws) → f ds xs = some (res, ys) → (∀ v' ws', Rep K I m v' res → Reps K I m ws' ys → Q v' (upd H l (.lst ws'))) → r (.ref l) vs H Q
theorem meth_mut {r : V → List V → Hp → VK → Prop} {f : List D → List D → Option (D × List D)} (hf : MutS K r f) : MethS K r (mutM f) := fun I H m c v vs d ds W Q R p ps A => by
  unfold mutM at A
  cases q : cellX d c with
  | none => rw [q] at A; exact A.elim
  | some kx =>
    obtain ⟨k, xs⟩ := kx
    rw [q] at A
    have A : After (rD K) K I m H W Q (match f ds xs with
      | some (r, ys) => .ok r (c.set k (.lst ys))
      | none => .stuck) := A
    obtain ⟨a, ws, rfl, hm, hc, h1, h2⟩ := cellX_at R p q
    cases z : f ds xs with
    | none => rw [z] at A; exact A.elim
    | some ry =>
      obtain ⟨res, ys⟩ := ry
      rw [z] at A
      refine hf I H m a ws vs ds xs res ys Q h2 ps h1 z fun v' ws' p1 p2 => ?_
      obtain ⟨R2, E2⟩ := R.put hm hc p2
      exact A _ _ _ _ E2 R2 p1
def popAtF : List D → List D → Option (D × List D) := fun ds xs => match ds with
  | [.int i] => if -(2 ^ 63) ≤ i ∧ i < 2 ^ 63 then (match seqIndex? i xs.length with
    | some k => match xs[k]? with
      | some y => some (y, xs.eraseIdx k)
      | none => none
    | none => none) else none
  | _ => none
theorem one_of {vs : List V} {d : D} (r : Reps K I m vs [d]) : ∃ v, vs = [v] ∧ Rep K I m v d := by
  cases r with
  | cons h t => cases t; exact ⟨_, rfl, h⟩
theorem ms_popAtF : MutS K rPopAt popAtF := fun I H m l ws vs ds xs res ys Q r ps h e q => by
  unfold popAtF at e
  split at e
  · rename_i i
    split at e
    · rename_i hi
      split at e
      · rename_i k hk
        split at e
        · rename_i y hy
          cases e
          obtain ⟨v, rfl, pv⟩ := one_of ps
          cases pv with
          | int =>
            rw [← r.length] at hk
            obtain ⟨w, h1, h2⟩ := r.get hy
            exact ⟨l, ws, i, k, w, rfl, rfl, h, hi.1, hi.2, hk, h1, q w _ h2 (r.eraseIdx k)⟩
        · cases e
      · cases e
    · cases e
  · cases e
end
end L2.Mi

/-! sum, max, min of a list of numbers -/
namespace L2.Mi
open PySem PySem.Spec PyProof.Rows L2
section
variable {K : PySem.W.Frag} {I H : Hp} {m : List Addr} {c : Cs}
def intsOf : List D → Option (List Int)
  | [] => some []
  | .int b :: r => match intsOf r with
    | some bs => some (b :: bs)
    | none => none
  | _ :: _ => none
theorem ints_reps : ∀ {vs : List V} {ds : List D} {bs : List Int}, Reps K I m vs ds → intsOf ds = some bs → vs = bs.map V.int
  | _, _, _, .nil, e => by cases e; rfl
  | _, _, _, .cons (d := d) (ds := ds) h t, e => by
    cases h with
    | int b =>
      unfold intsOf at e
      cases q : intsOf ds with
      | none => rw [q] at e; cases e
      | some bs =>
        rw [q] at e
        cases e
        rw [ints_reps t q]; rfl
    | _ => cases e
theorem intsOf_map (bs : List Int) : intsOf (bs.map D.int) = some bs := by
  induction bs with
  | nil => rfl
  | cons b r ih => show (match intsOf (r.map D.int) with | some bs => some (b :: bs) | none => none) = _; rw [ih]
def onInts (f : List Int → Option Int) (d : D) (c : Cs) : R D := match lstC d c with
  | some ds => match intsOf ds with
    | some ns => match f ns with
      | some k => .ok (.int k) c
      | none => .stuck
    | none => .stuck
  | none => .stuck
theorem cs_ints {r : List V → Hp → VK → Prop} {f : List Int → Option Int} (h : ∀ (H : Hp) (a : Addr) (ns : List Int) (k : Int) (Q : VK), H a = some (.lst (ns.map V.int)) → f ns = some k → Q (.int k) H → r [.ref a] H Q) : CallS K r (on1 (onInts f)) := fun I H m c vs ds W Q R p A => by
  obtain ⟨v, d, rfl, rfl, pd, A⟩ := on1_arg p A
  unfold onInts at A
  cases e : lstC d c with
  | none => rw [e] at A; exact A.elim
  | some xs =>
    rw [e] at A
    have A : After (rD K) K I m H W Q (match intsOf xs with
      | some ns => match f ns with
        | some k => .ok (.int k) c
        | none => .stuck
      | none => .stuck) := A
    obtain ⟨a, ws, rfl, h1, h2⟩ := lstC_at R pd e
    cases z : intsOf xs with
    | none => rw [z] at A; exact A.elim
    | some ns =>
      rw [z] at A
      have A : After (rD K) K I m H W Q (match f ns with
        | some k => .ok (.int k) c
        | none => .stuck) := A
      cases y : f ns with
      | none => rw [y] at A; exact A.elim
      | some k =>
        rw [y] at A
        rw [ints_reps h2 z] at h1
        exact h H a ns k Q h1 y (A.here R (.int k))
end
end L2.Mi
namespace L2.Mi
open PySem
theorem bt_sum : bootBuiltins "sum" = some (.builtin "sum") := by decide +kernel
theorem bt_sorted : bootBuiltins "sorted" = some (.builtin "sorted") := by decide +kernel
end L2.Mi

/-! a written dict of several keys, a new cell -/
namespace L2.Mi
open PySem PySem.Spec PyProof.Rows L2
abbrev MD := Ls → Cs → R (List (D × D))
def rP (K : PySem.W.Frag) : Hp → List Addr → List (V × V) → List (D × D) → Prop := fun I m vs ds => Paired (fun v d => Rep K I m v.1 d.1 ∧ Rep K I m v.2 d.2) vs ds
def dNil : MD := fun _ c => .ok [] c
def dCons (a b : ME) (t : MD) : MD := fun l c => (a l c).bind fun x c1 => (b l c1).bind fun y c2 => (t l c2).bind fun ps c3 => .ok ((x, y) :: ps) c3
/-- the written pairs, read -/
def MPs (K : PySem.W.Frag) (W : WX) (trs : List (TE × TE)) (f : MD) : Prop := ∀ σ H Q, rd (rP K) K W f σ H Q → tPairs trs σ H Q
theorem mps_nil {K : PySem.W.Frag} {W : WX} : MPs K W [] dNil := fun σ H Q ⟨I, m, l, c, R, L, A⟩ => A.here R .nil
theorem mps_cons {K : PySem.W.Frag} {W : WX} {fa fb : ME} {trs : List (TE × TE)} {f : MD} (h : MPs K W trs f) : MPs K W ((rdE K W fa, rdE K W fb) :: trs) (dCons fa fb f) := fun σ H Q ⟨I, m, l, c, R, L, A⟩ =>
  ⟨I, m, l, c, R, L, After.mono (After.bind (rep := rD K) A) fun v1 H1 ⟨I1, m1, c1, d1, E1, R1, p1, A1⟩ =>
    ⟨I1, m1, l, c1, R1, L.ext E1, After.mono (After.bind (rep := rD K) A1) fun v2 H2 ⟨I2, m2, c2, d2, E2, R2, p2, A2⟩ =>
      h σ H2 _ ⟨I2, m2, l, c2, R2, (L.ext E1).ext E2, After.mono (After.bind (rep := rP K) A2) fun vs H3 ⟨I3, m3, c3, ds, E3, R3, p3, A3⟩ =>
        A3.here R3 (.cons ⟨Rep.ext (Rep.ext p1 E2) E3, Rep.ext p2 E3⟩ p3)⟩⟩⟩
def keyed : List (D × D) → Option (List (Key × D))
  | [] => some []
  | (.int i, d) :: r => match keyed r with
    | some ks => some ((.inl i, d) :: ks)
    | none => none
  | (.str s, d) :: r => match keyed r with
    | some ks => some ((.inr s, d) :: ks)
    | none => none
  | _ :: _ => none
theorem keyed_reps {K : PySem.W.Frag} {I : Hp} {m : List Addr} : ∀ {vs : List (V × V)} {ds : List (D × D)} {ks : List (Key × D)}, rP K I m vs ds → keyed ds = some ks → ∃ kvs : List (Key × V), vs = kvs.map (fun kv => (kV kv.1, kv.2)) ∧ RepK K I m kvs ks
  | _, _, _, .nil, e => by cases e; exact ⟨[], rfl, .nil⟩
  | _, _, _, .cons (a := v) (b := d) (l₂ := ds) h t, e => by
    obtain ⟨v1, v2⟩ := v
    obtain ⟨d1, d2⟩ := d
    obtain ⟨p1, p2⟩ := h
    have p1 : Rep K I m v1 d1 := p1
    have p2 : Rep K I m v2 d2 := p2
    cases p1 with
    | int i =>
      have e : (match keyed ds with
        | some ks => some ((Sum.inl i, d2) :: ks)
        | none => none) = some _ := e
      cases q : keyed ds with
      | none => rw [q] at e; cases e
      | some ks =>
        rw [q] at e
        cases e
        obtain ⟨kvs, rfl, r⟩ := keyed_reps t q
        exact ⟨(.inl i, v2) :: kvs, rfl, .cons p2 r⟩
    | str i =>
      have e : (match keyed ds with
        | some ks => some ((Sum.inr i, d2) :: ks)
        | none => none) = some _ := e
      cases q : keyed ds with
      | none => rw [q] at e; cases e
      | some ks =>
        rw [q] at e
        cases e
        obtain ⟨kvs, rfl, r⟩ := keyed_reps t q
        exact ⟨(.inr i, v2) :: kvs, rfl, .cons p2 r⟩
    | _ => cases e
def mergeKD (kvs more : List (Key × D)) : List (Key × D) := more.foldl (fun acc kv => putKD acc kv.1 kv.2) kvs
theorem RepK.merge {K : PySem.W.Frag} {I : Hp} {m : List Addr} : ∀ {more : List (Key × V)} {rs : List (Key × D)} {kvs : List (Key × V)} {ds : List (Key × D)}, RepK K I m more rs → RepK K I m kvs ds → RepK K I m (mergeK kvs more) (mergeKD ds rs)
  | _, _, _, _, .nil, r => r
  | _, _, _, _, .cons (k := k) (v := v) (vs := vs) (d := d) (ds := ds) h t, r => by
    have q := RepK.merge t (RepK.put (k := k) h r)
    exact q
def mDict (f : MD) : ME := fun l c => (f l c).bind fun ps c1 => match keyed ps with
  | some ks => if ks.length ≤ 15 then .ok (.ref c1.length) (c1 ++ [.dct (mergeKD [] ks)]) else .stuck
  | none => .stuck
theorem me_dict {X : Cx} {W : WX} {pos : Pos} {keys : List (Option Expr)} {values : List Expr} {trs : List (TE × TE)} {f : MD} (h : PPs X pos keys values trs) (hm : MPs X.K W trs f) (hall : keys.all (·.isSome) = true) (hl : keys.length = values.length) (h0 : keys ≠ []) (h15 : keys.length ≤ 15) : PE X (.Dict keys values pos) (rdE X.K W (mDict f)) :=
  PEi (pe_disp h hall hl h0 h15) fun σ H Q ⟨I, m, l, c, R, L, A⟩ => by
    intro p np
    have nI := R.same.free np
    have nm := R.fresh np
    have E0 : Ext I m H I m (upd H p (.dK [])) := ⟨Same.refl I, Pre.refl m, fun b o h1 hT h2 h3 => ⟨by rw [upd_ne (ne_of_none h1 np)]; exact h1, h2, h3⟩⟩
    refine hm σ _ _ ⟨I, m, l, c, R.sideO (fun x z => by rw [np] at z; cases z) (fun o z => by rw [np] at z; first | (cases z; done) | (cases z; exact ⟨(fun _ q => nomatch q), (fun _ q => nomatch q)⟩)) nI nm, L, After.mono (After.bindAt (rep := rP X.K) A E0) fun v H2 ⟨I2, m2, c2, d2, E2, R2, p2, A2⟩ => ?_⟩
    obtain ⟨f1, f2, f3⟩ := E2.fr p _ upd_same ⟨⟨(fun _ z => nomatch z), (fun _ z => nomatch z)⟩, (fun _ z => nomatch z)⟩ nI nm
    have A2 : After (rD X.K) X.K I m H _ _ (match keyed d2 with
      | some ks => if ks.length ≤ 15 then .ok (.ref c2.length) (c2 ++ [.dct (mergeKD [] ks)]) else .stuck
      | none => .stuck) := A2
    cases q : keyed d2 with
    | none => rw [q] at A2; exact A2.elim
    | some ks =>
      rw [q] at A2
      obtain ⟨kvs, e, r⟩ := keyed_reps p2 q
      by_cases z : ks.length ≤ 15
      · have A2 : After (rD X.K) X.K I m H _ _ (if ks.length ≤ 15 then .ok (.ref c2.length) (c2 ++ [.dct (mergeKD [] ks)]) else .stuck) := A2
        rw [if_pos z] at A2
        refine ⟨f1, kvs, e, by rw [r.length]; exact z, ?_⟩
        have R3 : Rel X.K I2 (upd H2 p (.dK (mergeK [] kvs))) m2 c2 := R2.sideO (fun x z => by rw [f1] at z; cases z) (fun o z => by rw [f1] at z; first | (cases z; done) | (cases z; exact ⟨(fun _ q => nomatch q), (fun _ q => nomatch q)⟩)) f2 f3
        have R4 : Rel X.K I2 (upd H2 p (.dK (mergeK [] kvs))) (m2 ++ [p]) (c2 ++ [.dct (mergeKD [] ks)]) := R3.adoptC f3 f2 (fun x z => by rw [upd_same] at z; cases z) (fun o z => by rw [upd_same] at z; first | (cases z; done) | (cases z; exact ⟨(fun _ q => nomatch q), (fun _ q => nomatch q)⟩)) ⟨f2, mergeK [] kvs, upd_same, (RepK.merge r .nil).mono (Same.refl _) (pre_app _ _)⟩
        refine A2 _ _ _ _ ⟨(E0.trans E2).same, (E0.trans E2).pre.trans (pre_app _ _), fun b o h1 hT h2 h3 => ?_⟩ R4 (.ref ?_)
        · obtain ⟨q1, q2, q3⟩ := (E0.trans E2).fr b o h1 hT h2 h3
          have nb : b ≠ p := ne_of_none h1 np
          refine ⟨by rw [upd_ne nb]; exact q1, q2, fun z => ?_⟩
          rcases List.mem_append.mp z with z | z
          · exact q3 z
          · simp only [List.mem_singleton] at z; exact nb z
        · rw [← R2.len, List.getElem?_append_right (Nat.le_refl _), Nat.sub_self]
          rfl
      · have A2 : After (rD X.K) X.K I m H _ _ (if ks.length ≤ 15 then .ok (.ref c2.length) (c2 ++ [.dct (mergeKD [] ks)]) else .stuck) := A2
        rw [if_neg z] at A2; exact A2.elim
end L2.Mi

/-! dict(pairs) -/
namespace L2.Mi
open PySem PySem.Spec PyProof.Rows L2
section
variable {K : PySem.W.Frag} {I H : Hp} {m : List Addr} {c : Cs}
def keyOf : D → Option Key
  | .int i => some (.inl i)
  | .str s => some (.inr s)
  | _ => none
end
end L2.Mi

/-! [*xs, ..] -/
namespace L2.Mi
open PySem PySem.Spec PyProof.Rows L2
section
variable {X : Cx} {W : WX} {e : Expr} {es : List Expr} {fa : ME} {ga : MA} {p : Pos}
end
end L2.Mi

/-! range(a, b, c) -/
namespace L2.Mi
open PySem PySem.Spec PyProof.Rows L2
def rangeC (lo s : Int) (n : Nat) : List D := (List.range n).map fun i => .int (lo + (i : Nat) * s)
def r3ok (i j s : Int) : Prop := s ≠ 0 ∧ s.natAbs < 1073741824 ∧ Builtin.Range.small i j s = true ∧ 0 ≤ Builtin.Range.rangeSize i j s
instance (i j s : Int) : Decidable (r3ok i j s) := inferInstanceAs (Decidable (s ≠ 0 ∧ s.natAbs < 1073741824 ∧ Builtin.Range.small i j s = true ∧ 0 ≤ Builtin.Range.rangeSize i j s))
def r3 (i j s : Int) (c : Cs) : R (List D) := if r3ok i j s then .ok (rangeC i s (Builtin.Range.rangeSize i j s).toNat) c else .stuck
end L2.Mi

/-! zip and enumerate over lists, tuples, texts in any mix -/
namespace L2.Mi
open PySem PySem.Spec PyProof.Rows L2

inductive Sr where
  | l (a : Addr)
  | t (a : Addr)
  | s (z : Str)
def Sr.v : Sr → V
  | .l a => .ref a
  | .t a => .ref a
  | .s z => .str z
def Sr.adr : Sr → List Addr
  | .l a => [a]
  | .t a => [a]
  | .s _ => []
def signsV (z : Str) : List V := z.cps.toList.map fun k => .str ⟨#[k]⟩
def Sr.Items (K : PySem.W.Frag) (H : Hp) (vs : List V) : Sr → Prop
  | .l a => SqL K H a vs
  | .t a => SqT K H a vs
  | .s z => vs = signsV z
def Sr.Itr (it : Addr) (i : Nat) (h : Heap) : Sr → Prop
  | .l a => h.IsListIter it a i
  | .t a => h.IsTupleIter it a i
  | .s z => ∃ t, h.IsStrIter it (strIterType z) z t i
theorem Sr.obj {src : Sr} {it : Addr} {i : Nat} {h : Heap} (st : src.Itr it i h) : ∃ o, h.get? it = some o ∧ ∀ v, o.data ≠ .cell v := by
  cases src with
  | l a => obtain ⟨o, h1, h2, h3⟩ := st; exact ⟨o, h1, fun v q => by rw [h3] at q; cases q⟩
  | t a => obtain ⟨o, h1, h2, h3⟩ := st; exact ⟨o, h1, fun v q => by rw [h3] at q; cases q⟩
  | s z => obtain ⟨t, o, h1, h2, h3⟩ := st; exact ⟨o, h1, fun v q => by rw [h3] at q; cases q⟩
theorem Sr.at {src : Sr} {it : Addr} {i : Nat} {h h' : Heap} (st : src.Itr it i h) (k : ∀ o, h.get? it = some o → h'.get? it = some o) : src.Itr it i h' := by
  cases src with
  | l a => obtain ⟨o, h1, h2⟩ := st; exact ⟨o, k o h1, h2⟩
  | t a => obtain ⟨o, h1, h2⟩ := st; exact ⟨o, k o h1, h2⟩
  | s z => obtain ⟨t, o, h1, h2⟩ := st; exact ⟨t, o, k o h1, h2⟩
theorem paired_getR {α β : Type} {R : α → β → Prop} : ∀ {xs : List α} {ys : List β} {j : Nat} {y : β}, Paired R xs ys → ys[j]? = some y → ∃ x, xs[j]? = some x ∧ R x y
  | _, _, _, _, .nil, e => by simp at e
  | _, _, 0, _, .cons h _, e => by simp at e; subst e; exact ⟨_, rfl, h⟩
  | _, _, j + 1, y, .cons _ t, e => by
    obtain ⟨x, h1, h2⟩ := paired_getR (j := j) (y := y) t (by simpa using e)
    exact ⟨x, by simpa using h1, h2⟩
section
variable {X : Cx} {pins : List (Addr × Obj)} {σ : St} {H : Hp} {s : Shared}
theorem Sr.inj {src : Sr} {xs ys : List V} (I : Inv X pins σ H s) (h1 : src.Items X.K H xs) (h2 : src.Items X.K H ys) : xs = ys := by
  cases src with
  | l a => exact I.list_inj h1 h2
  | t a => exact I.tuple_inj h1 h2
  | s z => exact (show xs = signsV z from h1).trans (show ys = signsV z from h2).symm
theorem Sr.lt {src : Sr} {xs : List V} (I : Inv X pins σ H s) (h1 : src.Items X.K H xs) : ∀ a ∈ src.adr, a < s.heap.objs.size := by
  cases src with
  | l a =>
    obtain ⟨its, rv, p, _⟩ := I.list h1
    intro b hb
    rw [List.mem_singleton.mp hb]
    exact p.lt
  | t a =>
    obtain ⟨its, rv, p, _⟩ := I.tuple h1
    intro b hb
    rw [List.mem_singleton.mp hb]
    obtain ⟨o, e, _⟩ := (show s.heap.IsTuple a its.toArray from p)
    exact Heap.lt_size e
  | s z => intro b hb; cases hb
theorem Sr.draws {src : Sr} {it : Addr} {i : Nat} {vs : List V} (I : Inv X pins σ H s) (hc : X.calm = true) (hq : src.Items X.K H vs) (st : src.Itr it i s.heap) (hne : ∀ a ∈ src.adr, a ≠ it) :
    ∃ (P : Nat → Value → Prop) (S : Nat → Heap → Prop), Draws X.prog X.w X.A.in1 it (it :: src.adr) vs.length P S ∧ S i s.heap ∧ (∀ j h, S j h → src.Itr it j h) ∧ ∀ j u, P j u → ∃ x, vs[j]? = some x ∧ RelV x u := by
  have hh : X.A.in1.handled = none := I.ok.hd hc
  cases src with
  | l a =>
    obtain ⟨its, rv, p, hz⟩ := I.list hq
    refine ⟨fun i v => its.toArray[i]? = some v, fun i h => h.IsListIter it a i ∧ h.IsList a its.toArray, by have := Draws.list (prog := X.prog) (w := X.w) hh it a (hne a (by simp [Sr.adr])) its.toArray; rw [List.size_toArray, ← rv.length] at this; exact this, ⟨st, p.isList⟩, fun j h q => q.1, fun j u q => ?_⟩
    have q : its[j]? = some u := by simpa using q
    exact paired_getR rv q
  | t a =>
    obtain ⟨its, rv, p, hz⟩ := I.tuple hq
    refine ⟨fun i v => its.toArray[i]? = some v, fun i h => h.IsTupleIter it a i ∧ h.IsTuple a its.toArray, by have := Draws.tuple (prog := X.prog) (w := X.w) hh it a (hne a (by simp [Sr.adr])) its.toArray; rw [List.size_toArray, ← rv.length] at this; exact this, ⟨st, p⟩, fun j h q => q.1, fun j u q => ?_⟩
    have q : its[j]? = some u := by simpa using q
    exact paired_getR rv q
  | s z =>
    obtain ⟨t, st⟩ := st
    have hv : vs = signsV z := hq
    subst hv
    refine ⟨_, _, by have := Draws.text (prog := X.prog) (w := X.w) hh it z t; rw [show z.cps.size = (signsV z).length by simp [signsV]] at this; exact this, st, fun j h q => ⟨t, q⟩, fun j u q => ?_⟩
    obtain ⟨c, u', hc', rfl⟩ := q
    refine ⟨.str ⟨#[c]⟩, ?_, ⟨_, rfl⟩⟩
    unfold signsV
    rw [List.getElem?_map, Array.getElem?_toList, hc']
    rfl
theorem Sr.begins {src : Sr} {vs : List V} {u : Value} (I : Inv X pins σ H s) (hq : src.Items X.K H vs) (r : RelV src.v u) :
    ∃ (o : Obj) (G : Heap → Prop), Begins u o G ∧ G s.heap ∧ ∀ (h : Heap) (it : Addr), h.get? it = some o → src.Itr it 0 h := by
  cases src with
  | l a =>
    cases r
    obtain ⟨its, rv, p, hz⟩ := I.list hq
    exact ⟨_, _, begins_list a its.toArray, p.isList, fun h it e => ⟨_, e, rfl, rfl⟩⟩
  | t a =>
    cases r
    obtain ⟨its, rv, p, hz⟩ := I.tuple hq
    exact ⟨_, _, begins_tuple a its.toArray, p, fun h it e => ⟨_, e, rfl, rfl⟩⟩
  | s z =>
    obtain ⟨t, rfl⟩ := r
    exact ⟨_, _, begins_text z t, trivial, fun h it e => ⟨t, _, e, rfl, rfl⟩⟩
end

/-! ### zip -/
def ItzG (K : PySem.W.Frag) (s1 s2 : Sr) : It :=
  ⟨fun i H => ∃ (xs ys : List V) (x y : V), s1.Items K H xs ∧ s2.Items K H ys ∧ xs[i]? = some x ∧ ys[i]? = some y,
    fun i H v H' => ∃ T x y, v = .ref T ∧ H T = none ∧ H' = upd H T (.tup [x, y]) ∧ (∀ xs, s1.Items K H xs → xs[i]? = some x) ∧ ∀ ys, s2.Items K H ys → ys[i]? = some y,
    fun i H => ∃ xs ys : List V, s1.Items K H xs ∧ s2.Items K H ys ∧ i ≤ xs.length ∧ i ≤ ys.length ∧ (i = xs.length ∨ i = ys.length)⟩
theorem turn_zipG {P : Program} {w : World} {K : PySem.W.Frag} {elts : List Expr} {kk : Nat} {tpos : Pos} {s1 s2 : Sr} {z TI TO i1 i2 : Addr} (S : ZipSep2 z TI TO i1 i2 (i1 :: s1.adr) (i2 :: s2.adr)) (n1 : ∀ a ∈ s1.adr, a ≠ i1) (n2 : ∀ a ∈ s2.adr, a ≠ i2) :
    Turn P w K (.Tuple elts kk tpos) (ItzG K s1 s2) [z, TI, TO, i1, i2] z (fun i h => IsZip h z TI TO .none ∧ IsTupOf2 h TI (.ref i1) (.ref i2) ∧ (∃ x y, IsTupOf2 h TO x y) ∧ s1.Itr i1 i h ∧ s2.Itr i2 i h) where
  mem := by simp
  obj := fun i h st c hc => by
    obtain ⟨hz, hTI, ⟨x, y, hTO⟩, h1, h2⟩ := st
    have e' : c = z ∨ c = TI ∨ c = TO ∨ c = i1 ∨ c = i2 := by simpa using hc
    rcases e' with q | q | q | q | q
    · rw [q]; exact ⟨_, hz, fun v q => nomatch q⟩
    · rw [q]; exact ⟨_, hTI, fun v q => nomatch q⟩
    · rw [q]; exact ⟨_, hTO, fun v q => nomatch q⟩
    · rw [q]; exact Sr.obj h1
    · rw [q]; exact Sr.obj h2
  keep := fun i h h' st k => by
    obtain ⟨hz, hTI, ⟨x, y, hTO⟩, h1, h2⟩ := st
    exact ⟨k z (by simp) _ hz, k TI (by simp) _ hTI, ⟨x, y, k TO (by simp) _ hTO⟩, Sr.at h1 fun o q => k i1 (by simp) o q, Sr.at h2 fun o q => k i2 (by simp) o q⟩
  item := by
    intro X hP hw hK hc i pins s σ H E I hf st hg
    subst hP hw hK
    obtain ⟨hz, hTI, ⟨x0, y0, hTO⟩, h1, h2⟩ := st
    obtain ⟨xs, ys, x, y, hqx, hqy, hx, hy⟩ := hg
    obtain ⟨P1, S1, D1, q1, r1, p1⟩ := Sr.draws I hc hqx h1 n1
    obtain ⟨P2, S2, D2, q2, r2, p2⟩ := Sr.draws I hc hqy h2 n2
    have hzl : z < s.heap.objs.size := Heap.lt_size hz
    refine wpAny_pyNext_zipD2_item S D1 D2 hz hTI hTO q1 q2 (List.getElem?_eq_some_iff.mp hx).1 (List.getElem?_eq_some_iff.mp hy).1 fun u u2 h' tk y1 y2 z' TO' h1' h2' hT hsz hk => ?_
    refine ⟨_, rfl, wpAny_letOwnedTupleGo_zip (s := { s with heap := h', toks := tk }) z' fun h'' z'' sb => ?_⟩
    obtain ⟨x', hx', ru⟩ := p1 _ _ y1
    obtain ⟨y', hy', ru2⟩ := p2 _ _ y2
    rw [hx] at hx'; cases hx'
    rw [hy] at hy'; cases hy'
    have hT2 : h''.get? s.heap.objs.size = some { cls := .type "tuple", data := .seq #[u, u2] } := (sb.2 _ (Nat.ne_of_gt hzl)).trans hT
    have new : ObjOk X.prog X.w (upd H s.heap.objs.size (.tup [x, y])) h'' s.heap.objs.size (.tup [x, y]) :=
      ⟨by show 2 ≤ sizeLine; decide, [u, u2], .cons ru (.cons ru2 .nil), ⟨_, hT2, rfl, _, rfl⟩⟩
    have I1 : Inv X pins σ (upd H s.heap.objs.size (.tup [x, y])) { s with heap := h'', toks := tk } :=
      I.turnedNew (t' := tk) (ch := [z, TI, TO, i1, i2]) (fun c o hb q => (sb.2 c (fun q' => hb (by simp [q']))).trans (hk c o (fun q' => hb (by simp [q'])) (fun q' => hb (by simp [q'])) (fun q' => hb (by simp [q'])) (fun q' => hb (by simp [q'])) q)) hf (Nat.le_refl _) new
    refine ⟨.ref s.heap.objs.size, _, I1, rfl, ⟨_, x, y, rfl, I.hok.fresh (Nat.le_refl _), rfl, fun l hl => by rw [Sr.inj I hl hqx]; exact hx, fun l hl => by rw [Sr.inj I hl hqy]; exact hy⟩, ⟨z'', ?_, ⟨u, u2, ?_⟩, ?_, ?_⟩, fun c hcm => ?_⟩
    · exact (sb.2 _ S.TIz).trans (hk _ _ S.TIz S.TITO S.TIi1 S.TIi2 hTI)
    · exact (sb.2 _ S.TOz).trans TO'
    · exact Sr.at (r1 _ _ h1') fun o q => (sb.2 _ (Ne.symm S.zi1)).trans q
    · exact Sr.at (r2 _ _ h2') fun o q => (sb.2 _ (Ne.symm S.zi2)).trans q
    · have hlt : c < s.heap.objs.size := by
        have e' : c = z ∨ c = TI ∨ c = TO ∨ c = i1 ∨ c = i2 := by simpa using hcm
        rcases e' with q | q | q | q | q
        · rw [q]; exact hzl
        · rw [q]; exact Heap.lt_size hTI
        · rw [q]; exact Heap.lt_size hTO
        · rw [q]; obtain ⟨_, e1, _⟩ := Sr.obj h1; exact Heap.lt_size e1
        · rw [q]; obtain ⟨_, e2, _⟩ := Sr.obj h2; exact Heap.lt_size e2
      rw [upd_ne (Nat.ne_of_lt hlt)]
      exact (hf c hcm).1
  done := by
    intro X hP hw hK hc i pins s σ H E I hf st hg
    subst hP hw hK
    obtain ⟨hz, hTI, ⟨x0, y0, hTO⟩, h1, h2⟩ := st
    obtain ⟨xs, ys, hqx, hqy, l1, l2, hend⟩ := hg
    obtain ⟨P1, S1, D1, q1, r1, p1⟩ := Sr.draws I hc hqx h1 n1
    obtain ⟨P2, S2, D2, q2, r2, p2⟩ := Sr.draws I hc hqy h2 n2
    exact wpAny_pyNext_zipD2_end S D1 D2 hz hTI hTO q1 q2 l1 l2 hend fun h' tk hk => ⟨rfl, I.turnedL (t' := tk) (ch := [z, TI, TO, i1, i2]) (fun c o hb q =>
      hk c o (fun q' => hb (by simp [q'])) (fun q' => hb (by simp [q'])) (fun q' => hb (by simp [q'])) (fun q' => hb (by simp [q'])) q) hf⟩
  self := fun A i s Q E st h => wpAny_pyIter_zip st.1 h
def iZipG (K : PySem.W.Frag) (ta : TA) : TI := fun σ H R => ta σ H fun vs H1 => ∃ (s1 s2 : Sr) (xs ys : List V), vs = [s1.v, s2.v] ∧ s1.Items K H1 xs ∧ s2.Items K H1 ys ∧ R (ItzG K s1 s2) H1
theorem pi_zipG {X : Cx} {e e2 : Expr} {ta : TA} {p pos tpos : Pos} {elts : List Expr} {kk : Nat} (hg : Gl X "zip") (hm : X.mg "zip" = none) (ha : PA X [e, e2] ta)
    (hs : starEach [e, e2] X.env = (false, eval e X.env) :: starEach [e2] X.env := by rfl) (hpl : (backTo pos (starEach [e2] X.env)).any (·.1) = false := by rfl) :
    PI X (.Tuple elts kk tpos) (.Call (.Name "zip" p) [e, e2] [] pos) (iZipG X.K ta) := by
  refine ⟨fun pins s σ H R I h => ?_⟩
  refine Call_ (ld_blt I hg hm PyProof.Rows.boot_zip (PyProof.Rows.callWith_type1 (thn (ha.run pos pins s σ H _ I h) fun us s1 ⟨vs, H1, I1, r1, q1⟩ => ?_) hs hpl))
  obtain ⟨c1, c2, xs, ys, ex, hqx, hqy, q⟩ := q1
  subst ex
  cases r1 with
  | cons r rr =>
    cases rr with
    | cons r' rr =>
      cases rr
      obtain ⟨o1, G1, B1, g1, b1⟩ := Sr.begins I1 hqx r
      obtain ⟨o2, G2, B2, g2, b2⟩ := Sr.begins I1 hqy r'
      have la := Sr.lt I1 hqx
      have lb := Sr.lt I1 hqy
      refine zip_begins2 B1 B2 g1 g2 fun h' hz hTI hTO e1 e2 hsz hk => wpAny_pyIter_zip hz ?_
      have I2 : Inv X pins σ H1 { s1 with heap := h' } := I1.kept (t' := s1.toks) hk
      refine ⟨s1.heap.objs.size + 4, [s1.heap.objs.size + 4, s1.heap.objs.size + 2, s1.heap.objs.size + 3, s1.heap.objs.size, s1.heap.objs.size + 1], _, _, H1, rfl, I2, turn_zipG (s1 := c1) (s2 := c2) ?_ (fun a h => Nat.ne_of_lt (la a h)) (fun a h => Nat.ne_of_lt (Nat.lt_succ_of_lt (lb a h))), ⟨hz, hTI, ⟨_, _, hTO⟩, b1 _ _ e1, b2 _ _ e2⟩, fun c hcm => ?_, q⟩
      · have n1 : ∀ k : Nat, s1.heap.objs.size + k ∉ c1.adr := fun k h => Nat.not_lt.mpr (Nat.le_add_right s1.heap.objs.size k) (la _ h)
        have n2 : ∀ k : Nat, s1.heap.objs.size + k ∉ c2.adr := fun k h => Nat.not_lt.mpr (Nat.le_add_right s1.heap.objs.size k) (lb _ h)
        exact {
          TIz := show (s1.heap.objs.size + 2 : Nat) ≠ s1.heap.objs.size + 4 by omega
          TOz := show (s1.heap.objs.size + 3 : Nat) ≠ s1.heap.objs.size + 4 by omega
          TITO := show (s1.heap.objs.size + 2 : Nat) ≠ s1.heap.objs.size + 3 by omega
          TIi1 := show (s1.heap.objs.size + 2 : Nat) ≠ s1.heap.objs.size by omega
          mem1 := List.mem_cons_self
          zf1 := fun h => (List.mem_cons.mp h).elim (fun h => absurd (show (s1.heap.objs.size + 4 : Nat) = s1.heap.objs.size from h) (by omega)) (n1 4)
          Tf1 := fun h => (List.mem_cons.mp h).elim (fun h => absurd (show (s1.heap.objs.size + 3 : Nat) = s1.heap.objs.size from h) (by omega)) (n1 3)
          TIi2 := show (s1.heap.objs.size + 2 : Nat) ≠ s1.heap.objs.size + 1 by omega
          mem2 := List.mem_cons_self
          zf2 := fun h => (List.mem_cons.mp h).elim (fun h => absurd (show (s1.heap.objs.size + 4 : Nat) = s1.heap.objs.size + 1 from h) (by omega)) (n2 4)
          Tf2 := fun h => (List.mem_cons.mp h).elim (fun h => absurd (show (s1.heap.objs.size + 3 : Nat) = s1.heap.objs.size + 1 from h) (by omega)) (n2 3)
          sep1_2 := fun h => (List.mem_cons.mp h).elim (fun h => absurd (show (s1.heap.objs.size : Nat) = s1.heap.objs.size + 1 from h) (by omega)) (n2 0)
          sep2_1 := fun h => (List.mem_cons.mp h).elim (fun h => absurd (show (s1.heap.objs.size + 1 : Nat) = s1.heap.objs.size from h) (by omega)) (n1 1) }
      · have e' : c = s1.heap.objs.size + 4 ∨ c = s1.heap.objs.size + 2 ∨ c = s1.heap.objs.size + 3 ∨ c = s1.heap.objs.size ∨ c = s1.heap.objs.size + 1 := by simpa using hcm
        have hle : s1.heap.objs.size ≤ c := by
          rcases e' with z | z | z | z | z <;> rw [z] <;> first | exact Nat.le_refl _ | exact Nat.le_add_right _ _
        exact I1.fpOk hle (I1.hok.fresh hle)

/-! ### enumerate -/
/-! ### over plain values -/
def seqW (x : D) (c : Cs) : Option (List D) := match x with
  | .lst ds => some ds
  | .ro ds => some ds
  | .tup ds => some ds
  | .str s => some (chrs s)
  | .ref k => cellL k c
  | _ => none
theorem reps_signs {K : PySem.W.Frag} {I : Hp} {m : List Addr} (z : Str) : Reps K I m (signsV z) (chrs z) := by
  unfold signsV chrs
  generalize z.cps.toList = ks
  induction ks with
  | nil => exact .nil
  | cons k ks ih => exact .cons (.str _) ih
theorem cellL_at {K : PySem.W.Frag} {I H : Hp} {m : List Addr} {c : Cs} {k : Nat} {a : Addr} {ds : List D} (R : Rel K I H m c) (hk : m[k]? = some a) (e : cellL k c = some ds) : ∃ vs, SqL K H a vs ∧ Reps K I m vs ds := by
  unfold cellL at e
  cases q : c[k]? with
  | none => rw [q] at e; cases e
  | some x =>
    rw [q] at e
    have hc := R.cell k a x hk q
    cases x with
    | lst xs => cases e; obtain ⟨_, vs, h1, h2⟩ := hc; exact ⟨vs, SqL.of h1, h2⟩
    | frz d =>
      cases d with
      | lst xs =>
        cases e
        obtain ⟨_, hr⟩ := hc
        cases hr with
        | lst h1 h2 => exact ⟨_, SqL.of (R.same _ _ h1), h2⟩
      | _ => cases e
    | _ => cases e
theorem seqW_src {K : PySem.W.Frag} {I H : Hp} {m : List Addr} {c : Cs} {v : V} {x : D} {ds0 : List D} (hv : Rep K I m v x) (h0 : seqW x c = some ds0) :
    ∃ src : Sr, v = src.v ∧ ∀ (I' H' : Hp) (m' : List Addr) (c' : Cs) (ds : List D), Same I I' → Pre m m' → Rel K I' H' m' c' → seqW x c' = some ds → ∃ vs, src.Items K H' vs ∧ Reps K I' m' vs ds := by
  cases hv with
  | @lst a vs ds h r => exact ⟨.l a, rfl, fun I' H' m' c' ds s p R e => by cases e; exact ⟨vs, SqL.of (R.same _ _ (s _ _ h)), r.mono s p⟩⟩
  | @ro a vs ds h r => exact ⟨.l a, rfl, fun I' H' m' c' ds s p R e => by cases e; exact ⟨vs, R.same.seq (s.seq h), r.mono s p⟩⟩
  | @tup a vs ds h r => exact ⟨.t a, rfl, fun I' H' m' c' ds s p R e => by cases e; exact ⟨vs, sqT_same R.same (sqT_same s h), r.mono s p⟩⟩
  | str z => exact ⟨.s z, rfl, fun I' H' m' c' ds s p R e => by cases e; exact ⟨_, rfl, reps_signs z⟩⟩
  | @ref k a hk => exact ⟨.l a, rfl, fun I' H' m' c' ds s p R e => cellL_at R (p _ _ hk) e⟩
  | _ => cases h0
def zipW (x y : D) : Wk := fun i c => match seqW x c, seqW y c with
  | some xs, some ys => match xs[i]?, ys[i]? with
    | some a, some b => some (some (.tup [a, b]))
    | _, _ => if i ≤ xs.length ∧ i ≤ ys.length then some none else none
  | _, _ => none
theorem new_tup {K : PySem.W.Frag} {I H : Hp} {m : List Addr} {c : Cs} {T : Addr} {vs : List V} {ds : List D} (R : Rel K I H m c) (np : H T = none) (r : Reps K I m vs ds) :
    ∃ I'', Ext I m H I'' m (upd H T (.tup vs)) ∧ Rel K I'' (upd H T (.tup vs)) m c ∧ Rep K I'' m (.ref T) (.tup ds) := by
  obtain ⟨r1, e1⟩ := alloc (o := .tup vs) R np
  exact ⟨_, e1, r1, .tup (Or.inl (Or.inl upd_same)) (r.mono e1.same (Pre.refl _)) (.inl upd_same)⟩
theorem walks_zip {K : PySem.W.Frag} {I : Hp} {m : List Addr} {x y : D} {s1 s2 : Sr} (h1 : ∀ (I' H' : Hp) (m' : List Addr) (c' : Cs) (ds : List D), Same I I' → Pre m m' → Rel K I' H' m' c' → seqW x c' = some ds → ∃ vs, s1.Items K H' vs ∧ Reps K I' m' vs ds)
    (h2 : ∀ (I' H' : Hp) (m' : List Addr) (c' : Cs) (ds : List D), Same I I' → Pre m m' → Rel K I' H' m' c' → seqW y c' = some ds → ∃ vs, s2.Items K H' vs ∧ Reps K I' m' vs ds) : WalksW K I m (ItzG K s1 s2) (zipW x y) := fun i I' H m' c s p R => by
  unfold zipW
  cases q1 : seqW x c with
  | none => exact ⟨fun d e => by simp at e, fun e => by simp at e⟩
  | some xs =>
    cases q2 : seqW y c with
    | none => exact ⟨fun d e => by simp at e, fun e => by simp at e⟩
    | some ys =>
      obtain ⟨vs, i1, r1⟩ := h1 I' H m' c xs s p R q1
      obtain ⟨us, i2, r2⟩ := h2 I' H m' c ys s p R q2
      have fin : xs[i]? = none ∨ ys[i]? = none → (if i ≤ xs.length ∧ i ≤ ys.length then some none else none : Option (Option D)) = some none → (ItzG K s1 s2).stop i H := fun hn e => by
        by_cases hle : i ≤ xs.length ∧ i ≤ ys.length
        · refine ⟨vs, us, i1, i2, by rw [r1.length]; exact hle.1, by rw [r2.length]; exact hle.2, ?_⟩
          rw [r1.length, r2.length]
          rcases hn with hn | hn
          · have := List.getElem?_eq_none_iff.mp hn; exact .inl (by omega)
          · have := List.getElem?_eq_none_iff.mp hn; exact .inr (by omega)
        · rw [if_neg hle] at e; cases e
      cases qa : xs[i]? with
      | none => simp only [qa]; exact ⟨fun d e => by split at e <;> simp at e, fun e => fin (.inl qa) e⟩
      | some a =>
        cases qb : ys[i]? with
        | none => simp only [qa, qb]; exact ⟨fun d e => by split at e <;> simp at e, fun e => fin (.inr qb) e⟩
        | some b =>
          simp only [qa, qb]
          refine ⟨fun d e => ?_, fun e => by simp at e⟩
          have e : D.tup [a, b] = d := by simpa using e
          subst e
          obtain ⟨va, hva, pa⟩ := r1.get qa
          obtain ⟨vb, hvb, pb⟩ := r2.get qb
          refine ⟨⟨vs, us, va, vb, i1, i2, hva, hvb⟩, fun z H' yl => ?_⟩
          obtain ⟨T, x', y', rfl, hT, rfl, f1, f2⟩ := yl
          have e1 := f1 vs i1
          have e2 := f2 us i2
          rw [hva] at e1; cases e1
          rw [hvb] at e2; cases e2
          obtain ⟨I2, g1, g2, g3⟩ := new_tup R hT (.cons pa (.cons pb .nil))
          exact ⟨I2, g1, g2, g3⟩
def kZip (t : MA) : MK := fun l c => (t l c).bind fun xs c1 => match xs with
  | [x, y] => if (seqW x c1).isSome = true ∧ (seqW y c1).isSome = true then .ok (zipW x y) c1 else .stuck
  | _ => .stuck
theorem mk_zip {X : Cx} {W : WX} {tg it : Expr} {ga : MA} (h : PI X tg it (iZipG X.K (rdA X.K W ga))) : PI X tg it (rdK X.K W (kZip ga)) := PIi h fun σ H Q ⟨I, m, l, c, R, L, A⟩ =>
  ⟨I, m, l, c, R, L, After.mono (After.bind (rep := rA X.K) A) fun v1 H1 ⟨I1, m1, c1, d1, E1, R1, p1, A1⟩ => by
    have p1 : Reps X.K I1 m1 v1 d1 := p1
    match d1, p1 with
    | [x, y], .cons hx (.cons hy .nil) =>
      have A2 : After (rW X.K) X.K I1 m1 H1 (fun cls dd H' => W cls dd σ H') Q (if (seqW x c1).isSome = true ∧ (seqW y c1).isSome = true then .ok (zipW x y) c1 else .stuck) := A1
      by_cases hs : (seqW x c1).isSome = true ∧ (seqW y c1).isSome = true
      · rw [if_pos hs] at A2
        obtain ⟨dx, ex⟩ := Option.isSome_iff_exists.mp hs.1
        obtain ⟨dy, ey⟩ := Option.isSome_iff_exists.mp hs.2
        obtain ⟨s1, rfl, f1⟩ := seqW_src (H := H1) hx ex
        obtain ⟨s2, rfl, f2⟩ := seqW_src (H := H1) hy ey
        obtain ⟨vs, i1, _⟩ := f1 I1 H1 m1 c1 dx (Same.refl _) (Pre.refl _) R1 ex
        obtain ⟨us, i2, _⟩ := f2 I1 H1 m1 c1 dy (Same.refl _) (Pre.refl _) R1 ey
        exact ⟨s1, s2, vs, us, rfl, i1, i2, A2.here R1 (walks_zip f1 f2)⟩
      · rw [if_neg hs] at A2; exact A2.elim
    | [], _ => exact A1.elim
    | [_], _ => exact A1.elim
    | _ :: _ :: _ :: _, _ => exact A1.elim⟩
end L2.Mi

/-! x != y by an own ==; str(x) by an own __str__ -/
namespace L2.Mi
open PySem PySem.Spec PyProof.Rows L2

section
variable {X : Cx} {W : WX} {e o a b : Expr} {es : List Expr} {fa fb fo : ME} {ga : MA} {ns : List Str} {pos p : Pos} {k : Nat} {tbl : Tbl} {mm : Str} {g0 : D → D → Cs → R D}
end
/-- the facts of isinstance with an own class -/
theorem kit_mk {K : PySem.W.Frag} {t : Value} {C : Addr} {b : Bool} (h2 : PySem.W.isClsIn K C = true) (h3 : PySem.W.typeIn K (.ref C) = some (.type "type")) (hne : (t == .ref C) = false) (h4 : PySem.W.subIn K t (.ref C) = some b) : PySem.W.kitOne K t (.ref C) = some b := by
  unfold PySem.W.isClsIn at h2
  unfold PySem.W.kitOne PySem.W.kitCls
  rw [hne]
  show (if ((PySem.W.clsIn K C).isSome && PySem.W.typeIn K (.ref C) == some (.type "type")) = true then PySem.W.subIn K t (.ref C) else none) = some b
  rw [if_pos (by rw [h2, h3]; rfl), h4]
theorem kit_self {K : PySem.W.Frag} {C : Addr} : PySem.W.kitOne K (.ref C) (.ref C) = some true := by
  unfold PySem.W.kitOne
  rw [if_pos (by simp)]
theorem all7 {P : String → Prop} (h1 : P "NoneType") (h2 : P "bool") (h3 : P "int") (h4 : P "str") (h5 : P "list") (h6 : P "tuple") (h7 : P "dict") : ∀ t ∈ tyNames, P t := fun t ht => by
  simp only [tyNames, List.mem_cons, List.not_mem_nil, or_false] at ht
  rcases ht with rfl | rfl | rfl | rfl | rfl | rfl | rfl <;> assumption
end L2.Mi

/-! plain reasoning: cells that only grow, walks over typed lists, own objects -/
namespace L2.Mi
open PySem PySem.Spec PyProof.Rows L2

/-- the cells of c stand at the head of c' -/
def Pfx (c c' : Cs) : Prop := ∃ e, c' = c ++ e
theorem Pfx.refl (c : Cs) : Pfx c c := ⟨[], by simp⟩
theorem Pfx.trans {a b c : Cs} (h : Pfx a b) (g : Pfx b c) : Pfx a c := by
  obtain ⟨e, rfl⟩ := h; obtain ⟨f, rfl⟩ := g
  exact ⟨e ++ f, by simp⟩
theorem Pfx.app {a b : Cs} (h : Pfx a b) (x : Cs) : Pfx a (b ++ x) := h.trans ⟨x, rfl⟩
theorem Pfx.one (c x : Cs) : Pfx c (c ++ x) := ⟨x, rfl⟩
theorem Pfx.get {c c' : Cs} {k : Nat} {x : Cell} (h : Pfx c c') (e : c[k]? = some x) : c'[k]? = some x := by
  obtain ⟨f, rfl⟩ := h
  rw [List.getElem?_append_left (List.getElem?_eq_some_iff.mp e).1]
  exact e
theorem Pfx.at {c c' : Cs} (h : Pfx c c') {k : Nat} (hk : k < c.length) : c'[k]? = c[k]? := by
  obtain ⟨f, rfl⟩ := h
  exact List.getElem?_append_left hk
theorem Pfx.len {c c' : Cs} (h : Pfx c c') : c.length ≤ c'.length := by obtain ⟨f, rfl⟩ := h; simp
theorem Pfx.bx {c c' : Cs} {k : Nat} {n : Int} (h : Pfx c c') (b : Bx c k n) : Bx c' k n := by obtain ⟨f, rfl⟩ := h; exact bx_app b f
/-- a cell above the first ones is set -/
theorem Pfx.set {c c' : Cs} (h : Pfx c c') {k : Nat} (hk : c.length ≤ k) (x : Cell) : Pfx c (c'.set k x) := by
  obtain ⟨f, rfl⟩ := h
  exact ⟨f.set (k - c.length) x, by rw [List.set_append_right _ _ hk]⟩
theorem Ok.nox {α : Type} {r : R α} {Q : α → Cs → Prop} (h : Ok r Q) : Ok r.nox Q := by
  obtain ⟨a, c, rfl, q⟩ := h
  exact ⟨a, c, rfl, q⟩
theorem Ok.eq {α : Type} {r : R α} {d : α} {c : Cs} (h : Ok r fun x c' => x = d ∧ c' = c) : r = .ok d c := by
  obtain ⟨a, c', e, rfl, rfl⟩ := h
  exact e

/-! ### comprehensions over typed lists -/
section
variable {α : Type} {g : MG} {t : MT} {e : ME} {l lw : Ls} {c c0 : Cs} {Q : D → Cs → Prop}
/-- .. nothing is changed -/
theorem ok_lcT {it : MK} {js : List Nat} (xs : List α) (enc F : α → D) (P : α → Bool) (hl : xs.length ≤ 1000000)
    (hit : Ok (it l c) fun w c1 => c1 = c ∧ ∀ i, i ≤ xs.length → w i c = some (xs.map enc)[i]?)
    (h : ∀ a ∈ xs, Ok (g (enc a) (wipeL l js) c) fun l1 c1 => c1 = c ∧ Ok (t l1 c) fun k c2 => k = P a ∧ c2 = c ∧ (P a = true → Ok (e l1 c) fun d c3 => d = F a ∧ c3 = c))
    (q : Q (.lst ((xs.filter P).map F)) c) : Ok (mLcW it js g t e l c) Q := by
  have hz : sizeLine = 16777216 := sizeLine_eq
  refine Ok.bind (hit.mono fun w c1 ⟨p1, hw⟩ => ?_)
  subst p1
  have go : ∀ (k n i : Nat) (acc : List D), xs.length - i = k → i ≤ xs.length → k < n → acc.length + k ≤ sizeLine → compW g t e (wipeL l js) w n i acc c1 = .ok (acc ++ ((xs.drop i).filter P).map F) c1 := by
    intro k
    induction k with
    | zero =>
      intro n i acc hk hi hn hl
      cases n with
      | zero => omega
      | succ n =>
        unfold compW
        rw [hw i (by omega), List.getElem?_eq_none (by simp; omega), List.drop_eq_nil_of_le (by omega)]
        simp
    | succ k ih =>
      intro n i acc hk hi hn hl
      cases n with
      | zero => omega
      | succ n =>
        have hi : i < xs.length := by omega
        obtain ⟨l1, c1', e1, rfl, kb, c2, e2, hkb, rfl, h3⟩ := h xs[i] (List.getElem_mem hi)
        have hd : xs.drop i = xs[i] :: xs.drop (i + 1) := List.drop_eq_getElem_cons hi
        unfold compW
        rw [hw i (by omega), List.getElem?_map, List.getElem?_eq_getElem hi]
        simp only [Option.map_some, e1, R.nox_ok, R.bind_ok, e2]
        cases qq : P xs[i] with
        | true =>
          rw [qq] at hkb
          subst hkb
          obtain ⟨d, c3, e3, rfl, rfl⟩ := h3 qq
          simp only [e3, R.nox_ok, R.bind_ok]
          rw [if_pos (by omega), ih n (i + 1) _ (by omega) (by omega) (by omega) (by simp; omega), hd, List.filter_cons_of_pos qq]
          simp
        | false =>
          rw [qq] at hkb
          subst hkb
          simp only []
          rw [ih n (i + 1) _ (by omega) (by omega) (by omega) (by omega), hd, List.filter_cons_of_neg (by rw [qq]; exact Bool.false_ne_true)]
  exact ⟨_, _, by rw [go xs.length fuelW 0 [] (by omega) (by omega) (by unfold fuelW; omega) (by simp; omega)]; rfl, by simpa using q⟩
theorem filter_all {β : Type} (xs : List β) : xs.filter (fun _ => true) = xs := List.filter_eq_self.mpr fun _ _ => rfl
theorem ok_lcY {it : MK} {js : List Nat} (xs : List α) (enc F : α → D) (hl : xs.length ≤ 1000000)
    (hit : Ok (it l c) fun w c1 => c1 = c ∧ ∀ i, i ≤ xs.length → w i c = some (xs.map enc)[i]?)
    (h : ∀ a ∈ xs, Ok (g (enc a) (wipeL l js) c) fun l1 c1 => c1 = c ∧ Ok (e l1 c) fun d c3 => d = F a ∧ c3 = c)
    (q : Q (.lst (xs.map F)) c) : Ok (mLcW it js g tYesM e l c) Q :=
  ok_lcT xs enc F (fun _ => true) hl hit (fun a ha => (h a ha).mono fun l1 c1 ⟨e1, h1⟩ => ⟨e1, ⟨true, c, rfl, rfl, rfl, fun _ => h1⟩⟩) (by rw [filter_all]; exact q)
/-- a list of items told beforehand, as a walk -/
theorem mLc_fix {it : MI} {js : List Nat} {ds : List D} (hit : it l c = .ok ds c) (hl : ds.length ≤ 1000000) : mLc it js g t e l c = mLcW (kFix it) js g t e l c := by
  unfold mLc mLcW kFix
  rw [hit]
  simp only [R.bind_ok]
  rw [compW_fix ds.length fuelW 0 [] c (by omega) (by unfold fuelW; omega), List.drop_zero]
theorem ok_mlc {it : MI} {js : List Nat} {ds : List D} (hit : it l c = .ok ds c) (hl : ds.length ≤ 1000000) (h : Ok (mLcW (kFix it) js g t e l c) Q) : Ok (mLc it js g t e l c) Q := by rw [mLc_fix hit hl]; exact h
theorem ok_kfix {it : MI} {ds : List D} {QW : Wk → Cs → Prop} (hit : it l c = .ok ds c) (q : QW (fixW ds) c) : Ok (kFix it l c) QW := ⟨_, _, by unfold kFix; rw [hit]; rfl, q⟩
/-- what is walked where nothing can change -/
def treeSeq : D → Option (List D)
  | .lst ds => some ds
  | .ro ds => some ds
  | .tup ds => some ds
  | .str s => some (chrs s)
  | _ => none
theorem wAny_tree {x : D} {ds : List D} (h : treeSeq x = some ds) : wAny x c = .ok (fixW ds) c := by
  cases x <;> first | (cases h; rfl) | cases h
theorem ok_ktree {a : ME} {xs : List α} {enc : α → D} (h : Ok (a l c) fun x c1 => c1 = c ∧ treeSeq x = some (xs.map enc)) : Ok (kAny a l c) fun w c1 => c1 = c ∧ ∀ i, i ≤ xs.length → w i c = some (xs.map enc)[i]? :=
  Ok.bind (h.mono fun x c1 ⟨e, ht⟩ => by subst e; exact ⟨_, _, wAny_tree ht, rfl, fun _ _ => rfl⟩)
theorem rangeL0 (n : Nat) : rangeL 0 n = (List.range n).map fun i => D.int (i : Nat) := by
  unfold rangeL
  refine List.map_congr_left fun i _ => ?_
  rw [Int.zero_add]
theorem small_nat {n : Nat} (h : n ≤ 1000000) : small62 (n : Int) := by
  have e : (2 : Int) ^ 62 = 4611686018427387904 := by decide
  unfold small62
  rw [e]
  omega
theorem r1_eq {t : MA} {n : Nat} (h : Ok (t l c) fun xs c1 => c1 = c ∧ xs = [.int (n : Int)]) (hn : n ≤ 1000000) : iR1 t l c = .ok ((List.range n).map fun i => D.int (i : Nat)) c := by
  have h2 : Ok (iR1 t l c) fun ds c1 => ds = rangeL 0 n ∧ c1 = c := ok_r1 (h.mono fun xs c1 ⟨e1, e2⟩ => ⟨n, e2, small_nat hn, by rw [Int.toNat_natCast], e1⟩)
  rw [h2.eq, rangeL0]
theorem ok_kr1 {t : MA} {n : Nat} {QW : Wk → Cs → Prop} (h : Ok (t l c) fun xs c1 => c1 = c ∧ xs = [.int (n : Int)]) (hn : n ≤ 1000000) (q : QW (fixW ((List.range n).map fun i => D.int (i : Nat))) c) : Ok (kFix (iR1 t) l c) QW :=
  ok_kfix (r1_eq h hn) q
/-- [e for i in range(n)] -/
theorem ok_lcR {m : MA} {js : List Nat} (n : Nat) (F : Nat → D) (hn : n ≤ 1000000) (hm : Ok (m l c) fun xs c1 => c1 = c ∧ xs = [.int (n : Int)])
    (h : ∀ i, i < n → Ok (g (.int (i : Nat)) (wipeL l js) c) fun l1 c1 => c1 = c ∧ Ok (e l1 c) fun d c3 => d = F i ∧ c3 = c)
    (q : Q (.lst ((List.range n).map F)) c) : Ok (mLc (iR1 m) js g tYesM e l c) Q :=
  ok_mlc (r1_eq hm hn) (by simp; exact hn) (ok_lcY (List.range n) (fun i => D.int (i : Nat)) F (by simp; exact hn) (ok_kr1 hm hn ⟨rfl, fun _ _ => rfl⟩) (fun a ha => h a (List.mem_range.mp ha)) q)
end

/-! ### loops over typed lists -/
section
variable {α : Type} {g : MG} {f : MS} {l : Ls} {c : Cs} {QS : Fl → Cs → Prop}
theorem forD_T {xs : List α} {enc : α → D} (P : List α → Ls → Cs → Prop) (hd : ∀ l c, P [] l c → QS (.nx l) c)
    (ht : ∀ x rest l c, P (x :: rest) l c → Ok (g (enc x) l c) fun l1 c1 => OkS (f l1 c1) fun fl c2 => match fl with
      | .nx l2 => P rest l2 c2
      | .ct l2 => P rest l2 c2
      | .bk l2 => QS (.nx l2) c2
      | .rt d => QS (.rt d) c2) : ∀ (xs : List α) l c, P xs l c → OkS (forD g f (xs.map enc) l c) QS := fun xs l c h =>
  OkS.for (fun ds l c => ∃ ys : List α, ds = ys.map enc ∧ P ys l c) (fun l c ⟨ys, e, p⟩ => by
      cases ys with
      | nil => exact hd l c p
      | cons y ys => simp at e) (fun d ds l c ⟨ys, e, p⟩ => by
      cases ys with
      | nil => simp at e
      | cons y ys =>
        simp only [List.map_cons, List.cons.injEq] at e
        obtain ⟨rfl, rfl⟩ := e
        refine (ht y ys l c p).mono fun l1 c1 h1 => h1.mono fun fl c2 h2 => ?_
        cases fl with
        | nx l2 => exact ⟨ys, rfl, h2⟩
        | ct l2 => exact ⟨ys, rfl, h2⟩
        | bk l2 => exact h2
        | rt d => exact h2) _ _ _ ⟨xs, rfl, h⟩
theorem os_forX {a : ME} (xs : List α) (enc : α → D) (P : List α → Ls → Cs → Prop) (hl : xs.length ≤ 1000000) (ha : Ok (a l c) fun x c1 => treeSeq x = some (xs.map enc) ∧ P xs l c1)
    (hd : ∀ l c, P [] l c → QS (.nx l) c)
    (ht : ∀ x rest l c, P (x :: rest) l c → Ok (g (enc x) l c) fun l1 c1 => OkS (f l1 c1) fun fl c2 => match fl with
      | .nx l2 => P rest l2 c2
      | .ct l2 => P rest l2 c2
      | .bk l2 => QS (.nx l2) c2
      | .rt d => QS (.rt d) c2) : OkS (sForW (kAny a) g f l c) QS := by
  refine os_forW (ok_kany (ha.mono fun x c1 ⟨h1, h2⟩ => ⟨_, _, wAny_tree h1, ?_⟩))
  show OkS (forW g f (fixW (xs.map enc)) fuelW 0 l c1) QS
  rw [forW_fix _ _ _ _ _ rfl (by rw [List.length_map]; unfold fuelW; omega), List.drop_zero]
  exact forD_T (xs := xs) P hd ht xs l c1 h2
theorem os_forY {it : MI} (xs : List α) (enc : α → D) (P : List α → Ls → Cs → Prop) (ha : Ok (it l c) fun ds c1 => ds = xs.map enc ∧ P xs l c1)
    (hd : ∀ l c, P [] l c → QS (.nx l) c)
    (ht : ∀ x rest l c, P (x :: rest) l c → Ok (g (enc x) l c) fun l1 c1 => OkS (f l1 c1) fun fl c2 => match fl with
      | .nx l2 => P rest l2 c2
      | .ct l2 => P rest l2 c2
      | .bk l2 => QS (.nx l2) c2
      | .rt d => QS (.rt d) c2) : OkS (sFor it g f l c) QS :=
  os_for (ha.mono fun ds c1 ⟨h1, h2⟩ => by subst h1; exact forD_T (xs := xs) P hd ht xs l c1 h2)
theorem os_forR {m : MA} (n : Nat) (P : List Nat → Ls → Cs → Prop) (hn : n ≤ 1000000) (hm : Ok (m l c) fun xs c1 => c1 = c ∧ xs = [.int (n : Int)]) (h0 : P (List.range n) l c)
    (hd : ∀ l c, P [] l c → QS (.nx l) c)
    (ht : ∀ x rest l c, P (x :: rest) l c → Ok (g (.int (x : Nat)) l c) fun l1 c1 => OkS (f l1 c1) fun fl c2 => match fl with
      | .nx l2 => P rest l2 c2
      | .ct l2 => P rest l2 c2
      | .bk l2 => QS (.nx l2) c2
      | .rt d => QS (.rt d) c2) : OkS (sFor (iR1 m) g f l c) QS :=
  os_forY (List.range n) (fun i => D.int (i : Nat)) P (Ok.of (r1_eq hm hn) ⟨rfl, h0⟩) hd ht
end

/-! ### zip, enumerate over trees -/
section
variable {l : Ls} {c : Cs}
end

section
variable {it : MI} {iw : MK} {js : List Nat} {g : MG} {t : MT} {e : ME} {f : MS} {l : Ls} {c : Cs} {Q : D → Cs → Prop} {QS : Fl → Cs → Prop}
theorem at_mul {x y : D} (h : Ok (mulI x y c) Q) : Ok (mulI x y c) Q := h
theorem at_mod {x y : D} (h : Ok (modI x y c) Q) : Ok (modI x y c) Q := h
theorem at_div {x y : D} (h : Ok (divI x y c) Q) : Ok (divI x y c) Q := h
theorem at_pow {x y : D} (h : Ok (powI x y c) Q) : Ok (powI x y c) Q := h
theorem at_lc (h : Ok (mLc it js g t e l c) Q) : Ok (mLc it js g t e l c) Q := h
theorem at_lcW (h : Ok (mLcW iw js g t e l c) Q) : Ok (mLcW iw js g t e l c) Q := h
theorem at_for (h : OkS (sFor it g f l c) QS) : OkS (sFor it g f l c) QS := h
theorem at_forW (h : OkS (sForW iw g f l c) QS) : OkS (sForW iw g f l c) QS := h
end
/-! ### own objects -/
section
variable {o a : ME} {t : MA} {l : Ls} {c : Cs} {Q : D → Cs → Prop} {n mm : Str} {g : List D → Cs → R D} {g0 : D → D → Cs → R D} {x y : D} {fs : List (Str × D)}
theorem viaT_eq {α : Type} {r : (List D → Cs → R D) → List (Str × D) → R α} (h : insOf x c = some (n, fs)) : viaT [(n, g)] x c r = r g fs := by
  unfold viaT
  rw [h]
  simp [List.lookup]
theorem ok_meth (h : Ok (o l c) fun x c1 => (∃ fs, insOf x c1 = some (n, fs) ∧ fs.lookup mm = none) ∧ Ok (t l c1) fun xs c2 => Ok (g (x :: xs) c2) Q) : Ok (mMeth [(n, g)] mm o t l c) Q :=
  Ok.bind (h.mono fun x c1 ⟨⟨fs, h1, h3⟩, h2⟩ => by rw [viaT_eq h1, h3]; exact Ok.bind h2)
theorem ok_fld {f : Str} (h : Ok (o l c) fun x c1 => ∃ fs d, insOf x c1 = some (n, fs) ∧ fs.lookup f = some d ∧ Q d c1) : Ok (mFld [n] f o l c) Q :=
  Ok.bind (h.mono fun x c1 ⟨fs, d, h1, h2, q⟩ => ⟨d, c1, by simp [fldR, h1, fldO, h2], q⟩)
theorem ok_iso1 {ns : List Str} {k : Str} (h : Ok (a l c) fun x c1 => ∃ fs, insOf x c1 = some (k, fs) ∧ k ∈ ns ∧ Q (.bl (k == n)) c1) : Ok (mIso n ns a l c) Q :=
  Ok.bind (h.mono fun x c1 ⟨fs, h1, h2, q⟩ => ⟨_, _, by unfold isoR; rw [h1]; exact if_pos h2, q⟩)
end
end L2.Mi

/-! a, b, .. = a list -/
namespace L2.Mi
open PySem PySem.Spec PyProof.Rows L2
def gOr (g1 g2 : TG) : TG := fun v σ H Q => g1 v σ H Q ∨ g2 v σ H Q
theorem pg_or {X : Cx} {e : Expr} {g1 g2 : TG} (h1 : PG X e g1) (h2 : PG X e g2) : PG X e (gOr g1 g2) := ⟨fun pins s σ H v u Q I r hw => hw.elim (h1.run pins s σ H v u Q I r) (h2.run pins s σ H v u Q I r)⟩
def gTL (js : List Nat) : MG := fun d l c => match d with
  | .tup ds => if ds.length = js.length then gNs js ds l c else .stuck
  | d => match lstOf d c with
    | some ds => if ds.length = js.length then gNs js ds l c else .stuck
    | none => .stuck
theorem lstOf_at {K : PySem.W.Frag} {I H : Hp} {m : List Addr} {c : Cs} {v : V} {d : D} {ds : List D} (R : Rel K I H m c) (p : Rep K I m v d) (h : lstOf d c = some ds) : ∃ a vs, v = .ref a ∧ SqL K H a vs ∧ Reps K I m vs ds := by
  cases p with
  | @lst a vs ds' h1 r => cases h; exact ⟨a, vs, rfl, SqL.of (R.same _ _ h1), r⟩
  | @ro a vs ds' h1 r => first | (cases h; exact ⟨a, vs, rfl, R.same.seq h1, r⟩) | cases h
  | @ref k a hk =>
    unfold lstOf at h
    cases q : c[k]? with
    | none => simp only [q] at h; cases h
    | some x =>
      simp only [q] at h
      have hc := R.cell k a x hk q
      cases x with
      | lst xs => cases h; obtain ⟨_, vs, h1, h2⟩ := hc; exact ⟨a, vs, rfl, SqL.of h1, h2⟩
      | frz d =>
        cases d with
        | lst xs =>
          first
          | (cases h
             obtain ⟨_, hr⟩ := hc
             cases hr with
             | lst h1 h2 => exact ⟨_, _, rfl, SqL.of (R.same _ _ h1), h2⟩)
          | cases h
        | _ => cases h
      | _ => cases h
  | _ => cases h
theorem mg_tupL {X : Cx} {W : WX} {es : List Expr} {k : Nat} {pos : Pos} {js : List Nat} (hc : X.calm = true) (h : PGs X es (rdGs X.K W (gNs js)))
    (hn : (assignEach es X.env).length = js.length := by rfl) (hst : (assignEach es X.env).findIdx? (·.1) = none := by rfl) : PG X (.Tuple es k pos) (rdG X.K W (gTL js)) :=
  PGi (pg_or (pg_tup hc h hn hst) (pg_unl hc h hn hst)) fun v σ H Q ⟨I, m, l, c, d, R, L, p, A⟩ => by
    have lst : ∀ d', d = d' → (match lstOf d' c with
        | some ds => if ds.length = js.length then gNs js ds l c else .stuck
        | none => .stuck) = gTL js d l c → gOr (gTup X.K js.length (rdGs X.K W (gNs js))) (gUnl X.K js.length (rdGs X.K W (gNs js))) v σ H Q := fun d' e hg => by
      subst e
      rw [← hg] at A
      cases q : lstOf d c with
      | none => rw [q] at A; exact A.elim
      | some ds =>
        rw [q] at A
        obtain ⟨a, vs, rfl, h1, r⟩ := lstOf_at R p q
        by_cases hl : ds.length = js.length
        · have A2 : After (rL X.K) X.K I m H (fun cls dd H' => W cls dd σ H') Q (if ds.length = js.length then gNs js ds l c else .stuck) := A
          rw [if_pos hl] at A2
          exact .inr ⟨a, vs, rfl, h1, r.length.trans hl, I, m, l, c, ds, R, L, r, A2⟩
        · have A2 : After (rL X.K) X.K I m H (fun cls dd H' => W cls dd σ H') Q (if ds.length = js.length then gNs js ds l c else .stuck) := A
          rw [if_neg hl] at A2
          exact A2.elim
    cases d with
    | tup ds =>
      cases p with
      | @tup a vs ds h r =>
        by_cases hl : ds.length = js.length
        · have A2 : After (rL X.K) X.K I m H (fun cls dd H' => W cls dd σ H') Q (if ds.length = js.length then gNs js ds l c else .stuck) := A
          rw [if_pos hl] at A2
          exact .inl ⟨a, vs, rfl, sqT_same R.same h, r.length.trans hl, I, m, l, c, ds, R, L, r, A2⟩
        · have A2 : After (rL X.K) X.K I m H (fun cls dd H' => W cls dd σ H') Q (if ds.length = js.length then gNs js ds l c else .stuck) := A
          rw [if_neg hl] at A2
          exact A2.elim
    | _ => exact lst _ rfl rfl
theorem ok_gtl {js : List Nat} {ds : List D} {l : Ls} {c : Cs} {Q : Ls → Cs → Prop} (hl : ds.length = js.length) (q : Ok (gNs js ds l c) Q) : Ok (gTL js (.lst ds) l c) Q := by
  show Ok (if ds.length = js.length then gNs js ds l c else .stuck) Q
  rw [if_pos hl]
  exact q
end L2.Mi

namespace L2.Mi
open PySem PySem.Spec PyProof.Rows L2
/-! comprehensions whose list is changed later: cells -/
end L2.Mi
namespace PySem
section
variable {prog : Program} {w : World} {A : Around} {E : Value → Shared → Prop} {s : Shared} {l : Addr} {xs : Array (Int × Tok)}
theorem iter_intTuple {Q : Value → Shared → Prop} (hl : s.heap.IsTuple l (intItems xs))
    (h : ∀ s₂ : Shared, s₂ = { s with heap := s.heap.push { cls := .type "tuple_iterator", data := .fields #[.ref l, .int 0 0] } } →
      (s₂.heap.IsTupleIter s.heap.objs.size l 0 ∧ s₂.heap.IsTuple l (intItems xs)) → (∀ b ∈ [s.heap.objs.size, l], b < s₂.heap.objs.size) → l ≠ s.heap.objs.size → Q (.ref s.heap.objs.size) s₂) :
    wpAny (model prog w) A (pyIter (.ref l)) Q E s := by
  have hlt : l < s.heap.objs.size := by obtain ⟨_, e, _⟩ := hl; exact Heap.lt_size e
  refine wpAny_pyIter_tuple hl (h _ rfl ⟨⟨_, Heap.get?_push_size _ rfl, rfl, rfl⟩, hl.push _⟩ (fun b hb => ?_) (Nat.ne_of_lt hlt))
  show b < (s.heap.push _).objs.size
  rw [Heap.size_push]
  rcases List.mem_cons.mp hb with rfl | hb
  · exact Nat.lt_succ_self _
  · rcases List.mem_cons.mp hb with rfl | hb
    · exact Nat.lt_succ_of_lt hlt
    · cases hb
theorem old_keptT {h' : Heap} (hk : ∀ b o, b ∉ [s.heap.objs.size] → (s.heap.push { cls := .type "tuple_iterator", data := .fields #[.ref l, .int 0 0] }).get? b = some o → h'.get? b = some o) :
    ∀ b o, s.heap.get? b = some o → h'.get? b = some o := fun b o e => by
  refine hk b o (fun hm => ?_) (Heap.get?_push_of_some _ e)
  rcases List.mem_cons.mp hm with e1 | hm
  · exact absurd (e1 ▸ Heap.lt_size e) (Nat.lt_irrefl _)
  · cases hm
theorem sum_intTuple {Q : Value → Shared → Prop} (hh : A.handled = none) (hl : s.heap.IsTuple l (intItems xs))
    (h : ∀ h' tk t', (∀ b o, s.heap.get? b = some o → h'.get? b = some o) → Q (.int (preSum (numAt xs) xs.size) t') { s with heap := h', toks := tk }) :
    wpAny (model prog w) A (call (.builtin "sum") [.ref l]) Q E s := by
  refine call_sum_walkG (iter_intTuple hl fun s₂ e st hfp hlI => ?_)
  subst e
  refine ⟨_, _, _, _, _, _, numAt xs, rfl, Walks.tuple (A := A.in1) hh _ l hlI (intItems xs), st, hfp, (fun _ _ => intItems_at), fun h' tk t' hk => ?_⟩
  have := h h' tk t' (old_keptT hk)
  simpa [intItems] using this
end
end PySem
namespace L2.Mi
open PySem PySem.Spec PyProof.Rows L2
section
variable {prog : Program} {w : World} {A : Around} {E : Value → Shared → Prop} {s : Shared} {l : Addr} {its : List Value} {ns : List Int} {Q : Value → Shared → Prop}
theorem sumT_raw (hh : A.handled = none) (hl : s.heap.IsTuple l its.toArray) (hi : IntsAre its ns)
    (h : ∀ h' tk t', (∀ b o, s.heap.get? b = some o → h'.get? b = some o) → Q (.int ns.sum t') { s with heap := h', toks := tk }) : wpAny (model prog w) A (call (.builtin "sum") [.ref l]) Q E s := by
  obtain ⟨xs, e⟩ := hi.allInts.items
  have hn : numsOf (intItems xs).toList = ns := by rw [← e]; exact hi.numsOf
  rw [nums_intItems] at hn
  rw [e] at hl
  refine PySem.sum_intTuple hh hl fun h' tk t' hk => ?_
  have := h h' tk t' hk
  rw [preSum_eq, List.take_of_length_le (by simp), hn]; exact this
end
section
variable {X : Cx}
def SqY (K : PySem.W.Frag) (H : Hp) (a : Addr) (ns : List Int) : Prop := SqL K H a (ns.map V.int) ∨ SqT K H a (ns.map V.int)
def rSumY (K : PySem.W.Frag) : List V → Hp → VK → Prop := fun vs H Q => ∃ (a : Addr) (ns : List Int), vs = [V.ref a] ∧ SqY K H a ns ∧ Q (.int ns.sum) H
theorem cr_sumY (hc : X.calm = true) : CallR X (.builtin "sum") (rSumY X.K) := by
  intro pins s σ H vs us Q I r h
  obtain ⟨a, ns, rfl, hs | hs, q⟩ := h
  · exact cr_sum hc _ _ _ _ _ _ _ I r ⟨a, ns, rfl, hs, q⟩
  · obtain ⟨its, rv, hl, _⟩ := I.tuple hs
    rw [Vals.ref1 r]
    exact sumT_raw (I.ok.hd hc) hl rv.ints fun h' tk t' hk => ⟨.int _, H, I.kept hk, ⟨_, rfl⟩, q⟩
end
section
variable {K : PySem.W.Frag}
def onIntsY (f : List Int → Option Int) (d : D) (c : Cs) : R D := match d with
  | .tup ds => match intsOf ds with
    | some ns => match f ns with
      | some k => .ok (.int k) c
      | none => .stuck
    | none => .stuck
  | d => onInts f d c
theorem cs_intsY {r : List V → Hp → VK → Prop} {f : List Int → Option Int} (h : ∀ (H : Hp) (a : Addr) (ns : List Int) (k : Int) (Q : VK), SqY K H a ns → f ns = some k → Q (.int k) H → r [.ref a] H Q) : CallS K r (on1 (onIntsY f)) := fun I H m c vs ds W Q R p A => by
  have p' := p
  have A0 := A
  obtain ⟨v, d, rfl, rfl, pd, A⟩ := on1_arg p A
  cases d with
  | tup xs =>
    have A : After (rD K) K I m H W Q (match intsOf xs with
      | some ns => match f ns with
        | some k => .ok (.int k) c
        | none => .stuck
      | none => .stuck) := A
    cases pd with
    | @tup a ws _ h1 h2 =>
      cases z : intsOf xs with
      | none => rw [z] at A; exact A.elim
      | some ns =>
        rw [z] at A
        have A : After (rD K) K I m H W Q (match f ns with
          | some k => .ok (.int k) c
          | none => .stuck) := A
        cases y : f ns with
        | none => rw [y] at A; exact A.elim
        | some k =>
          rw [y] at A
          have h1' : SqT K H a (ns.map V.int) := by
            have := sqT_same R.same h1
            rw [ints_reps h2 z] at this
            exact this
          exact h H a ns k Q (.inr h1') y (A.here R (.int k))
  | _ => exact cs_ints (K := K) (r := r) (f := f) (fun H a ns k Q e1 e2 q => h H a ns k Q (.inl (SqL.of e1)) e2 q) I H m c _ _ W Q R p' A0
def sumY : List D → Cs → R D := on1 (onIntsY fun ns => some ns.sum)
theorem cs_sumY : CallS K (rSumY K) sumY := cs_intsY fun H a ns k Q h e q => by
  cases e
  exact ⟨a, ns, rfl, h, q⟩
def maxY : List D → Cs → R D := on1 (onIntsY fun ns => ns.max?)
def minY : List D → Cs → R D := on1 (onIntsY fun ns => ns.min?)
end
theorem lookup_relabel_fc {env : Env} : ∀ {names : List (Str × NameKind)} {x : Str}, names.lookup x = some .cell ∨ names.lookup x = some .free →
    (names.map fun (n, k) => if (k == NameKind.free && env.scope.kind == .function && env.kindOf n == some .cell) then (n, NameKind.cell) else (n, k)).lookup x = some .cell ∨
    (names.map fun (n, k) => if (k == NameKind.free && env.scope.kind == .function && env.kindOf n == some .cell) then (n, NameKind.cell) else (n, k)).lookup x = some .free
  | [], x, h => by simp at h
  | (n, k) :: r, x, h => by
    have ih := @lookup_relabel_fc env r x
    show List.lookup x ((if (k == NameKind.free && env.scope.kind == .function && env.kindOf n == some .cell) = true then (n, NameKind.cell) else (n, k)) :: _) = _ ∨ List.lookup x ((if (k == NameKind.free && env.scope.kind == .function && env.kindOf n == some .cell) = true then (n, NameKind.cell) else (n, k)) :: _) = _
    cases hx : x == n with
    | true =>
      simp only [List.lookup_cons, hx] at h
      by_cases hc : (k == NameKind.free && env.scope.kind == .function && env.kindOf n == some .cell) = true
      · rw [if_pos hc]; simp only [List.lookup_cons, hx]; exact .inl trivial
      · rw [if_neg hc]; simp only [List.lookup_cons, hx]; exact h
    | false =>
      simp only [List.lookup_cons, hx] at h
      by_cases hc : (k == NameKind.free && env.scope.kind == .function && env.kindOf n == some .cell) = true
      · rw [if_pos hc]; simp only [List.lookup_cons, hx]; exact ih h
      · rw [if_neg hc]; simp only [List.lookup_cons, hx]; exact ih h
/-- a block within a block -/
theorem blkOk_in {N : List Str} {outer scope : Scope} {env : Env} {own : List (Str × Nat)} (h : blkC N outer scope own = true) : BlkOk N (relabel outer env) scope own := by
  obtain ⟨h1, h2, h3, h4, h5⟩ := blkOk_by h
  exact ⟨h1, h2, h3, fun y hy e => lookup_relabel_fc (h4 y hy e), h5⟩
end L2.Mi

/-! plain reasoning where exceptions are raised -/
namespace L2.Mi
open PySem PySem.Spec PyProof.Rows L2
def Xo {α : Type} (r : R α) (Q : α → Cs → Prop) (X : Ex → Cs → Prop) : Prop := match r with
  | .stuck => False
  | .ok a c => Q a c
  | .exc x c => X x c
def XS (r : RS) (Q : Fl → Cs → Prop) (X : Ex → Cs → Prop) : Prop := match r with
  | .stuck => False
  | .go f c => Q f c
  | .exc x _ c => X x c
section
variable {α β : Type} {X : Ex → Cs → Prop}
theorem OkS.xs {r : RS} {Q : Fl → Cs → Prop} (h : OkS r Q) : XS r Q X := by
  obtain ⟨a, c, rfl, h⟩ := h
  exact h
theorem Xo.bind {r : R α} {f : α → Cs → R β} {Q : β → Cs → Prop} (h : Xo r (fun a c => Xo (f a c) Q X) X) : Xo (r.bind f) Q X := by
  cases r <;> exact h
theorem Xo.mono {r : R α} {Q Q' : α → Cs → Prop} {X' : Ex → Cs → Prop} (h : Xo r Q X) (w : ∀ a c, Q a c → Q' a c) (wx : ∀ x c, X x c → X' x c) : Xo r Q' X' := by
  cases r with
  | stuck => exact h
  | ok a c => exact w a c h
  | exc x c => exact wx x c h
theorem Xo.of {r : R α} {Q : α → Cs → Prop} {a : α} {c : Cs} (e : r = .ok a c) (h : Q a c) : Xo r Q X := by rw [e]; exact h
theorem XS.seq {r : R α} {l : Ls} {f : α → Cs → RS} {Q : Fl → Cs → Prop} (h : Xo r (fun a c => XS (f a c) Q X) X) : XS (r.seq l f) Q X := by
  cases r <;> exact h
theorem XS.mono {r : RS} {Q Q' : Fl → Cs → Prop} {X' : Ex → Cs → Prop} (h : XS r Q X) (w : ∀ a c, Q a c → Q' a c) (wx : ∀ x c, X x c → X' x c) : XS r Q' X' := by
  cases r with
  | stuck => exact h
  | go a c => exact w a c h
  | exc x l c => exact wx x c h
theorem XS.next {r : RS} {g : Ls → Cs → RS} {Q : Fl → Cs → Prop} (h : XS r (fun f c => match f with
  | .nx l => XS (g l c) Q X
  | f => Q f c) X) : XS (r.next g) Q X := by
  cases r with
  | stuck => exact h
  | exc x l c => exact h
  | go f c => cases f <;> exact h
theorem Xo.fun {n a : Nat} {b : MS} {ds : List D} {c : Cs} {Q : D → Cs → Prop} (hl : ds.length = a) (h : XS (b (ds.map some ++ List.replicate (n - a) none) c) (fun f c => match f with
  | .rt d => Q d c
  | .nx _ => Q .non c
  | _ => False) X) : Xo (mFun n a b ds c) Q X := by
  unfold mFun
  rw [if_pos hl]
  revert h
  generalize b (ds.map some ++ List.replicate (n - a) none) c = r
  intro h
  cases r with
  | stuck => exact h
  | exc x l c => exact h
  | go f c => cases f <;> first | exact h | exact h.elim
end
section
variable {l : Ls} {c : Cs} {Q : D → Cs → Prop} {a b e o : ME} {t : MA} {QS : Fl → Cs → Prop} {X : Ex → Cs → Prop} {f g : MS}
end
end L2.Mi

/-! list(text) -/
namespace L2.Mi
open PySem PySem.Spec PyProof.Rows L2
section
variable {K : PySem.W.Frag} {I : Hp} {m : List Addr}
end
end L2.Mi

/-! x in xs, of data of any depth; slices of tuples -/
namespace L2.Mi
open PySem PySem.Spec PyProof.Rows L2
def sliceY (d : D) (lo hi : Option Int) (c : Cs) : R D := match d with
  | .tup ds => if HT.sIx ds.length 0 lo = 0 ∧ HT.sIx ds.length ds.length hi = ds.length then .stuck else .ok (.tup (cutD ds lo hi)) c
  | d => sliceD d lo hi c
def mSliceY (a : ME) (lo hi : MO) : ME := fun l c => (a l c).bind fun x c1 => (lo l c1).bind fun i c2 => (hi l c2).bind fun j c3 => sliceY x i j c3
theorem me_sliceY {X : Cx} {W : WX} {e : Expr} {lo hi : Option Expr} {f : ME} {fl fh : MO} {p2 pos : Pos} (he : PE X e (rdE X.K W f)) (hl : PO X lo (rdO X.K W fl)) (hh : PO X hi (rdO X.K W fh)) :
    PE X (.Subscript e (.Slice lo hi none p2) pos) (rdE X.K W (mSliceY f fl fh)) := PEi (pe_slice (r := fun x lo hi H Q => rSlA X.K x lo hi H Q ∨ rSlT X.K x lo hi H Q) ((sl_list.or sl_str).or sl_tup) he hl hh) fun σ H Q ⟨I, m, l, c, R, L, A⟩ => by
  refine ⟨I, m, l, c, R, L, After.mono (After.bind (rep := rD X.K) A) fun v1 H1 ⟨I1, m1, c1, d1, E1, R1, p1, A1⟩ => ?_⟩
  refine ⟨I1, m1, l, c1, R1, L.ext E1, After.mono (After.bind (rep := rO) A1) fun v2 H2 ⟨I2, m2, c2, d2, E2, R2, p2, A2⟩ => ?_⟩
  refine ⟨I2, m2, l, c2, R2, (L.ext E1).ext E2, After.mono (After.bind (rep := rO) A2) fun v3 H3 ⟨I3, m3, c3, d3, E3, R3, p3, A3⟩ => ?_⟩
  cases (show v2 = d2 from p2)
  cases (show v3 = d3 from p3)
  have p := Rep.ext (Rep.ext p1 E2) E3
  have new : ∀ {a : Addr} {vs : List V} {ds : List D}, v1 = .ref a → SqL X.K H3 a vs → Reps X.K I3 m3 vs ds → After (rD X.K) X.K I3 m3 H3 (fun cls dd H' => W cls dd σ H') Q (.ok (.lst (cutD ds v2 v3)) c3) → rSlA X.K v1 v2 v3 H3 Q := fun {a vs ds} e h r A =>
    .inl ⟨a, vs, e, h, fun q nq => A.new R3 nq (.lst upd_same ((cut_reps v2 v3 r).mono (same_upd R3.same nq) (Pre.refl _)))⟩
  cases p with
  | lst h r => exact .inl (new rfl (SqL.of (R3.same _ _ h)) r A3)
  | @tup a vs ds h r =>
    have A4 : After (rD X.K) X.K I3 m3 H3 (fun cls dd H' => W cls dd σ H') Q (if HT.sIx ds.length 0 v2 = 0 ∧ HT.sIx ds.length ds.length v3 = ds.length then .stuck else .ok (.tup (cutD ds v2 v3)) c3) := A3
    by_cases hw : HT.sIx ds.length 0 v2 = 0 ∧ HT.sIx ds.length ds.length v3 = ds.length
    · rw [if_pos hw] at A4
      exact A4.elim
    · rw [if_neg hw] at A4
      refine .inr ⟨a, vs, rfl, sqT_same R3.same h, by rw [r.length]; exact hw, fun q nq => A4.new R3 nq (.tup (SqT.of upd_same) ((cut_reps v2 v3 r).mono (same_upd R3.same nq) (Pre.refl _)) (.inl upd_same))⟩
  | str s =>
    obtain ⟨z, A4⟩ := After.fits (show After (rD X.K) X.K I3 m3 H3 (fun cls dd H' => W cls dd σ H') Q (fits s.length (.ok (.str (cutS s v2 v3)) c3)) from A3)
    exact .inl (.inr ⟨s, rfl, z, A4.here R3 (.str _)⟩)
  | @ref k a h =>
    have A4 : After (rD X.K) X.K I3 m3 H3 (fun cls dd H' => W cls dd σ H') Q (match c3[k]? with
      | some (.lst ds) => .ok (.lst (cutD ds v2 v3)) c3
      | _ => .stuck) := A3
    cases q : c3[k]? with
    | none => rw [q] at A4; exact A4.elim
    | some x =>
      rw [q] at A4
      cases x with
      | lst ds =>
        obtain ⟨_, vs, h1, h2⟩ := R3.cell k a _ h q
        exact .inl (new rfl (SqL.of h1) h2 A4)
      | _ => exact A4.elim
  | _ => exact A3.elim

end L2.Mi

/-! sep.join(elt for x in list) where the element reads captured names -/
namespace L2.Gx
open PySem PySem.Spec PyProof.Rows L2
section
variable {X : Cx} {pins : List (Addr × Obj)} {σ : L2.St} {H : Hp} {s : Shared}
end
section
variable {X : Cx}
end
/-! ### the captured names -/
section
variable {X : Cx} {pins : List (Addr × Obj)} {σ : L2.St} {H1 : Hp} {s1 s₂ : Shared} {P : Addr} {scope : Scope} {cenv : Env}
end
end L2.Gx

/-! joins of generators over rows, as computations -/
namespace L2.Mi
open PySem PySem.Spec PyProof.Rows L2
section
variable {X : Cx} {W : WX}
/-- what is asked of a generator's scope, before anything runs -/
def genOk (sc scope : Scope) : Bool := scope.names.all fun y => !(y.2 == NameKind.cell) && (!(y.2 == NameKind.free) || sc.names.lookup y.1 == some NameKind.cell || sc.names.lookup y.1 == some NameKind.free)
structure GenK (env : Env) (scope : Scope) (x : Str) : Prop where
  kind : scope.kind = .function
  co : scope.isCoroutine = false
  dot : scope.names.lookup (".0" : Str) = some NameKind.local
  loc : scope.names.lookup x = some .local
  ok : genOk env.scope scope = true
theorem GenK.gen {scope : Scope} {x : Str} (G : GenK X.env scope x) (ok : X.Ok) : GxR.GenS X.env scope x := by
  have h := List.all_eq_true.mp G.ok
  refine ⟨G.kind, G.co, fun y hy e => ?_, G.dot, G.loc, fun y hy e => ?_⟩
  · have q := h y hy
    rw [e] at q
    cases q
  · have q := h y hy
    rw [e] at q
    have q : (X.env.scope.names.lookup y.1 == some NameKind.cell || X.env.scope.names.lookup y.1 == some NameKind.free) = true := q
    rcases Bool.or_eq_true_iff.mp q with q | q
    · exact ok.has y.1 (.inl (beq_iff_eq.mp q))
    · exact ok.has y.1 (.inr (beq_iff_eq.mp q))
end
end L2.Mi

/-! sorted of ints; joins of self.f[j][i] for i in a list -/
namespace L2.Mi
open PySem PySem.Spec PyProof.Rows L2
def insI (x : Int) : List Int → List Int
  | [] => [x]
  | y :: r => if x ≤ y then x :: y :: r else y :: insI x r
def sortI : List Int → List Int
  | [] => []
  | x :: r => insI x (sortI r)
theorem insI_perm (x : Int) : ∀ l : List Int, (insI x l).Perm (x :: l)
  | [] => .refl _
  | y :: r => by
    unfold insI
    split
    · exact .refl _
    · exact ((insI_perm x r).cons y).trans (.swap _ _ _)
theorem sortI_perm : ∀ l : List Int, (sortI l).Perm l
  | [] => .refl _
  | x :: r => (insI_perm x _).trans ((sortI_perm r).cons x)
theorem insI_sorted (x : Int) : ∀ {l : List Int}, l.Pairwise (· ≤ ·) → (insI x l).Pairwise (· ≤ ·)
  | [], _ => by simp [insI]
  | y :: r, h => by
    have h' := List.pairwise_cons.mp h
    unfold insI
    split
    · rename_i hx
      refine List.pairwise_cons.mpr ⟨fun z hz => ?_, h⟩
      rcases List.mem_cons.mp hz with rfl | hz
      · exact hx
      · exact Int.le_trans hx (h'.1 z hz)
    · rename_i hx
      refine List.pairwise_cons.mpr ⟨fun z hz => ?_, insI_sorted x h'.2⟩
      rcases List.mem_cons.mp ((insI_perm x r).mem_iff.mp hz) with rfl | hz
      · omega
      · exact h'.1 z hz
theorem sortI_sorted : ∀ l : List Int, (sortI l).Pairwise (· ≤ ·)
  | [] => .nil
  | x :: r => insI_sorted x (sortI_sorted r)
theorem sorted_one : ∀ {l k : List Int}, l.Perm k → l.Pairwise (· ≤ ·) → k.Pairwise (· ≤ ·) → l = k
  | [], k, p, _, _ => (List.nil_perm.mp p).symm
  | x :: l, [], p, _, _ => absurd p.length_eq (by simp)
  | x :: l, y :: k, p, h, g => by
    have h' := List.pairwise_cons.mp h
    have g' := List.pairwise_cons.mp g
    have e : x = y := by
      have h1 : x ≤ y := by
        rcases List.mem_cons.mp (p.mem_iff.mpr List.mem_cons_self) with e | m
        · exact Int.le_of_eq e.symm
        · exact h'.1 y m
      have h2 : y ≤ x := by
        rcases List.mem_cons.mp (p.mem_iff.mp (List.mem_cons_self (a := x))) with e | m
        · exact Int.le_of_eq e.symm
        · exact g'.1 x m
      omega
    subst e
    rw [sorted_one ((List.perm_cons x).mp p) h'.2 g'.2]
section
variable {K : PySem.W.Frag} {I : Hp} {m : List Addr}
theorem reps_ints : ∀ ns : List Int, Reps K I m (ns.map V.int) (ns.map D.int)
  | [] => .nil
  | n :: ns => .cons (.int n) (reps_ints ns)
end
/-! ### self.f[j][i] for i in a list -/
section
variable {X : Cx} {W : WX}
end
end L2.Mi

/-! comprehensions of two clauses -/
namespace L2.Mi
open PySem PySem.Spec PyProof.Rows L2
theorem Locs.mono {K : PySem.W.Frag} {I I1 : Hp} {m m1 : List Addr} {σ : St} {ls : Ls} (l : Locs K I m σ ls) (s : Same I I1) (p : Pre m m1) : Locs K I1 m1 σ ls :=
  ⟨l.len, fun i d h => let ⟨v, h1, h2⟩ := l.at_ i d h; ⟨v, h1, h2.mono s p⟩⟩
end L2.Mi

/-! expressions over a caught exception's field, in its own suite -/
namespace L2.Mi
open PySem PySem.Spec PyProof.Rows L2
section
variable {X : Cx} {W : WX} {e b : Expr} {rest : List Expr} {i : Nat} {a : Addr} {cls : Value} {d : Option Addr} {A B : Ex → ME} {pos p p2 : Pos} {n : Str} {ns : List Str}
end
end L2.Mi

/-! d[key] of a dict: a cell, or one that never changes -/
namespace L2.Mi
open PySem PySem.Spec PyProof.Rows L2
def getK (ds : List (Key × D)) (k : Key) : Option D := (ds.find? fun kv => decide (kv.1 = k)).map (·.2)
def dctOf (x : D) (c : Cs) : Option (List (Key × D)) := match x with
  | .dct ds => some ds
  | .ref k => match c[k]? with
    | some (.dct ds) => some ds
    | _ => none
  | _ => none
def dgetI (x y : D) (c : Cs) : R D := match keyOf y, dctOf x c with
  | some k, some ds => match getK ds k with
    | some d => .ok d c
    | none => .stuck
  | _, _ => .stuck
theorem RepK.get {K : PySem.W.Frag} {I : Hp} {m : List Addr} {k : Key} {d : D} : ∀ {vs : List (Key × V)} {ds : List (Key × D)}, RepK K I m vs ds → getK ds k = some d → ∃ v, valV vs k = some v ∧ Rep K I m v d
  | _, _, .nil, e => by cases e
  | _, _, .cons (k := k1) h t, e => by
    unfold getK at e
    unfold valV
    rw [List.find?_cons] at e ⊢
    by_cases hk : k1 = k
    · simp only [hk, decide_true] at e ⊢
      cases e
      exact ⟨_, rfl, h⟩
    · simp only [hk, decide_false] at e ⊢
      exact RepK.get t e
theorem u1 {A : Around} {k : Nat} (hr : Room k A) : A.units + 1 < cLine := by have := hr.un; omega
section
variable {X : Cx} {W : WX} {o i : Expr} {fo fi : ME} {pos : Pos}
theorem me_dget (hu : X.A.units + 1 < cLine) (ho : PE X o (rdE X.K W fo)) (hi : PE X i (rdE X.K W fi)) (hs : NoSl i) : PE X (.Subscript o i pos) (rdE X.K W (mOp dgetI fo fi)) :=
  PEi (pe_dget hu ho hi hs) fun σ H Q ⟨I, m, l, c, R, L, A⟩ => ⟨I, m, l, c, R, L, After.mono (After.bind (rep := rD X.K) A) fun v1 H1 ⟨I1, m1, c1, d1, E1, R1, p1, A1⟩ =>
    ⟨I1, m1, l, c1, R1, L.ext E1, After.mono (After.bind (rep := rD X.K) A1) fun v2 H2 ⟨I2, m2, c2, d2, E2, R2, p2, A2⟩ => by
      have p1 := Rep.ext p1 E2
      have A2 : After (rD X.K) X.K I2 m2 H2 (fun cls dd H' => W cls dd σ H') Q (match keyOf d2, dctOf d1 c2 with
        | some k, some ds => match getK ds k with
          | some d => .ok d c2
          | none => .stuck
        | _, _ => .stuck) := A2
      cases qk : keyOf d2 with
      | none => rw [qk] at A2; exact A2.elim
      | some k =>
        rw [qk] at A2
        cases qd : dctOf d1 c2 with
        | none => rw [qd] at A2; exact A2.elim
        | some ds =>
          rw [qd] at A2
          have A2 : After (rD X.K) X.K I2 m2 H2 (fun cls dd H' => W cls dd σ H') Q (match getK ds k with
            | some d => .ok d c2
            | none => .stuck) := A2
          cases qg : getK ds k with
          | none => rw [qg] at A2; exact A2.elim
          | some d =>
            rw [qg] at A2
            have hv : v2 = kV k := by
              cases p2 with
              | int n => cases qk; rfl
              | str n => cases qk; rfl
              | _ => cases qk
            have hdk : ∃ a vs, v1 = .ref a ∧ H2 a = some (.dK vs) ∧ RepK X.K I2 m2 vs ds := by
              cases p1 with
              | dct h r => cases qd; exact ⟨_, _, rfl, R2.same _ _ h, r⟩
              | @ref j a h =>
                simp only [dctOf] at qd
                cases z : c2[j]? with
                | none => rw [z] at qd; cases qd
                | some x =>
                  rw [z] at qd
                  cases x with
                  | dct es =>
                    cases qd
                    obtain ⟨_, vs, h1, h2⟩ := R2.cell j a _ h z
                    exact ⟨a, vs, rfl, h1, h2⟩
                  | _ => cases qd
              | _ => cases qd
            obtain ⟨a, vs, rfl, h1, h2⟩ := hdk
            obtain ⟨v, g1, g2⟩ := h2.get qg
            exact ⟨a, v, rfl, .inl ⟨vs, k, .inl h1, hv, g1.symm⟩, A2.here R2 g2⟩⟩⟩
end
end L2.Mi

/-! xs[lo:hi:step] of a list: a new list -/
namespace L2.Mi
open PySem PySem.Spec PyProof.Rows L2
section
variable {X : Cx} {W : WX} {e : Expr} {lo hi st : Option Expr} {te : TE} {tl th tk : TO} {p2 pos : Pos}
end
end L2.Mi

/-! x += e, x -= e of numbers and texts -/
namespace L2.Mi
open PySem PySem.Spec PyProof.Rows L2
end L2.Mi

/-! xs.extend(ys) -/
namespace L2.Mi
open PySem PySem.Spec PyProof.Rows L2
def extendD : D → List D → Cs → R D := fun d ds c => match cellX d c, ds with
  | some (k, xs), [y] => match lstC y c with
    | some zs => if xs.length + zs.length ≤ sizeLine then .ok .non (c.set k (.lst (xs ++ zs))) else .stuck
    | none => .stuck
  | _, _ => .stuck
theorem meth_extend {K : PySem.W.Frag} : MethS K rExtend extendD := fun I H m c v vs d ds W Q R p ps A => by
  unfold extendD at A
  cases q : cellX d c with
  | none => rw [q] at A; exact A.elim
  | some kx =>
    obtain ⟨k, xs⟩ := kx
    rw [q] at A
    cases ps with
    | nil => exact A.elim
    | @cons y ys dy dys h t =>
      cases t with
      | cons _ _ => exact A.elim
      | nil =>
        have A : After (rD K) K I m H W Q (match lstC dy c with
          | some zs => if xs.length + zs.length ≤ sizeLine then .ok .non (c.set k (.lst (xs ++ zs))) else .stuck
          | none => .stuck) := A
        cases z : lstC dy c with
        | none => rw [z] at A; exact A.elim
        | some zs =>
          rw [z] at A
          obtain ⟨a, ws, rfl, hm, hc, h1, h2⟩ := cellX_at R p q
          obtain ⟨b, us, rfl, g1, g2⟩ := lstC_at R h z
          by_cases hz : xs.length + zs.length ≤ sizeLine
          · have A : After (rD K) K I m H W Q (if xs.length + zs.length ≤ sizeLine then .ok .non (c.set k (.lst (xs ++ zs))) else .stuck) := A
            rw [if_pos hz] at A
            obtain ⟨R2, E2⟩ := R.put hm hc (h2.append g2)
            exact ⟨a, b, ws, us, rfl, rfl, h1, g1, by rw [h2.length, g2.length]; exact hz, A _ _ _ _ E2 R2 .non⟩
          · have A : After (rD K) K I m H W Q (if xs.length + zs.length ≤ sizeLine then .ok .non (c.set k (.lst (xs ++ zs))) else .stuck) := A
            rw [if_neg hz] at A
            exact A.elim
end L2.Mi

/-! {k: v for x in xs if ..}: a new cell -/
namespace L2.Mi
open PySem PySem.Spec PyProof.Rows L2
section
variable {X : Cx} {fa : ME}
end
end L2.Mi

/-! the signs of a shown value -/
namespace L2.Mi
open PySem PySem.Spec PyProof.Rows L2 PySem.StrLaws PySem.Builtin.Str
def CpOk (s : Str) : Prop := ∀ k ∈ s.cps.toList, k < 1114112
theorem cpok_app {a b : Str} (ha : CpOk a) (hb : CpOk b) : CpOk (a ++ b) := fun k hk => by
  rcases mem_cps_append.mp hk with h | h
  · exact ha k h
  · exact hb k h
theorem char_cp (c : Char) : c.toNat < 1114112 := by
  have := c.valid
  unfold UInt32.isValidChar Nat.isValidChar at this
  show c.val.toNat < 1114112
  omega
theorem cpok_of (s : String) : CpOk (Str.ofString s) := fun k hk => by
  rw [signs_ofString] at hk
  obtain ⟨c, _, rfl⟩ := List.mem_map.mp hk
  exact char_cp c
theorem hex_cp {n : Nat} {l : List Char} : ∀ k ∈ List.replicate n 48 ++ l.map Char.toNat, k < 1114112 := fun k hk => by
  rcases List.mem_append.mp hk with h | h
  · rw [(List.mem_replicate.mp h).2]; decide
  · obtain ⟨c, _, rfl⟩ := List.mem_map.mp h
    exact char_cp c
theorem two_cp {a b : Nat} (ha : a < 1114112) (hb : b < 1114112) : ∀ k ∈ [a, b], k < 1114112 := fun k hk => by
  simp only [List.mem_cons, List.not_mem_nil, or_false] at hk
  rcases hk with rfl | rfl
  · exact ha
  · exact hb
theorem reprChar_cp {q c : Nat} (hc : c < 1114112) : ∀ k ∈ reprChar q c, k < 1114112 := by
  have ap : ∀ {a b : Nat} {l : List Nat}, a < 1114112 → b < 1114112 → (∀ k ∈ l, k < 1114112) → ∀ k ∈ [a, b] ++ l, k < 1114112 := fun ha hb hl k hk => by
    rcases List.mem_append.mp hk with h | h
    · exact two_cp ha hb k h
    · exact hl k h
  unfold reprChar
  dsimp only
  repeat' split
  · exact two_cp (by decide) hc
  · exact two_cp (by decide) (by decide)
  · exact two_cp (by decide) (by decide)
  · exact two_cp (by decide) (by decide)
  · intro k hk; rw [List.mem_singleton.mp hk]; exact hc
  · exact ap (by decide) (by decide) hex_cp
  · exact ap (by decide) (by decide) hex_cp
  · exact ap (by decide) (by decide) hex_cp
theorem foldl_repr_cp {q : Nat} : ∀ (l : List Nat) (acc : Array Nat), (∀ c ∈ l, c < 1114112) → (∀ k ∈ acc.toList, k < 1114112) → ∀ k ∈ (l.foldl (fun out c => out ++ (reprChar q c).toArray) acc).toList, k < 1114112
  | [], acc, _, h => h
  | c :: r, acc, h, ha => by
    simp only [List.foldl_cons]
    refine foldl_repr_cp r _ (fun d hd => h d (List.mem_cons_of_mem _ hd)) fun k hk => ?_
    rw [Array.toList_append] at hk
    rcases List.mem_append.mp hk with z | z
    · exact ha k z
    · exact reprChar_cp (h c List.mem_cons_self) k z
theorem reprText_cp {x : Str} (hx : CpOk x) : CpOk (reprText x) := fun k hk => by
  have hq : reprQuote x < 1114112 := by unfold reprQuote; split <;> decide
  have hk : k ∈ ((x.cps.foldl (fun out c => out ++ (reprChar (reprQuote x) c).toArray) #[reprQuote x]).push (reprQuote x)).toList := hk
  rw [Array.toList_push, ← Array.foldl_toList] at hk
  rcases List.mem_append.mp hk with z | z
  · refine foldl_repr_cp _ _ hx (fun k hk => ?_) k z
    rw [show (#[reprQuote x] : Array Nat).toList = [reprQuote x] from rfl, List.mem_singleton] at hk
    rw [hk]; exact hq
  · rw [List.mem_singleton.mp z]; exact hq
theorem textFrom_cp : ∀ (ts : List Str) (k : Nat) (acc : Str), CpOk acc → (∀ t ∈ ts, CpOk t) → CpOk (textFrom k acc ts)
  | [], _, _, h, _ => h
  | t :: ts, k, acc, h, h2 => textFrom_cp ts (k + 1) _ (cpok_app (cpok_app h (by split <;> exact cpok_of _)) (h2 t List.mem_cons_self)) fun u hu => h2 u (List.mem_cons_of_mem _ hu)
theorem join_cp {sep : Str} {ts : List Str} (hs : CpOk sep) (h : ∀ t ∈ ts, CpOk t) : CpOk (Str.join sep ts) := fun k hk => by
  rcases (mem_join sep k ts).mp hk with ⟨t, ht, hk⟩ | ⟨_, hk⟩
  · exact h t ht k hk
  · exact hs k hk
mutual
theorem shown_cp : ∀ p : PyData, bP p = true → CpOk p.shown
  | .none, _ => cpok_of _
  | .bool b, _ => by cases b <;> exact cpok_of _
  | .int i, _ => cpok_of _
  | .str s, h => reprText_cp fun k hk => of_decide_eq_true (List.all_eq_true.mp (show (s.cps.toList.all fun k => decide (k < 1114112)) = true from h) k hk)
  | .list xs, h => cpok_app (textFrom_cp _ _ _ (cpok_of _) (shownAll_cp xs h)) (cpok_of _)
  | .tuple xs, h => cpok_app (cpok_app (cpok_of _) (join_cp (cpok_of _) (shownAll_cp xs h))) (by split <;> exact cpok_of _)
  | .dict kvs, h => cpok_app (cpok_app (cpok_of _) (join_cp (cpok_of _) (shownKv_cp kvs h))) (cpok_of _)
theorem shownAll_cp : ∀ ps : List PyData, bPs ps = true → ∀ t ∈ PyData.shownAll ps, CpOk t
  | [], _, t, ht => nomatch ht
  | p :: ps, h, t, ht => by
    simp only [bPs, Bool.and_eq_true] at h
    rcases List.mem_cons.mp ht with rfl | ht
    · exact shown_cp p h.1
    · exact shownAll_cp ps h.2 t ht
theorem shownKv_cp : ∀ ps : List (PyData × PyData), bPk ps = true → ∀ t ∈ PyData.shownKv ps, CpOk t
  | [], _, t, ht => nomatch ht
  | (k, v) :: ps, h, t, ht => by
    simp only [bPk, Bool.and_eq_true] at h
    rcases List.mem_cons.mp ht with rfl | ht
    · exact cpok_app (cpok_app (shown_cp k h.1.1) (cpok_of _)) (shown_cp v h.1.2)
    · exact shownKv_cp ps h.2 t ht
end
end L2.Mi

namespace L2.Mi
open PySem PySem.Spec PyProof.Rows L2
/-! plain reasoning, third part: what the walker uses -/
theorem ok_slY {a : ME} {lo hi : MO} {l : Ls} {c : Cs} {Q : D → Cs → Prop} (h : Ok (a l c) fun x c1 => Ok (lo l c1) fun i c2 => Ok (hi l c2) fun j c3 => Ok (sliceY x i j c3) Q) : Ok (mSliceY a lo hi l c) Q :=
  Ok.bind (h.mono fun _ _ h => Ok.bind (h.mono fun _ _ h => Ok.bind h))
theorem ok_len_map {α : Type} {f : α → D} {xs : List α} {c : Cs} {Q : D → Cs → Prop} (q : Q (.int xs.length) c) : Ok (lenD [.lst (xs.map f)] c) Q :=
  Ok.of (show lenD [.lst (xs.map f)] c = .ok (.int xs.length) c by
    show R.ok (D.int ((xs.map f).length : Nat)) c = _
    rw [List.length_map]) q
section
variable {α : Type} {g : MG} {t : MT} {a e : ME} {js : List Nat} {l : Ls} {c : Cs} {Q : D → Cs → Prop}
end
theorem sum_ints (is : List Int) (c : Cs) : sumY [.lst (is.map D.int)] c = .ok (.int is.sum) c := by
  show (match intsOf (is.map D.int) with
    | some ns => (R.ok (.int ns.sum) c : R D)
    | none => R.stuck) = _
  rw [intsOf_map]
end L2.Mi

/-! lambdas of one parameter that their bodies do not read, handed to a def that calls them -/
namespace LamY
open PySem PySem.Spec PyProof.Rows L2 LamX
/-- one parameter; captured names and globals -/
structure LamS1 (sc scope : Scope) (par : Str) : Prop where
  kind : scope.kind = .function
  co : scope.isCoroutine = false
  gen : scope.isGenerator = false
  parl : scope.names.lookup par = some .local
  own : ∀ y ∈ scope.names, (y.2 = .local → y.1 = par) ∧ y.2 ≠ .cell
  free : ∀ y ∈ scope.names, y.2 = .free → sc.names.lookup y.1 = some .cell ∨ sc.names.lookup y.1 = some .free
theorem LamS1.has {X : Cx} {scope : Scope} {par : Str} (L : LamS1 X.env.scope scope par) (ok : X.Ok) : ∀ y ∈ scope.names, y.2 = .free → ∃ c, X.env.cells.lookup y.1 = some c := fun y hy e => by
  rcases L.free y hy e with k | k
  · exact ok.has _ (.inl k)
  · exact ok.has _ (.inr k)
section
variable {X : Cx} {pins : List (Addr × Obj)} {σ : L2.St} {H HZ : Hp} {s s1 : Shared}
end
end LamY
namespace L2.Mi
open PySem PySem.Spec PyProof.Rows L2 LamX LamY
section
variable {K : PySem.W.Frag} {I H H1 : Hp} {m : List Addr} {c : Cs}
/-- what stands outside is known from now on -/
theorem allL_ne {p : Nat × Nat × Str} (h : p ∈ lamL) : allL ≠ [] := fun e => by
  have h2 : (p.1, p.2.1) ∈ allL := List.mem_append_right _ (List.mem_map.mpr ⟨p, h, rfl⟩)
  rw [e] at h2
  exact absurd h2 List.not_mem_nil
theorem Locs.up {I' : Hp} {m' : List Addr} {σ : St} {l : Ls} (L : Locs K I m σ l) (s : Same I I') (p : Pre m m') : Locs K I' m' σ l := ⟨L.len, fun i d h => let ⟨v, h1, h2⟩ := L.at_ i d h; ⟨v, h1, h2.mono s p⟩⟩
end
/-- a def that calls the lambda it gets -/
structure LamFn (P : Program) (w : World) (K : PySem.W.Frag) (mg : Str → Option Value) (base : Heap) (k : Nat) (f : Addr) (x : Str) (st : Stmt) (N : List Str) (a : Str) (b : ME → MS) : Prop where
  run : ∀ (cdv : Value) (A : Around) (outer : List Env) (s : Shared) (H : Hp) (E : XK), Room k (A.deeper (envOfC x (defScope st) s.heap.objs.size f cdv)) → A.guards = some [] → ∀ act : ME,
    (∀ (W : WX) (pn : List (Addr × Obj)) (xe : Value → Shared → Prop), Takes ((cxOf (CX P w) P w K mg base N x (defScope st) f cdv A outer s H E).tr pn xe) W → ∀ p1 p2 j p3,
      PE ((cxOf (CX P w) P w K mg base N x (defScope st) f cdv A outer s H E).tr pn xe) (.Call (.Name a p1) [.Constant (.int 0) j p3] [] p2) (rdE K W act)) →
    PSs (cxOf (CX P w) P w K mg base N x (defScope st) f cdv A outer s H E) (defBody st) (rdS K (fun cls d _ H' => E cls d H') (b act))
theorem LamFn.mono {P : Program} {w : World} {K : PySem.W.Frag} {mg : Str → Option Value} {base : Heap} {j k : Nat} {f : Addr} {x : Str} {st : Stmt} {N : List Str} {a : Str} {b : ME → MS} (F : LamFn P w K mg base j f x st N a b) (h : j ≤ k) : LamFn P w K mg base k f x st N a b :=
  ⟨fun cdv A outer s H E hr => F.run cdv A outer s H E (hr.mono h)⟩
/-! the outcome does not lie on the locals -/
end L2.Mi

/-! (a dict,) == (a text,) -/
namespace L2.Mi
open PySem PySem.Spec PyProof.Rows L2 PySem.SeqAt PySem.AutoSeq1
theorem eqAt_dict_str {A : Around} {s : Shared} {l : Addr} {es : Array DictEntry} {n : Nat} {dd : Option Addr} {sl : Array (Option Value)} (b : Str) (u : Tok)
    (ho : s.heap.get? l = some { cls := .type "dict", dict := dd, data := .dict es n, slots := sl }) (hu : A.units < cLine) : EqAt A s (.ref l) (.str b u) false := fun prog w E Q hq => by
  unfold eqBool
  refine wpAny_holding ?_
  refine wpAny_ite_split (fun hab => absurd (eq_of_beq hab) (fun e => nomatch e)) (fun _ => ?_)
  exact wpAny_bind (rc_dict_str b u ho hu (wpAny_truthy_bool hq))
section
variable {K : PySem.W.Frag}
end
/-! slices of tuples, the whole too -/
end L2.Mi

/-! own == within an except suite -/
namespace L2.Mi
open PySem PySem.Spec PyProof.Rows L2
theorem _root_.L2H.RoomH.units {k : Nat} {A : Around} (r : L2H.RoomH k A) : A.units + 64 < cLine := by have := r.un; omega
/-- the def at f does what g says, also where an exception is handled; it raises none -/
structure HFn (P : Program) (w : World) (K : PySem.W.Frag) (mg : Str → Option Value) (base : Heap) (k : Nat) (f : Addr) (fd : FuncData) (ps : List Str) (g : List D → Cs → R D) : Prop where
  len : ∀ ds c, g ds c ≠ .stuck → ds.length = ps.length
  run : ∀ (A : Around) (outer : List Env) (s : Shared) (H : Hp) (args : Args) (us : List Value) (vs : List V) (Q : VK) (E : XK) (I : Hp) (m : List Addr) (c : Cs) (ds : List D) (q : Addr × Obj), L2H.RoomH k A → L2H.PinOk outer H s q → A.guards = some [] → Env0 P w K mg base A outer s H →
    BindsTo s fd args (ps.zip us) → Vals vs us → Rel K I H m c → Reps K I m vs ds → After (rD K) K I m H E Q (g ds c) → codeAny (model P w) A (.call (.ref f) args) (CR (CX P w) outer P w H s Q E) s
theorem HFn.mono {P : Program} {w : World} {K : PySem.W.Frag} {mg : Str → Option Value} {base : Heap} {j k : Nat} {f : Addr} {fd : FuncData} {ps : List Str} {g : List D → Cs → R D} (F : HFn P w K mg base j f fd ps g) (h : j ≤ k) : HFn P w K mg base k f fd ps g :=
  ⟨F.len, fun A outer s H args us vs Q E I m c ds q hr => F.run A outer s H args us vs Q E I m c ds q (hr.mono h)⟩
section
variable {X : Cx} {W : WX} {k : Nat} {tbl : Tbl} {mm : Str} {g0 : D → D → Cs → R D}
end
end L2.Mi

/-! plain reasoning, fourth part: comprehensions of two clauses -/
namespace L2.Mi
open PySem PySem.Spec PyProof.Rows L2
section
variable {α β : Type} {g g1 : MG} {t t1 : MT} {e : ME} {it it1 : MK} {js js1 : List Nat} {l lw : Ls} {c : Cs} {Q : D → Cs → Prop}
end
end L2.Mi

/-! for .. else -/
namespace L2.Mi
open PySem PySem.Spec PyProof.Rows L2
end L2.Mi

/-! an instance called -/
namespace L2.Mi
open PySem PySem.Spec PyProof.Rows L2 StX
section
variable {X : Cx} {W : WX} {fe e : Expr} {es : List Expr} {fo : ME} {ga : MA} {pos : Pos} {k : Nat} {tbl : Tbl}
/-- statements that are never come to -/
def sCut : MS := fun _ _ => .stuck
theorem ms_cut {ss : List Stmt} : PSs X ss (rdS X.K W sCut) := ⟨fun pins s σ H D J h => by
  obtain ⟨_, _, _, _, _, _, A⟩ := h
  exact A.elim⟩
end
end L2.Mi

namespace ScI
open PySem PySem.Spec PyProof.Rows L2 PpSet
section
variable {X : Cx}
end
end ScI
namespace ScI
open PySem
open Sem (wp)
open AutoSeq1 (wpAny_loadPart')
section
variable {prog : Program} {w : World} {A : Around} {E : Value → Shared → Prop} {s : Shared}
theorem collect_seqX {Q : List Value → Shared → Prop} (it : Addr) {T : String} {o : Obj} {items : Array Value} {n : Nat} (hT : T = "list" ∨ T = "tuple")
    (ho : s.heap.get? it = some o) (hc : o.cls = .type T) (hd : o.data = .seq items n)
    (hQ : Q items.toList { s with heap := (s.heap.push { cls := .type "list", data := .seq ([] : List Value).toArray }).update s.heap.objs.size (Obj.mapSeq (· ++ items)) }) (hsz : items.size ≤ sizeLine := by size_fits) :
    wpAny (model prog w) A (collect (.ref it)) Q E s := by
  unfold collect
  refine wpAny_bind (wpAny_runValue (codeAny_builtin F.entry_proto_collect ?_))
  rw [Around.under_plainId F.plain_proto_collect _]
  show wpAny _ A.in1 (newList [] >>= fun l => again (.builtin "list.__iadd__" ⟨[l, .ref it], []⟩)) _ _ s
  refine wpAny_bind (wpAny_newObj_type ?_)
  refine wpAny_pure ⟨plainId_quiet F.plain_list_iadd _, codeAny_builtin F.entry_list_iadd ?_⟩
  rw [Around.under_plainId F.plain_list_iadd _]
  show wpAny _ A.in1 (Builtin.List.listExtendWith (.ref s.heap.objs.size) (.ref it) (.ref s.heap.objs.size)) _ _ _
  have hS : (s.heap.push { cls := .type "list", data := .seq ([] : List Value).toArray }).get? s.heap.objs.size = some { cls := .type "list", data := .seq #[] 0 } := Heap.get?_push_size _ rfl
  have hS₂ := Heap.get?_update_self (Obj.mapSeq (· ++ items)) hS rfl
  have fin' : wpAny (model prog w) A (match Value.ref s.heap.objs.size with
      | Value.ref a => do
        match (← load a).data with
          | Data.seq xs _ => pure xs.toList
          | _ => unsupported "internal:collect"
      | _ => unsupported "internal:collect") Q E { s with heap := (s.heap.push { cls := .type "list", data := .seq ([] : List Value).toArray }).update s.heap.objs.size (Obj.mapSeq (· ++ items)) } := by
    show wpAny _ A (load s.heap.objs.size >>= _) _ _ _
    refine wpAny_bind (wpAny_load hS₂ ?_)
    refine wpAny_pure ?_
    have e : ((#[] : Array Value) ++ items).toList = items.toList := by simp
    show Q ((#[] : Array Value) ++ items).toList _
    rw [e]
    exact hQ
  refine wpAny_mono (wpAny_extend_seq (hsz := hsz) (A := A) (R := fun r s' => r = .ok (.ret (.ref s.heap.objs.size)) ∧ s' = { s with heap := (s.heap.push { cls := .type "list", data := .seq ([] : List Value).toArray }).update s.heap.objs.size (Obj.mapSeq (· ++ items)) })
    (s := { s with heap := s.heap.push { cls := .type "list", data := .seq ([] : List Value).toArray } }) _ it _ 0 hT hS (Heap.get?_push_of_some _ ho) hc hd ⟨rfl, rfl⟩) (fun fin s' h => ?_) (fun e s' h => ?_)
  · cases fin with
    | done f =>
      obtain ⟨e, rfl⟩ := h
      cases e
      exact fin'
    | again c' => exact ⟨h.1, codeAny_mono h.2 fun r s'' hr => by obtain ⟨rfl, rfl⟩ := hr; exact fin'⟩
  · exact absurd h.1 (by simp)
end
end ScI
namespace L2.Mi
open PySem PySem.Spec PyProof.Rows L2 PpSet ScI
/-! ### the members of a list of whole numbers, ascending -/
/-! ### whole numbers in a list, a tuple, a cell -/
def intsQ (d : D) (c : Cs) : Option (List Int) := match seqOf d c with
  | some ds => intsOf ds
  | none => none
section
variable {X : Cx} {W : WX}
theorem intsQ_at {K : PySem.W.Frag} {I H : Hp} {m : List Addr} {c : Cs} {v : V} {d : D} {ns : List Int} (R : Rel K I H m c) (p : Rep K I m v d) (h : intsQ d c = some ns) : ∃ a, v = .ref a ∧ SqY K H a ns := by
  unfold intsQ at h
  cases q : seqOf d c with
  | none => rw [q] at h; cases h
  | some ds =>
    rw [q] at h
    obtain ⟨a, xs, rfl, hs, hr⟩ := seq_at R p q
    rw [ints_reps hr h] at hs
    exact ⟨a, rfl, hs⟩
/-! sorted(e) -/
def rSortedY (K : PySem.W.Frag) : List V → Hp → VK → Prop := fun vs H Q => ∃ (a : Addr) (ns : List Int), vs = [V.ref a] ∧ SqY K H a ns ∧ ∀ (ns' : List Int) (p : Addr), ns'.Perm ns → ns'.Pairwise (· ≤ ·) → H p = none → Q (.ref p) (upd H p (.lst (ns'.map V.int)))
theorem cr_sortedY : CallR X (.builtin "sorted") (rSortedY X.K) := by
  intro pins s σ H vs us Q I r h
  obtain ⟨a, ns, rfl, hs | hs, q⟩ := h
  · exact cr_sortedI _ _ _ _ _ _ _ I r ⟨a, ns, rfl, hs, q⟩
  · obtain ⟨its, rv, ⟨o, ho, hc, n, hd⟩, hz⟩ := I.tuple hs
    rw [Vals.ref1 r]
    have hi : IntsAre its ns := by simpa using rv.ints
    have hzl : its.length ≤ sizeLine := by
      rw [← rv.length]; exact hz
    refine Calls.call_function_entry kind_sorted plain_sorted entry_sorted (args_sorted1 _) ?_
    unfold Builtin.«sorted»
    refine wpAny_bind (m := checkCount "sorted" 1 1 _) (wpAny_pure ?_)
    refine wpAny_bind (collect_seqX a (.inr rfl) ho hc hd ?_ (by simpa using hzl))
    generalize hh : (s.heap.push { cls := .type "list", data := .seq ([] : List Value).toArray }).update s.heap.objs.size (Obj.mapSeq (· ++ its.toArray)) = h'
    have hsz : h'.objs.size = s.heap.objs.size + 1 := by rw [← hh, Heap.size_update, size_push']
    have hL : s.heap.objs.size ≤ h'.objs.size := by omega
    have kp : ∀ b u, s.heap.get? b = some u → h'.get? b = some u := fun b u e => by
      rw [← hh, Heap.get?_update_ne _ _ _ _ (Nat.ne_of_lt (Heap.lt_size e))]
      exact Heap.get?_push_of_some _ e
    refine wpAny_bind (wpAny_newList ?_ (by simpa using hzl))
    have hoL : (h'.push (seqObj "list" its.toArray 0)).get? h'.objs.size = some (seqObj "list" its.toArray 0) := Heap.get?_push_size _ rfl
    show wpAny _ _ _ _ _ { s with heap := h'.push (seqObj "list" (its.toArray.toList).toArray 0) }
    rw [show (its.toArray.toList).toArray = its.toArray by simp]
    refine wpAny_bind (wpAny_holding (wpAny_call_entry slot_list_sort ⟨_, hoL, rfl⟩ entry_list_sort (SrtO.list_sort_ord SrtO.swo_int hoL hzl (fun h2 => SrtO.ints_sortable hi h2) fun out h1 h2 => ⟨_, rfl, ?_⟩) (args_list_sort _)))
    obtain ⟨k1, k2, k3⟩ := SrtO.ints_out hi h1 h2
    obtain ⟨ep, he'⟩ := sortedHeap_at (vs := its) (out := out.toArray) hoL
    have hlen : ((out.map SrtO.iv).map V.int).length ≤ sizeLine := by
      rw [List.length_map, k2.length_eq, ← IntsAre.length hi]
      exact hzl
    refine wpAny_pure ⟨_, rfl, ⟨.ref _, upd H h'.objs.size (.lst ((out.map SrtO.iv).map V.int)), I.laid (t' := s.toks) (fun b u e => ?_) hL ⟨hlen, out, ep, vals_of_ints k1, he'⟩, rfl, q _ _ k2 k3 (I.hok.fresh hL)⟩⟩
    have e' := kp b u e
    have hlt := Heap.lt_size e'
    rw [sortedHeap_old (Nat.ne_of_lt hlt) (by rw [size_push']; exact Nat.lt_succ_of_lt hlt)]
    exact Heap.get?_push_of_some _ e'
def sortPY (d : D) (c : Cs) : R D := match intsQ d c with
  | some ns => .ok (.lst ((sortI ns).map D.int)) c
  | none => .stuck
def sortY : List D → Cs → R D := on1 sortPY
theorem cs_sortedY {K : PySem.W.Frag} : CallS K (rSortedY K) sortY := fun I H m c vs ds W Q R p A => by
  obtain ⟨v, d, rfl, rfl, p, A⟩ := on1_arg p A
  have A : After (rD K) K I m H W Q (match intsQ d c with
    | some ns => .ok (.lst ((sortI ns).map D.int)) c
    | none => .stuck) := A
  cases q : intsQ d c with
  | none => rw [q] at A; exact A.elim
  | some ns =>
    rw [q] at A
    obtain ⟨a, rfl, hs⟩ := intsQ_at R p q
    refine ⟨a, ns, rfl, hs, fun ns' p1 hp hso np => ?_⟩
    rw [sorted_one (hp.trans (sortI_perm ns).symm) hso (sortI_sorted ns)]
    exact A.new R np (.lst upd_same (reps_ints _))
/-! len(set(e)) -/
end
/-! sorted({x for x in e}) -/
section
variable {X : Cx} {W : WX}
end
end L2.Mi

/-! x == y, x != y by an own == where y may be an instance of another class -/
namespace L2.Mi
open PySem PySem.Spec PyProof.Rows L2
section
variable {X : Cx} {W : WX} {k : Nat} {tbl : Tbl} {g0 : D → D → Cs → R D} {ns : List Str}
end
/-! plain -/
section
variable {c : Cs} {x y : D} {Q : D → Cs → Prop} {n : Str} {g : List D → Cs → R D} {g0 : D → D → Cs → R D} {fs : List (Str × D)} {ns : List Str}
end
end L2.Mi

/-! zip(*rows) over texts of one length, as many as eight -/
namespace L2.Mi
open PySem PySem.Spec PyProof.Rows L2

/-- text iterators: each stands where it stands -/
def ItsAt (h : Heap) (its : List Addr) (zs : List Str) (f : Nat → Nat) : Prop :=
  ∀ (j : Nat) (it : Addr) (z : Str), its[j]? = some it → zs[j]? = some z → ∃ t, h.IsStrIter it (strIterType z) z t (f j)
section
variable {M : Model} {A : Around} {E : Value → Shared → Prop} {β : Type}
end

section
variable {prog : Program} {w : World} {A : Around} {E : Value → Shared → Prop}
theorem IsStrIter_at {h h' : Heap} {it : Addr} {ty : String} {z : Str} {t : Tok} {i : Nat} (st : h.IsStrIter it ty z t i) (k : ∀ o, h.get? it = some o → h'.get? it = some o) : h'.IsStrIter it ty z t i := by
  obtain ⟨o, h1, h2⟩ := st; exact ⟨o, k o h1, h2⟩
theorem ItsAt.at {h h' : Heap} {its : List Addr} {zs : List Str} {f : Nat → Nat} (st : ItsAt h its zs f) (k : ∀ it ∈ its, ∀ o, h.get? it = some o → h'.get? it = some o) : ItsAt h' its zs f := fun j it z e1 e2 => by
  obtain ⟨t, st⟩ := st j it z e1 e2
  exact ⟨t, IsStrIter_at st (k it (List.mem_of_getElem? e1))⟩
end
/-! ### the walk -/
/-! ### over plain values -/
/-! ### list(d) of a dict: its keys -/
def kD : Key → D
  | .inl i => .int i
  | .inr s => .str s
end L2.Mi

/-! zip of three over lists, tuples, texts in any mix; the target is a tuple -/
namespace L2.Mi
open PySem PySem.Spec PyProof.Rows L2
end L2.Mi

/-! [f, g, ..][i](x, ..): a def chosen by index -/
namespace L2.Mi
open PySem PySem.Spec PyProof.Rows L2
section
variable {X : Cx} {W : WX} {e : Expr} {es : List Expr} {fe : Expr} {fi : ME} {ga gt : MA} {pos : Pos}
end
/-! ### three names as a comprehension's target -/
end L2.Mi

/-! lambdas that are kept in a list and called by a comprehension -/
namespace LamZ
open PySem PySem.Spec PyProof.Rows L2 LamX LamY
section
variable {X : Cx} {pins : List (Addr × Obj)} {σ : L2.St} {H HZ : Hp} {s s1 : Shared}
end
end LamZ
namespace LamZ
open PySem PySem.Spec PyProof.Rows L2 LamX LamY
section
variable {X : Cx} {pins : List (Addr × Obj)} {σ : L2.St} {elt tg iter : Expr} {ifs : List Expr} {scope : Scope} {own : List (Str × Nat)} {pos : Pos} {g : TG} {tt : TT} {te : TE} {Q : VK}
/-- what stands over a block's context gives its def's back -/
abbrev Gives (X : Cx) (pins : List (Addr × Obj)) (σ : L2.St) (Y : Cx) : Prop := ∀ (pn : List (Addr × Obj)) (σ' : L2.St) (H' : Hp) (s' : Shared), Inv Y pn σ' H' s' → Inv X pins σ H' s'
end
end LamZ
namespace L2.Mi
open PySem PySem.Spec PyProof.Rows L2 LamX LamY LamZ
/-! a def whose text does not lie on the frame's ghosts -/
end L2.Mi

/-! dicts whose keys are (text, number): made, written, walked by items() -/
namespace L2.Mi
open PySem PySem.Spec PyProof.Rows L2
def intsK : List D → Option (List Key)
  | [] => some []
  | .int i :: ds => (intsK ds).map fun ks => .inl i :: ks
  | _ => none
def keyT (d : D) : Option (List Key) := match d with
  | .tup [.str s, .int i] => some [.inr s, .inl i]
  | .tup (.int i :: ds) => (intsK ds).map fun ks => .inl i :: ks
  | _ => none
def keyDT (k : List Key) : D := .tup (k.map kD)
theorem intsK_all : ∀ {ds : List D} {ks : List Key}, intsK ds = some ks → ds.all isInt = true
  | [], _, _ => rfl
  | .int i :: ds, ks, h => by
    have h : (intsK ds).map (fun ks => (.inl i :: ks : List Key)) = some ks := h
    cases q : intsK ds with
    | none => rw [q] at h; cases h
    | some js =>
      show ds.all isInt = true
      exact intsK_all q
theorem intsK_rep {K : PySem.W.Frag} {I : Hp} {m : List Addr} : ∀ {ds : List D} {ks : List Key} {vs : List V}, intsK ds = some ks → Reps K I m vs ds → vs = ks.map kV
  | [], ks, vs, h, r => by
    cases h
    cases r
    rfl
  | .int i :: ds, ks, vs, h, r => by
    have h : (intsK ds).map (fun ks => (.inl i :: ks : List Key)) = some ks := h
    cases q : intsK ds with
    | none => rw [q] at h; cases h
    | some js =>
      rw [q] at h
      cases h
      cases r with
      | cons h1 t =>
        cases h1
        rw [intsK_rep q t]
        rfl
theorem keyish_int {i : Int} {ds : List D} (h : keyish (.int i :: ds) = false) : ds.all isInt = false := by
  unfold keyish at h
  split at h <;> simp_all [isInt]
theorem rep_keyT {K : PySem.W.Frag} {I : Hp} {m : List Addr} {v : V} {d : D} {k : List Key} (p : Rep K I m v d) (h : keyT d = some k) : ∃ b, v = .ref b ∧ I b = some (.tup (k.map kV)) := by
  unfold keyT at h
  split at h
  · cases h
    cases p with
    | @tup a vs _ hs r q =>
      rcases q with q | q
      · refine ⟨a, rfl, ?_⟩
        rw [q]
        cases r with
        | cons h1 t => cases t with
          | cons h2 t2 =>
            cases t2
            cases h2
            cases h1
            rfl
      · cases q
  · rename_i i ds
    cases q : intsK ds with
    | none => rw [q] at h; cases h
    | some js =>
      rw [q] at h
      cases h
      cases p with
      | @tup a vs _ hs r z =>
        rcases z with z | z
        · refine ⟨a, rfl, ?_⟩
          rw [z]
          cases r with
          | cons h1 t =>
            cases h1
            rw [intsK_rep q t]
            rfl
        · have z : ds.all isInt = false := keyish_int z
          rw [intsK_all q] at z
          cases z
  · cases h
def putKT (kvs : List (List Key × D)) (k : List Key) (d : D) : List (List Key × D) :=
  if (kvs.any fun kv => decide (kv.1 = k)) = true then kvs.map (fun kv => if kv.1 = k then (kv.1, d) else kv) else kvs ++ [(k, d)]
section
variable {K : PySem.W.Frag} {I : Hp} {m : List Addr}
theorem RepT.nil : RepT K I m [] [] := ⟨rfl, .nil⟩
theorem RepT.cons {k : List Key} {v : V} {d : D} {vs : List (List Key × V)} {ds : List (List Key × D)} (h : Rep K I m v d) (t : RepT K I m vs ds) : RepT K I m ((k, v) :: vs) ((k, d) :: ds) := ⟨by simp [t.1], .cons h t.2⟩
theorem RepT.inv {x : List Key × V} {vs : List (List Key × V)} {y : List Key × D} {ds : List (List Key × D)} (r : RepT K I m (x :: vs) (y :: ds)) : x.1 = y.1 ∧ Rep K I m x.2 y.2 ∧ RepT K I m vs ds := by
  obtain ⟨r1, r2⟩ := r
  simp only [List.map_cons, List.cons.injEq] at r1
  cases r2 with
  | cons h t => exact ⟨r1.1, h, r1.2, t⟩
theorem RepT.length {vs : List (List Key × V)} {ds : List (List Key × D)} (r : RepT K I m vs ds) : vs.length = ds.length := by simpa using congrArg List.length r.1
theorem RepT.ind {P : List (List Key × V) → List (List Key × D) → Prop} (h0 : P [] []) (hc : ∀ (k : List Key) (v : V) (d : D) (vs : List (List Key × V)) (ds : List (List Key × D)), Rep K I m v d → RepT K I m vs ds → P vs ds → P ((k, v) :: vs) ((k, d) :: ds)) :
    ∀ {vs : List (List Key × V)} {ds : List (List Key × D)}, RepT K I m vs ds → P vs ds := by
  intro vs
  induction vs with
  | nil => intro ds r; cases ds with
    | nil => exact h0
    | cons y ds => have := r.length; simp at this
  | cons x vs ih => intro ds r; cases ds with
    | nil => have := r.length; simp at this
    | cons y ds =>
      obtain ⟨k, v⟩ := x
      obtain ⟨k', d⟩ := y
      obtain ⟨e, h, t⟩ := r.inv
      obtain rfl : k = k' := e
      exact hc k v d vs ds h t (ih t)
theorem RepT.any {k : List Key} {vs : List (List Key × V)} {ds : List (List Key × D)} (r : RepT K I m vs ds) : (vs.any fun kv => decide (kv.1 = k)) = (ds.any fun kv => decide (kv.1 = k)) :=
  RepT.ind (P := fun vs ds => (vs.any fun kv => decide (kv.1 = k)) = (ds.any fun kv => decide (kv.1 = k))) rfl (fun k' v d vs ds _ _ ih => by simp only [List.any_cons, ih]) r
theorem RepT.put {k : List Key} {v : V} {d : D} (p : Rep K I m v d) {vs : List (List Key × V)} {ds : List (List Key × D)} (r : RepT K I m vs ds) : RepT K I m (putK vs k v) (putKT ds k d) := by
  have app : RepT K I m (vs ++ [(k, v)]) (ds ++ [(k, d)]) :=
    RepT.ind (P := fun vs ds => RepT K I m (vs ++ [(k, v)]) (ds ++ [(k, d)])) (.cons p .nil) (fun k' v' d' vs ds h _ ih => .cons h ih) r
  have mp : RepT K I m (vs.map fun kv => if kv.1 = k then (kv.1, v) else kv) (ds.map fun kv => if kv.1 = k then (kv.1, d) else kv) :=
    RepT.ind (P := fun vs ds => RepT K I m (vs.map fun kv => if kv.1 = k then (kv.1, v) else kv) (ds.map fun kv => if kv.1 = k then (kv.1, d) else kv)) .nil (fun k' v' d' vs ds h _ ih => by
      simp only [List.map_cons]
      by_cases e : k' = k
      · rw [if_pos e, if_pos e]; exact .cons p ih
      · rw [if_neg e, if_neg e]; exact .cons h ih) r
  unfold putK putKT
  rw [r.any]
  by_cases h : (ds.any fun kv => decide (kv.1 = k)) = true
  · rw [if_pos h, if_pos h]; exact mp
  · rw [if_neg h, if_neg h]; exact app
def getKT (ds : List (List Key × D)) (k : List Key) : Option D := (ds.find? fun kv => decide (kv.1 = k)).map (·.2)
theorem RepT.get {k : List Key} {d : D} {vs : List (List Key × V)} {ds : List (List Key × D)} (r : RepT K I m vs ds) : getKT ds k = some d → ∃ v, valV vs k = some v ∧ Rep K I m v d :=
  RepT.ind (P := fun vs ds => getKT ds k = some d → ∃ v, valV vs k = some v ∧ Rep K I m v d) (fun e => by cases e) (fun k1 v d' vs ds h t ih e => by
    unfold getKT at e
    unfold valV
    rw [List.find?_cons] at e ⊢
    by_cases hk : k1 = k
    · simp only [hk, decide_true] at e ⊢
      cases e
      exact ⟨_, rfl, h⟩
    · simp only [hk, decide_false] at e ⊢
      exact ih e) r
theorem RepT.at_ {vs : List (List Key × V)} {ds : List (List Key × D)} (r : RepT K I m vs ds) : ∀ {i : Nat} {k : List Key} {d : D}, ds[i]? = some (k, d) → ∃ v, vs[i]? = some (k, v) ∧ Rep K I m v d :=
  RepT.ind (P := fun vs ds => ∀ {i : Nat} {k : List Key} {d : D}, ds[i]? = some (k, d) → ∃ v, vs[i]? = some (k, v) ∧ Rep K I m v d) (fun e => by simp at e) (fun k' v d' vs ds h t ih => by
    intro i k d e
    cases i with
    | zero => simp at e; obtain ⟨rfl, rfl⟩ := e; exact ⟨v, rfl, h⟩
    | succ i => exact ih (by simpa using e)) r
end
section
variable {K : PySem.W.Frag} {I H : Hp} {m : List Addr} {c : Cs}
theorem Rel.putT (r : Rel K I H m c) {k : Nat} {a : Addr} {vs : List (List Key × V)} {ds ds0 : List (List Key × D)} (hm : m[k]? = some a) (hc : c[k]? = some (.dT ds0)) (q : RepT K I m vs ds) : Rel K I (upd H a (.dT vs)) m (c.set k (.dT ds)) ∧ Ext I m H I m (upd H a (.dT vs)) := by
  obtain ⟨n1, ws, n2, n3⟩ := r.cell k a _ hm hc
  refine ⟨⟨fun b o e => ?_, by simp [r.len], r.nd, fun j b x h1 h2 => ?_, r.tabs.upH (nt_some n2 ⟨(fun _ z => nomatch z), (fun _ z => nomatch z)⟩)⟩, Same.refl I, Pre.refl m, fun b o h1 hT h2 h3 => ⟨?_, h2, h3⟩⟩
  · rw [upd_ne (ne_of_none e n1)]
    exact r.same _ _ e
  · by_cases hj : k = j
    · subst hj
      rw [List.getElem?_set_self (List.getElem?_eq_some_iff.mp hc).1] at h2
      rw [hm] at h1
      cases h1; cases h2
      exact ⟨n1, vs, upd_same, q⟩
    · rw [List.getElem?_set_ne hj] at h2
      have nb : b ≠ a := fun e => hj (r.nd k j a hm (e ▸ h1))
      have q := r.cell j b x h1 h2
      cases x with
      | lst es =>
        obtain ⟨q1, ws, q2, q3⟩ := q
        exact ⟨q1, ws, by rw [upd_ne nb]; exact q2, q3⟩
      | dct es =>
        obtain ⟨q1, ws, q2, q3⟩ := q
        exact ⟨q1, ws, by rw [upd_ne nb]; exact q2, q3⟩
      | dT es =>
        obtain ⟨q1, ws, q2, q3⟩ := q
        exact ⟨q1, ws, by rw [upd_ne nb]; exact q2, q3⟩
      | dN P0 w0 es =>
        obtain ⟨q1, ws, q2, q3⟩ := q
        exact ⟨q1, ws, by rw [upd_ne nb]; exact q2, q3⟩
      | dTz es => exact q
      | ins C es =>
        obtain ⟨q1, dx, ws, q2, q3, q4, q5, q6⟩ := q
        exact ⟨q1, dx, ws, q2, q3, by rw [upd_ne (ne_of q4 n2 (by intro z; cases z))]; exact q4, q5.imp fun _ z => ⟨z.1, by rw [upd_ne nb]; exact z.2⟩, q6⟩
      | frz d => exact q
  · rw [upd_ne (fun (e : b = a) => h3 (by rw [e]; exact List.mem_of_getElem? hm))]
    exact h1
/-- the dict is locked: it does not change any more -/
theorem Rel.lockT (r : Rel K I H m c) {k : Nat} {a : Addr} {ds : List (List Key × D)} (o : Obj) (hm : m[k]? = some a) (hc : c[k]? = some (.dT ds)) : ∃ vs, H a = some (.dT vs) ∧ RepT K I m vs ds ∧
    Rel K (upd I a (.frz o (.dT vs))) (upd H a (.frz o (.dT vs))) m (c.set k (.dTz ds)) ∧ Ext I m H (upd I a (.frz o (.dT vs))) m (upd H a (.frz o (.dT vs))) := by
  obtain ⟨n1, ws, n2, n3⟩ := r.cell k a _ hm hc
  have sI : Same I (upd I a (.frz o (.dT ws))) := fun b o e => by rw [upd_ne (ne_of_none e n1)]; exact e
  refine ⟨ws, n2, n3, ⟨fun b o e => ?_, by simp [r.len], r.nd, fun j b x h1 h2 => ?_, r.tabs.upHI (nt_some n2 ⟨(fun _ z => nomatch z), (fun _ z => nomatch z)⟩)⟩, sI, Pre.refl m, fun b o h1 hT h2 h3 => ?_⟩
  · by_cases hb : b = a
    · subst hb
      rw [upd_same] at e ⊢
      exact e
    · rw [upd_ne hb] at e ⊢
      exact r.same _ _ e
  · by_cases hj : k = j
    · subst hj
      rw [List.getElem?_set_self (List.getElem?_eq_some_iff.mp hc).1] at h2
      rw [hm] at h1
      cases h1; cases h2
      exact ⟨o, ws, upd_same, n3.mono sI (Pre.refl m)⟩
    · rw [List.getElem?_set_ne hj] at h2
      have nb : b ≠ a := fun e => hj (r.nd k j a hm (e ▸ h1))
      have q := r.cell j b x h1 h2
      cases x with
      | lst es =>
        obtain ⟨q1, ws, q2, q3⟩ := q
        exact ⟨by rw [upd_ne nb]; exact q1, ws, by rw [upd_ne nb]; exact q2, q3.mono sI (Pre.refl m)⟩
      | dct es =>
        obtain ⟨q1, ws, q2, q3⟩ := q
        exact ⟨by rw [upd_ne nb]; exact q1, ws, by rw [upd_ne nb]; exact q2, q3.mono sI (Pre.refl m)⟩
      | dT es =>
        obtain ⟨q1, ws, q2, q3⟩ := q
        exact ⟨by rw [upd_ne nb]; exact q1, ws, by rw [upd_ne nb]; exact q2, q3.mono sI (Pre.refl m)⟩
      | dN P0 w0 es =>
        obtain ⟨q1, ws, q2, q3⟩ := q
        exact ⟨by rw [upd_ne nb]; exact q1, ws, by rw [upd_ne nb]; exact q2, q3.mono sI (Pre.refl m)⟩
      | dTz es => exact q.imp (fun _ y => y.imp fun _ y => ⟨sI _ _ y.1, y.2.mono sI (Pre.refl m)⟩)
      | ins C es =>
        obtain ⟨q1, dx, ws, q2, q3, q4, q5, q6⟩ := q
        have nd : dx ≠ a := ne_of q4 n2 (by intro z; cases z)
        exact ⟨by rw [upd_ne nb]; exact q1, dx, ws, by rw [upd_ne nd]; exact q2, q3, by rw [upd_ne nd]; exact q4, q5.imp fun _ z => ⟨z.1, by rw [upd_ne nb]; exact z.2⟩, q6.mono sI (Pre.refl m)⟩
      | frz d => exact ⟨by rw [upd_ne nb]; exact q.1, q.2.mono sI (Pre.refl m)⟩
  · have na : b ≠ a := fun e => h3 (by rw [e]; exact List.mem_of_getElem? hm)
    exact ⟨by rw [upd_ne na]; exact h1, by rw [upd_ne na]; exact h2, h3⟩
end
def mDictT0 : ME := fun _ c => .ok (.ref c.length) (c ++ [.dT []])
section
variable {X : Cx} {W : WX} {pos : Pos}
theorem me_dictT0 : PE X (.Dict [] [] pos) (rdE X.K W mDictT0) := PEi pe_dnewT fun σ H Q ⟨I, m, l, c, R, L, A⟩ => fun p np => by
  obtain ⟨R2, E2⟩ := R.pushC (o := .dT []) (x := .dT []) np ⟨R.same.free np, [], upd_same, .nil⟩
  refine A _ _ _ _ E2 R2 (.ref ?_)
  rw [← R.len, List.getElem?_append_right (Nat.le_refl _), Nat.sub_self]
  rfl
/-- d[t] = v at a dict's cell -/
def putTR (x y d : D) (c : Cs) : R Unit := match x, keyT y with
  | .ref k, some kk => match c[k]? with
    | some (.dT kvs) => if kvs.length < 10000 then .ok () (c.set k (.dT (putKT kvs kk d))) else .stuck
    | _ => .stuck
  | _, _ => .stuck
def gST (o i : ME) : MG := fun d l c => (o l c).bind fun x c1 => (i l c1).bind fun y c2 => (putTR x y d c2).bind fun _ c3 => .ok l c3
theorem mg_subT {tg : Expr} {fo fi : ME} (h : PG X tg (gSub (rdE X.K W fo) (rdE X.K W fi) rSetD)) : PG X tg (rdG X.K W (gST fo fi)) :=
  PGi h fun v σ H Q ⟨I, m, l, c, d, R, L, p, A⟩ => by
    refine ⟨I, m, l, c, R, L, After.mono (After.bind (rep := rD X.K) A) fun v1 H1 ⟨I1, m1, c1, d1, E1, R1, p1, A1⟩ => ?_⟩
    refine ⟨I1, m1, l, c1, R1, L.ext E1, After.mono (After.bind (rep := rD X.K) A1) fun v2 H2 ⟨I2, m2, c2, d2, E2, R2, p2, A2⟩ => ?_⟩
    have pd := Rep.ext (Rep.ext p E1) E2
    have L2 := (L.ext E1).ext E2
    have q1 := Rep.ext p1 E2
    cases q1 with
    | @ref k a hk =>
      have A3 : After (rL X.K) X.K I2 m2 H2 (fun cls dd H' => W cls dd σ H') Q ((match keyT d2 with
        | some kk => match c2[k]? with
          | some (.dT kvs) => if kvs.length < 10000 then .ok () (c2.set k (.dT (putKT kvs kk d))) else .stuck
          | _ => .stuck
        | none => .stuck : Mi.R Unit).bind fun _ c3 => .ok l c3) := by
        have A2 : After (rL X.K) X.K I2 m2 H2 (fun cls dd H' => W cls dd σ H') Q ((putTR (.ref k) d2 d c2).bind fun _ c3 => .ok l c3) := A2
        unfold putTR at A2
        cases qk : keyT d2 with
        | none => rw [qk] at A2; exact A2
        | some kk => rw [qk] at A2; exact A2
      cases qk : keyT d2 with
      | none => rw [qk] at A3; exact A3.elim
      | some kk =>
        rw [qk] at A3
        obtain ⟨b, rfl, hb⟩ := rep_keyT p2 qk
        have A3 : After (rL X.K) X.K I2 m2 H2 (fun cls dd H' => W cls dd σ H') Q ((match c2[k]? with
          | some (.dT kvs) => if kvs.length < 10000 then .ok () (c2.set k (.dT (putKT kvs kk d))) else .stuck
          | _ => .stuck : Mi.R Unit).bind fun _ c3 => .ok l c3) := A3
        cases q : c2[k]? with
        | none => rw [q] at A3; exact A3.elim
        | some x =>
          rw [q] at A3
          cases x with
          | dT ds =>
            obtain ⟨n1, vs, h1, h2⟩ := R2.cell k a _ hk q
            have A4 : After (rL X.K) X.K I2 m2 H2 (fun cls dd H' => W cls dd σ H') Q ((if ds.length < 10000 then .ok () (c2.set k (.dT (putKT ds kk d))) else .stuck : Mi.R Unit).bind fun _ c3 => .ok l c3) := A3
            by_cases hz : ds.length < 10000
            · rw [if_pos hz] at A4
              refine ⟨a, _, rfl, DPut.t h1 (R2.same _ _ hb) (by rw [h2.length, sizeLine_eq]; omega), ?_⟩
              obtain ⟨R3, E3⟩ := R2.putT hk q (h2.put pd)
              exact A4 I2 m2 _ σ E3 R3 (L2.ext E3)
            · rw [if_neg hz] at A4; exact A4.elim
          | _ => exact A3.elim
    | _ => exact A2.elim
theorem ok_gST {o i : ME} {d : D} {l : Ls} {c : Cs} {Q : Ls → Cs → Prop} (h : Ok (o l c) fun x c1 => Ok (i l c1) fun y c2 => Ok (putTR x y d c2) fun _ c3 => Q l c3) : Ok (gST o i d l c) Q :=
  Ok.bind (h.mono fun _ _ h => Ok.bind (h.mono fun _ _ h => Ok.bind (h.mono fun _ _ h => ⟨_, _, rfl, h⟩)))
end
end L2.Mi

/-! items() of a dict whose keys are tuples: the dict is locked for good -/
namespace L2.Mi
open PySem PySem.Spec PyProof.Rows L2
theorem frzT2 {X : Cx} {pins : List (Addr × Obj)} {σ : St} {H : Hp} {s : Shared} {d : Addr} {o : Obj} {kvs : List (List Key × V)} (I : Inv X pins σ H s) (h : H d = some (.frz o (.dT kvs))) :
    (d == sysModules) = false ∧ s.heap.get? d = some o ∧ o.ExactDict ∧ ∃ (es : Array DictEntry) (ep : Nat), o.data = .dict es ep ∧ es.size = kvs.length ∧
      ∀ (i : Nat) (k : List Key) (v : V), kvs[i]? = some (k, v) → ∃ (en : DictEntry) (q : Addr), es[i]? = some en ∧ en.key = .ref q ∧ H q = some (.tup (k.map kV)) ∧ RelV v en.val := by
  obtain ⟨hd, z, hs, xs, pr, o', es, ep, ho, hx, hdt, he, _⟩ := I.hok d _ h
  rw [hd] at ho
  cases ho
  refine ⟨hs, hd, hx, es, ep, hdt, ?_, fun i k v e => ?_⟩
  · have l1 : es.size = xs.length := size_of_entries he
    have l2 : kvs.length = xs.length := Paired.length pr
    omega
  · obtain ⟨b, hb, e1, e2, e3⟩ := paired_get pr e
    have q := entry_at he i
    rw [hb] at q
    exact ⟨_, b.2.1, q, rfl, e2, e3⟩
/-- the pairs, each a new tuple -/
def Itit (d : Addr) (o : Obj) (kvs : List (List Key × V)) : It :=
  ⟨fun i H => H d = some (.frz o (.dT kvs)) ∧ i < kvs.length, fun i H x H' => ∃ T q k v, kvs[i]? = some (k, v) ∧ H q = some (.tup (k.map kV)) ∧ x = .ref T ∧ H T = none ∧ H' = upd H T (.tup [.ref q, v]), fun i H => H d = some (.frz o (.dT kvs)) ∧ kvs.length ≤ i⟩
section
variable {P : Program} {w : World} {K : PySem.W.Frag} {d : Addr} {o : Obj} {es : Array DictEntry} {ep : Nat}
theorem turn_itemsT {kvs : List (List Key × V)} {elts : List Expr} {kk : Nat} {tpos : Pos} (it : Addr) (hod : o.data = .dict es ep) :
    Turn P w K (.Tuple elts kk tpos) (Itit d o kvs) [it] it (fun i h => ∃ ok ov, IsItemIter h it d i kvs.length ep ok ov) where
  mem := by simp
  obj := fun i h st b hb => by
    have e : b = it := by simpa using hb
    subst e
    obtain ⟨ok, ov, e⟩ := st
    exact ⟨_, e, fun v z => nomatch z⟩
  keep := fun i h h' st k => let ⟨ok, ov, e⟩ := st; ⟨ok, ov, k it (by simp) _ e⟩
  item := by
    intro X hP hw hK hc i pins s σ H E I hf st hg
    subst hP hw hK
    obtain ⟨hd, hi⟩ := hg
    obtain ⟨hs, hgd, hx, es', ep', hdt, hsz, ent⟩ := frzT2 I hd
    obtain ⟨rfl, rfl⟩ := dict_ep hod hdt
    obtain ⟨⟨k, v⟩, hkv⟩ : ∃ p, kvs[i]? = some p := ⟨kvs[i], List.getElem?_eq_getElem hi⟩
    obtain ⟨en, q, hen, hkey, hq, rv⟩ := ent i k v hkv
    obtain ⟨ok, ov, he⟩ := st
    rw [← hsz] at he
    have hlt : it < s.heap.objs.size := Heap.lt_size he
    have hi2 : i < es'.size := by omega
    have een : es'[i] = en := by
      have := Array.getElem?_eq_getElem hi2
      rw [hen] at this
      exact (Option.some.inj this).symm
    refine DT.nextI he ⟨o, hgd, hx, hdt⟩ hi2 fun h' ho hT hz hk => ?_
    rw [een, hkey] at ho hT
    refine ⟨_, rfl, wpAny_letOwnedTupleGo_items (s := { s with heap := h' }) ho fun h'' he' sb => ?_⟩
    have hT2 : h''.get? s.heap.objs.size = some { cls := .type "tuple", data := .seq #[Value.ref q, en.val] } := (sb.2 _ (Nat.ne_of_gt hlt)).trans hT
    have new : ObjOk X.prog X.w (upd H s.heap.objs.size (.tup [.ref q, v])) h'' s.heap.objs.size (.tup [.ref q, v]) :=
      ⟨by show 2 ≤ sizeLine; decide, [Value.ref q, en.val], .cons rfl (.cons rv .nil), ⟨_, hT2, rfl, _, rfl⟩⟩
    have I1 : Inv X pins σ (upd H s.heap.objs.size (.tup [.ref q, v])) { s with heap := h'' } :=
      I.turnedNew (t' := s.toks) (ch := [it]) (fun b ob hb e => (sb.2 b (by simpa using hb)).trans (hk b ob (by simpa using hb) e)) hf (Nat.le_refl _) new
    refine ⟨.ref s.heap.objs.size, _, I1, rfl, ⟨_, q, k, v, hkv, hq, rfl, I.hok.fresh (Nat.le_refl _), rfl⟩, ⟨Value.ref q, en.val, ?_⟩, fun b hb => ?_⟩
    · rw [← hsz]; exact he'
    · have e : b = it := by simpa using hb
      rw [e, upd_ne (Nat.ne_of_lt hlt)]
      exact (hf it (by simp)).1
  done := by
    intro X hP hw hK hc i pins s σ H E I hf st hg
    subst hP hw hK
    obtain ⟨hd, hi⟩ := hg
    obtain ⟨f0, f1, f2, f3, f4, f5⟩ := hf it (by simp)
    obtain ⟨hs, hgd, hx, es', ep', hdt, hsz, ent⟩ := frzT2 I hd
    obtain ⟨rfl, rfl⟩ := dict_ep hod hdt
    obtain ⟨ok, ov, he⟩ := st
    rw [← hsz] at he
    exact DT.endI (I.ok.hd hc) he ⟨o, hgd, hx, hdt⟩ (by omega) fun h' eb => ⟨rfl, I.turned (t' := s.toks) (fun b ob hb e => eb b ob hb e) f0 f1 f3 f4 f5⟩
  self := fun A i s Q E st h => let ⟨_, _, e⟩ := st; PySem.W.kcp_self e h
end
/-- the dict is locked here, or was before -/
def iItemsT (td : TE) : TI := fun σ H R => td σ H fun x H1 => ∃ d kvs, x = .ref d ∧ ((H1 d = some (.dT kvs) ∧ ∀ o, R (Itit d o kvs) (upd H1 d (.frz o (.dT kvs)))) ∨ ∃ o, H1 d = some (.frz o (.dT kvs)) ∧ R (Itit d o kvs) H1)
theorem pi_itemsT {X : Cx} {e : Expr} {td : TE} {apos cpos : Pos} {elts : List Expr} {kk : Nat} {tpos : Pos} (he : PE X e td) (hbase : attributeBase e "items" X.env (eval e X.env) = eval e X.env := by rfl) (hline : (apos.endLine == cpos.line) = true := by rfl) :
    PI X (.Tuple elts kk tpos) (.Call (.Attribute e "items" apos) [] [] cpos) (iItemsT td) := by
  refine ⟨fun pins s σ H R I h => ?_⟩
  refine wpAny_Call_method (T := "dict") (id := "dict.items") hbase rfl hline F.plainAttrs_dict F.slot_dict_items F.type_dict_items (thn (he.run pins s σ H _ I h) fun u s1 ⟨x, H0, I0, rx, d, kvs, ex, q0⟩ => ?_)
  subst ex
  obtain rfl : u = Value.ref d := rx
  obtain ⟨o, H1, I1, hd, q⟩ : ∃ o H1, Inv X pins σ H1 s1 ∧ H1 d = some (.frz o (.dT kvs)) ∧ R (Itit d o kvs) H1 := by
    rcases q0 with ⟨hd, q⟩ | ⟨o, hd, q⟩
    · obtain ⟨o, I1⟩ := I0.lock hd trivial
      exact ⟨o, _, I1, upd_same, q o⟩
    · exact ⟨o, _, I0, hd, q⟩
  obtain ⟨hs, hgd, hx, es, ep, hdt, hsz, ent⟩ := frzT2 I1 hd
  have raw : DT.Raw s1.heap d es ep := ⟨o, hgd, hx, hdt⟩
  refine ⟨raw.typeIs, fun b z => by cases z; exact ⟨o, hgd, hx.2.1⟩, ?_⟩
  have I2 : Inv X pins σ H1 { s1 with heap := s1.heap.push { cls := .type "dict_items", data := .fields #[.ref d] } } := I1.kept (t' := s1.toks) fun b ob q => Heap.get?_push_of_some _ q
  have fin : wpAny (model X.prog X.w) X.A (pyIter (.ref s1.heap.objs.size)) (PIE X pins σ (.Tuple elts kk tpos) R) X.xe { s1 with heap := s1.heap.push { cls := .type "dict_items", data := .fields #[.ref d] } } := by
    refine DT.iterI (d := d) (es := es) (ep := ep) ⟨_, Heap.get?_push_size _ rfl, rfl, rfl⟩ (raw.push _) (pi_one (tk := s1.toks) I2 _ (turn_itemsT _ hdt) ⟨.none, .none, ?_⟩ q)
    rw [← hsz]
    exact Heap.get?_push_size _ rfl
  show wpAny _ _ (callWith cpos (.builtin "dict.items") [.ref d] [] []) _ X.xe s1
  exact method_meetsIn F.slot_dict_items F.entry_dict_items rfl (PySem.evalArgs_none ⟨rfl, raw.typeIs, F.args_dict_items_1 _, _, DT.meetsItems (es := es) (ep := ep) hs, raw, fin⟩)
end L2.Mi

/-! dicts with tuple keys: d[t], t in d, len(d), {t: v}, dict(pairs) -/
namespace L2.Mi
open PySem PySem.Spec PyProof.Rows L2
def dctT (x : D) (c : Cs) : Option (List (List Key × D)) := match x with
  | .ref k => match c[k]? with
    | some (.dT ds) => some ds
    | some (.dTz ds) => some ds
    | _ => none
  | _ => none
theorem dctT_at {K : PySem.W.Frag} {I H : Hp} {m : List Addr} {c : Cs} {v : V} {x : D} {ds : List (List Key × D)} (R : Rel K I H m c) (p : Rep K I m v x) (e : dctT x c = some ds) : ∃ a vs, v = .ref a ∧ Rd H a (.dT vs) ∧ RepT K I m vs ds := by
  cases p with
  | @ref k a hk =>
    unfold dctT at e
    cases q : c[k]? with
    | none => simp only [q] at e; cases e
    | some y =>
      simp only [q] at e
      have hc := R.cell k a y hk q
      cases y with
      | dT es => cases e; obtain ⟨_, vs, h1, h2⟩ := hc; exact ⟨a, vs, rfl, .inl h1, h2⟩
      | dTz es => cases e; obtain ⟨o, vs, h1, h2⟩ := hc; exact ⟨a, vs, rfl, .inr ⟨o, R.same _ _ h1⟩, h2⟩
      | _ => cases e
  | _ => cases e
theorem RepT.val {K : PySem.W.Frag} {I : Hp} {m : List Addr} {k : List Key} {vs : List (List Key × V)} {ds : List (List Key × D)} (r : RepT K I m vs ds) : (valV vs k).isSome = (getKT ds k).isSome :=
  RepT.ind (P := fun vs ds => (valV vs k).isSome = (getKT ds k).isSome) rfl (fun k1 v d' vs ds h t ih => by
    unfold getKT valV at ih ⊢
    rw [List.find?_cons, List.find?_cons]
    by_cases hk : k1 = k
    · simp only [hk, decide_true]; rfl
    · simp only [hk, decide_false]; exact ih) r
section
variable {X : Cx} {W : WX} {o i : Expr} {fo fi : ME} {pos : Pos}
end
/-- {t: v} -/
def tDT1 (tk tv : TE) : TE := fun σ H Q => ∀ p, H p = none → tPairs [(tk, tv)] σ (upd H p (.dT [])) fun ps H2 => H2 p = some (.dT []) ∧ ∃ b k y, ps = [(V.ref b, y)] ∧ H2 b = some (.tup (k.map kV)) ∧ Q (.ref p) (upd H2 p (.dT [(k, y)]))
theorem pe_dT1 {X : Cx} {ek ev : Expr} {tk tv : TE} {pos : Pos} (hu : X.A.units + 1 < cLine) (hk : PE X ek tk) (hv : PE X ev tv) : PE X (.Dict [some ek] [ev] pos) (tDT1 tk tv) := by
  refine ⟨fun pins s σ H Q I q => ?_⟩
  have hn := I.hok.fresh (Nat.le_refl s.heap.objs.size)
  have I1 := I.laid (a := s.heap.objs.size) (o := .dT []) (h' := s.heap.push { cls := .type "dict", data := .dict #[] }) (t' := s.toks) (fun _ _ q => Heap.get?_push_of_some _ q) (Nat.le_refl _) (dt_empty s.heap I.big)
  rw [arm_eval_Dict, zip_pairTrees [some ek] [ev] X.env pos rfl rfl, dictDisplay_pairs (pairTrees [some ek] [ev] X.env pos) (by simp [pairTrees]) (by simp [pairTrees])]
  refine wpAny_bind (wpAny_standAt (wpAny_bind (wpAny_subDictH (knd := tupleKind (mixKind X.prog X.w)) (show X.A.units < cLine by omega) (by simp [pairTrees]) (thn ((pps_cons hk hv pps_nil).run pins _ σ _ _ I1 (q _ hn)) fun ws s2 ⟨ps, H2, I2, rel, e, b, k, y, ep, hb, q2⟩ => ?_))))
  subst ep
  obtain ⟨z, hd, xs0, r0, dd⟩ := dt_of I2.hok e
  cases r0
  obtain ⟨w1, rfl⟩ : ∃ w1, ws = [w1] := by
    cases rel with
    | cons h t => cases t; exact ⟨_, rfl⟩
  obtain ⟨u1, u2⟩ := w1
  obtain ⟨ru, rv⟩ : RelV (.ref b) u1 ∧ RelV y u2 := by
    cases rel with
    | cons h t => exact h
  obtain rfl : u1 = Value.ref b := ru
  refine ⟨[(k, b, u2)], ⟨rfl, rfl, key_of I2.hok hb, trivial⟩, dd, fun h' tk dd' hs => wpAny_pure ⟨.ref s.heap.objs.size, _, ?_, rfl, q2⟩⟩
  have e1 : storedAllH ([] : List (List Key × Addr × Value)) [(k, b, u2)] = [(k, b, u2)] := rfl
  rw [e1] at dd'
  obtain ⟨o, es, ep, ho, hx, hdt, he, his, hnd⟩ := dd'
  have nb : b ≠ s.heap.objs.size := ne_of hb e (by intro z; cases z)
  exact d_write (t' := tk) I2 (by rw [e]; exact True.intro) hs ⟨o, ho⟩ ⟨by show 1 ≤ sizeLine; rw [sizeLine_eq]; omega, hd, [(k, b, u2)], .cons ⟨rfl, by rw [upd_ne nb]; exact hb, rv⟩ .nil, o, es, ep, ho, hx, hdt, he, hnd⟩
def mDictT1 (a b : ME) : ME := fun l c => (a l c).bind fun x c1 => (b l c1).bind fun y c2 => match keyT x with
  | some k => .ok (.ref c2.length) (c2 ++ [.dT [(k, y)]])
  | none => .stuck
theorem me_dictT1 {X : Cx} {W : WX} {ek ev : Expr} {fa fb : ME} {pos : Pos} (hu : X.A.units + 1 < cLine) (hk : PE X ek (rdE X.K W fa)) (hv : PE X ev (rdE X.K W fb)) : PE X (.Dict [some ek] [ev] pos) (rdE X.K W (mDictT1 fa fb)) :=
  PEi (pe_dT1 hu hk hv) fun σ H Q ⟨I, m, l, c, R, L, A⟩ => by
    intro p np
    have nI := R.same.free np
    have nm := R.fresh np
    have E0 : Ext I m H I m (upd H p (.dT [])) := ⟨Same.refl I, Pre.refl m, fun b o h1 hT h2 h3 => ⟨by rw [upd_ne (ne_of_none h1 np)]; exact h1, h2, h3⟩⟩
    have R0 : Rel X.K I (upd H p (.dT [])) m c := R.sideO (fun x z => by rw [np] at z; cases z) (fun o z => by rw [np] at z; cases z) nI nm
    show (rdE X.K W fa) σ (upd H p (.dT [])) fun x H1 => (rdE X.K W fb) σ H1 fun y H2 => H2 p = some (.dT []) ∧ ∃ b k y', [(x, y)] = [(V.ref b, y')] ∧ H2 b = some (.tup (k.map kV)) ∧ Q (.ref p) (upd H2 p (.dT [(k, y')]))
    refine ⟨I, m, l, c, R0, L, After.mono (After.bindAt (rep := rD X.K) A E0) fun v1 H1 ⟨I1, m1, c1, d1, E1, R1, p1, A1⟩ => ⟨I1, m1, l, c1, R1, L.ext E1, After.mono (After.bindAt (rep := rD X.K) A1 (E0.trans E1)) fun v2 H2 ⟨I2, m2, c2, d2, E2, R2, p2, A2⟩ => ?_⟩⟩
    have F := E1.trans E2
    obtain ⟨f1, f2, f3⟩ := F.fr p _ upd_same ⟨⟨(fun _ z => nomatch z), (fun _ z => nomatch z)⟩, (fun _ z => nomatch z)⟩ nI nm
    have A2 : After (rD X.K) X.K I m H (fun cls dd H' => W cls dd σ H') Q (match keyT d1 with
      | some k => .ok (.ref c2.length) (c2 ++ [.dT [(k, d2)]])
      | none => .stuck) := A2
    cases qk : keyT d1 with
    | none => rw [qk] at A2; exact A2.elim
    | some k =>
      rw [qk] at A2
      obtain ⟨b, rfl, hb⟩ := rep_keyT (Rep.ext p1 E2) qk
      refine ⟨f1, b, k, v2, rfl, R2.same _ _ hb, ?_⟩
      have p2 : Rep X.K I2 m2 v2 d2 := p2
      have R3 : Rel X.K I2 (upd H2 p (.dT [(k, v2)])) m2 c2 := R2.sideO (fun x z => by rw [f1] at z; cases z) (fun o z => by rw [f1] at z; cases z; exact ⟨(fun _ q => nomatch q), (fun _ q => nomatch q)⟩) f2 f3
      have R4 : Rel X.K I2 (upd H2 p (.dT [(k, v2)])) (m2 ++ [p]) (c2 ++ [.dT [(k, d2)]]) := R3.adoptC f3 f2 (fun x z => by rw [upd_same] at z; cases z) (fun o z => by rw [upd_same] at z; cases z; exact ⟨(fun _ q => nomatch q), (fun _ q => nomatch q)⟩) ⟨f2, [(k, v2)], upd_same, .cons (p2.mono (Same.refl _) (pre_app _ _)) .nil⟩
      refine A2 _ _ _ _ ⟨(E0.trans F).same, (E0.trans F).pre.trans (pre_app _ _), fun b o h1 hT h2 h3 => ?_⟩ R4 (.ref ?_)
      · obtain ⟨q1, q2, q3⟩ := (E0.trans F).fr b o h1 hT h2 h3
        have nb : b ≠ p := ne_of_none h1 np
        refine ⟨by rw [upd_ne nb]; exact q1, q2, fun z => ?_⟩
        rcases List.mem_append.mp z with z | z
        · exact q3 z
        · simp only [List.mem_singleton] at z; exact nb z
      · rw [← R2.len, List.getElem?_append_right (Nat.le_refl _), Nat.sub_self]
        rfl
/-- dict(pairs) -/
def mergeT (kvs more : List (List Key × V)) : List (List Key × V) := more.foldl (fun acc kv => putK acc kv.1 kv.2) kvs
def mergeTD (kvs more : List (List Key × D)) : List (List Key × D) := more.foldl (fun acc kv => putKT acc kv.1 kv.2) kvs
theorem RepT.merge {K : PySem.W.Frag} {I : Hp} {m : List Addr} {more : List (List Key × V)} {md : List (List Key × D)} (r : RepT K I m more md) : ∀ {kvs : List (List Key × V)} {ks : List (List Key × D)}, RepT K I m kvs ks → RepT K I m (mergeT kvs more) (mergeTD ks md) :=
  RepT.ind (P := fun more md => ∀ {kvs : List (List Key × V)} {ks : List (List Key × D)}, RepT K I m kvs ks → RepT K I m (mergeT kvs more) (mergeTD ks md)) (fun q => q) (fun k v d vs ds h t ih => by
    intro kvs ks q
    exact ih (q.put h)) r
end L2.Mi

/-! for t in a dict whose keys are (text, number): the dict is locked for good, the keys are known -/
namespace L2.Mi
open PySem PySem.Spec PyProof.Rows L2
theorem Rel.knowT {K : PySem.W.Frag} {I H : Hp} {m : List Addr} {c : Cs} {q : Addr} {us : List V} (r : Rel K I H m c) (hq : H q = some (.tup us)) : ∃ I2, Rel K I2 H m c ∧ Ext I m H I2 m H ∧ I2 q = some (.tup us) := by
  cases hi : I q with
  | some o =>
    have := r.same _ _ hi
    rw [hq] at this
    cases this
    exact ⟨I, r, Ext.refl _ _ _, hi⟩
  | none =>
    have hm : q ∉ m := fun h => by
      obtain ⟨k, hk⟩ := List.mem_iff_getElem?.mp h
      have hl : k < c.length := by rw [← r.len]; exact (List.getElem?_eq_some_iff.mp hk).1
      have hc := r.cell k q c[k] hk (List.getElem?_eq_getElem hl)
      cases e : c[k] with
      | lst ds => rw [e] at hc; obtain ⟨_, vs, h1, _⟩ := hc; rw [hq] at h1; cases h1
      | dct ds => rw [e] at hc; obtain ⟨_, vs, h1, _⟩ := hc; rw [hq] at h1; cases h1
      | dT ds => rw [e] at hc; obtain ⟨_, vs, h1, _⟩ := hc; rw [hq] at h1; cases h1
      | dN P0 w0 ds => rw [e] at hc; obtain ⟨_, vs, h1, _⟩ := hc; rw [hq] at h1; cases h1
      | dTz ds => rw [e] at hc; obtain ⟨_, vs, h1, _⟩ := hc; rw [hi] at h1; cases h1
      | ins C ds => rw [e] at hc; obtain ⟨_, dx, vs, _, _, _, ⟨A, _, h1⟩, _⟩ := hc; rw [hq] at h1; cases h1
      | frz d => rw [e] at hc; exact hc.1 hi
    have sI : Same I (upd I q (.tup us)) := fun b u e => by rw [upd_ne (ne_of_none e hi)]; exact e
    refine ⟨_, r.adoptO hq (fun x z => nomatch z) ⟨(fun _ z => nomatch z), (fun _ z => nomatch z)⟩ hi hm, ⟨sI, Pre.refl m, fun b o h1 hT h2 h3 => ⟨h1, ?_, h3⟩⟩, upd_same⟩
    have nb : b ≠ q := fun e => by rw [e, hq] at h1; cases h1; exact hT.2 _ rfl
    rw [upd_ne nb]
    exact h2
theorem reps_keys {K : PySem.W.Frag} {I : Hp} {m : List Addr} : ∀ k : List Key, Reps K I m (k.map kV) (k.map kD)
  | [] => .nil
  | x :: r => by
    cases x with
    | inl i => exact .cons (.int i) (reps_keys r)
    | inr s => exact .cons (.str s) (reps_keys r)
end L2.Mi

/-! first, *others = a list -/
namespace L2.Mi
open PySem PySem.Spec PyProof.Rows L2
section
variable {prog : Program} {w : World} {A : Around} {E : Value → Shared → Prop} {s : Shared}
end
theorem u2 {A : Around} {k : Nat} (hr : Room k A) : A.units + 2 < cLine := by have := hr.un; omega
end L2.Mi

/-! xs[lo:hi:step] of a list: a new list that is changed later (a cell) -/
namespace L2.Mi
open PySem PySem.Spec PyProof.Rows L2
section
variable {X : Cx} {W : WX} {e : Expr} {lo hi st : Option Expr} {te : TE} {tl th tk : TO} {p2 pos : Pos}
end
end L2.Mi

/-! sets of tuples of whole numbers and texts: what adding does to such a set, and how many members it has -/
namespace SetM
open PySem PySem.Spec PyProof.Rows L2
section
variable {P : Program} {w : World} {A : Around} {E : Value → Shared → Prop} {s : Shared}
abbrev hsh (P : Program) (w : World) (k : List Key) : Int := tupleKeyHash (mixKind P w) k
abbrev IsM (P : Program) (w : World) (h : Heap) (k : List Key) (a : Addr) : Prop := IsTupleKey (mixKind P w) h k a
def Leaf (v : Value) : Prop := (∃ i t, v = Value.int i t) ∨ ∃ x t, v = Value.str x t
theorem leaves {k : List Key} {vs : List Value} (h : ItemsAre (mixKind P w) k vs) : ∀ v ∈ vs, Leaf v := by
  induction h with
  | nil => intro v hv; cases hv
  | cons h1 _ ih =>
    intro v hv
    rcases List.mem_cons.mp hv with rfl | hv
    · rcases keyIs_shape h1 with ⟨i, t, _, e⟩ | ⟨x, t, _, e⟩
      · exact .inl ⟨i, t, e⟩
      · exact .inr ⟨x, t, e⟩
    · exact ih v hv
/-! ### the state of such a set -/
def ents (P : Program) (w : World) (L : List (Addr × List Key)) : List (Int × Value) := L.map fun p => (hsh P w p.2, Value.ref p.1)
structure SetMR (P : Program) (w : World) (h : Heap) (a : Addr) (L : List (Addr × List Key)) (es : Array (Int × Value)) (ep : Nat) (t : SetTable) : Prop where
  ob : ∃ o, h.get? a = some o ∧ o.ExactSet ∧ o.data = .set es ep t
  rows : es.toList = ents P w L
  tab : TabOk t (L.map fun p => hsh P w p.2)
  nd : (L.map (·.2)).Nodup
  tup : ∀ p ∈ L, IsM P w h p.2 p.1
  room : L.length * 5 < t.mask * 3
  few : L.length < 64
variable {a : Addr} {L : List (Addr × List Key)} {es : Array (Int × Value)} {ep : Nat} {t : SetTable}
theorem ents_size (h : es.toList = ents P w L) : es.size = L.length := by
  have e := congrArg List.length h
  unfold ents at e
  rwa [Array.length_toList, List.length_map] at e
theorem fits_of {n : Nat} (hn : t.place.size = n) (hd : t.dummies = #[]) (hm : n ≤ t.mask) : t.fits n = true := by
  unfold SetTable.fits SetTable.fill
  rw [hd, hn, Bool.and_eq_true, beq_iff_eq, decide_eq_true_eq]
  exact ⟨rfl, by simpa using hm⟩
theorem SetMR.plc (R : SetMR P w s.heap a L es ep t) : t.place.size = L.length := by
  have := R.tab.sz
  rwa [List.length_map] at this
theorem SetMR.fits (R : SetMR P w s.heap a L es ep t) : t.fits es.size = true := by
  have h1 := R.plc
  have h2 := ents_size R.rows
  have h3 := R.room
  exact fits_of (by omega) R.tab.dm (by omega)
/-! ### adding -/
end
end SetM

namespace SetM
open PySem PySem.Spec PyProof.Rows L2 PpSet
section
structure Set0 (P : Program) (w : World) (h : Heap) (a : Addr) (L : List (Addr × List Key)) : Prop where
  ex : ∃ (es : Array (Int × Value)) (ep : Nat) (t : SetTable), (∃ o, h.get? a = some o ∧ o.ExactSet ∧ o.data = .set es ep t) ∧ es.toList = ents P w L ∧ TabOk t (L.map fun p => hsh P w p.2) ∧ (L.map (·.2)).Nodup ∧ L.length * 5 < t.mask * 3 ∧ L.length < 64
theorem SetMR.zero {P : Program} {w : World} {h : Heap} {a : Addr} {L : List (Addr × List Key)} {es : Array (Int × Value)} {ep : Nat} {t : SetTable} (R : SetMR P w h a L es ep t) : Set0 P w h a L := ⟨es, ep, t, R.ob, R.rows, R.tab, R.nd, R.room, R.few⟩
variable {X : Cx}
end
end SetM
namespace L2.Mi
open PySem PySem.Spec PyProof.Rows L2 PpSet ScI SetM
/-! ### the keys met, each once -/
def hasK (acc : List (List Key)) (k : List Key) : Bool := acc.any fun x => decide (x = k)
theorem hasK_iff {acc : List (List Key)} {k : List Key} : hasK acc k = true ↔ k ∈ acc := by
  unfold hasK
  rw [List.any_eq_true]
  exact ⟨fun ⟨x, hx, e⟩ => of_decide_eq_true e ▸ hx, fun h => ⟨k, h, decide_eq_true rfl⟩⟩
def addK (acc : List (List Key)) (k : List Key) : List (List Key) := if hasK acc k = true then acc else acc ++ [k]
def setK (ks : List (List Key)) : List (List Key) := ks.foldl addK []
theorem addK_le (acc : List (List Key)) (k : List Key) : acc.length ≤ (addK acc k).length := by
  unfold addK
  split
  · exact Nat.le_refl _
  · simp
theorem foldK_le : ∀ (ks acc : List (List Key)), acc.length ≤ (ks.foldl addK acc).length
  | [], _ => Nat.le_refl _
  | k :: ks, acc => Nat.le_trans (addK_le acc k) (foldK_le ks _)
theorem setK_take (ks : List (List Key)) (n : Nat) : (setK (ks.take n)).length ≤ (setK ks).length := by
  have e : setK ks = (ks.drop n).foldl addK (setK (ks.take n)) := by
    unfold setK
    rw [← List.foldl_append, List.take_append_drop]
  rw [e]
  exact foldK_le _ _
theorem setK_succ {ks : List (List Key)} {n : Nat} {k : List Key} (h : ks[n]? = some k) : setK (ks.take (n + 1)) = addK (setK (ks.take n)) k := by
  unfold setK
  rw [List.take_add_one, h, List.foldl_append]
  rfl
section
variable {X : Cx} {W : WX}
end
end L2.Mi

/-! xs.index(y) of a list of data, found -/
namespace L2.Mi
open PySem PySem.Spec PyProof.Rows L2
section
variable {K : PySem.W.Frag}
end
end L2.Mi

/-! isinstance(x, (list, tuple)) where x may be an own instance -/
namespace L2.Mi
open PySem PySem.Spec PyProof.Rows L2
end L2.Mi

/-! x is not True, x is not False, of truth values -/
namespace L2.Mi
open PySem PySem.Spec PyProof.Rows L2
end L2.Mi

/-! while (x := a) op b: .. -/
namespace L2.Mi
open PySem PySem.Spec PyProof.Rows L2
section
variable {X : Cx} {W : WX}
end
end L2.Mi

/-! {t: v for x in xs if ..} with tuple keys: a new cell -/
namespace DcT
open PySem PySem.Spec PyProof.Rows L2
section
variable {X : Cx} {pins : List (Addr × Obj)} {σ : L2.St} {kx vx tg iter : Expr} {ifs : List Expr} {scope : Scope} {own : List (Str × Nat)} {pos : Pos} {g : TG} {tt : TT} {tk tv : TE} {Q : VK}
end
end DcT

/-! dict comprehensions with tuple keys: the reading, and plain reasoning -/
namespace L2.Mi
open PySem PySem.Spec PyProof.Rows L2
section
variable {α : Type} {it : MK} {js : List Nat} {g : MG} {t : MT} {kx vx : ME} {l : Ls} {c : Cs} {Q : D → Cs → Prop}
end
end L2.Mi

/-! xs.remove(y) of a cell of data, found; min of a list of (text, number) -/
namespace L2.Mi
open PySem PySem.Spec PyProof.Rows L2
section
variable {K : PySem.W.Frag} {X : Cx}
/-! ### min of a list of (text, number) -/
end
end L2.Mi

/-! xs.index(y), xs.count(n) of a list or a cell -/
namespace L2.Mi
open PySem PySem.Spec PyProof.Rows L2
section
variable {K : PySem.W.Frag}
end
end L2.Mi

/-! a op1 b op2 c op3 d, as a value -/
namespace L2.Mi
open PySem PySem.Spec PyProof.Rows L2
section
variable {X : Cx} {a b c d : Expr} {ta tb tc td : TE} {pos : Pos} {o1 o2 o3 : CmpOp} {r1 r2 r3 : R2}
end
section
variable {X : Cx} {W : WX} {a b c d : Expr} {fa fb fc fd : ME} {pos : Pos} {o1 o2 o3 : CmpOp} {r1 r2 r3 : R2} {g1 g2 g3 : D → D → Cs → R D}
end
/-! ### a def that calls itself -/
theorem gfn_none {P : Program} {w : World} {K : PySem.W.Frag} {mg : Str → Option Value} {base : Heap} {k : Nat} {f : Addr} {fd : FuncData} {ps : List Str} : GFn P w K mg base k f fd ps (fun _ _ => .stuck) :=
  ⟨fun _ _ h => absurd rfl h, fun _ _ _ _ _ _ _ _ _ _ _ _ _ _ _ _ _ _ _ _ A => A.elim⟩
end L2.Mi

/-! sorted(xs, key=f), f a call of one's own: what holds between the calls is told by J -/
namespace L2.Mi.Sk
open PySem PySem.W PySem.Calls PyProof.Rows
section
variable {prog : Program} {w : World} {A : Around} {E : Value → Shared → Prop} {s : Shared} {a kS : Addr} {b : Bool} {vs : List Value} {keys : Array Value} {e e1 : Nat} {P : PySem.Fin → Shared → Prop} {kz : List Int}
end
end L2.Mi.Sk

/-! sorted(xs, key=o.m), m a method of an own class that answers with ints -/
namespace L2.Mi
open PySem PySem.Spec PyProof.Rows L2
section
variable {X : Cx} {W : WX} {k : Nat}
end
section
variable {X : Cx} {W : WX} {k : Nat} {e o : Expr} {ga : MA} {fo : ME} {mm x : Str} {p apos kpos pos : Pos} {tbl : Tbl}
end
end L2.Mi

/-! sorted of tuples of data; sorted(ints, reverse=True) -/
namespace L2.Mi
open PySem PySem.Spec PyProof.Rows L2
section
variable {X : Cx}
end
/-! ### sorted(ints, reverse=True) -/
end L2.Mi

/-! <<, >>, & of ints -/
namespace L2.Mi
open PySem PySem.Spec PyProof.Rows L2
section
variable {K : PySem.W.Frag}
def shlI : D → D → Cs → R D := intC CPow fun i j => i * 2 ^ j.toNat
theorem os_shlI : OpS K (rI CPow fun i j => .int (i * 2 ^ j.toNat)) shlI := os_intC
end
end L2.Mi

/-! d.get(k, x), d a dict whose keys are tuples -/
namespace L2.Mi
open PySem PySem.Spec PyProof.Rows L2
def getDT (x y z : D) (c : Cs) : R D := match keyT y, dctT x c with
  | some k, some ds => .ok ((getKT ds k).getD z) c
  | _, _ => .stuck
def onDct {α : Type} (x : D) (c : Cs) (r : R α) : R α := match dctT x c with
  | some _ => r
  | none => .stuck
def mDGet2 (fo fi fx : ME) : ME := fun l c => (fo l c).bind fun x c1 => onDct x c1 ((fi l c1).bind fun y c2 => (fx l c2).bind fun z c3 => getDT x y z c3)
section
variable {X : Cx} {W : WX} {o i e : Expr} {fo fi fx : ME} {apos cpos : Pos}
theorem me_dget2T (hu : X.A.units + 1 < cLine) (ho : PE X o (rdE X.K W fo)) (hi : PE X i (rdE X.K W fi)) (he : PE X e (rdE X.K W fx)) (m : M2 X o "get" apos i e cpos) : PE X (.Call (.Attribute o "get" apos) [i, e] [] cpos) (rdE X.K W (mDGet2 fo fi fx)) :=
  PEi (pe_dget2 hu ho hi he m) fun σ H Q ⟨I, m, l, c, R, L, A⟩ => by
    refine ⟨I, m, l, c, R, L, After.mono (After.bind (rep := rD X.K) A) fun v1 H1 ⟨I1, m1, c1, d1, E1, R1, p1, A1⟩ => ?_⟩
    have A1 : After (rD X.K) X.K I1 m1 H1 (fun cls dd H' => W cls dd σ H') Q (match dctT d1 c1 with
      | some _ => (fi l c1).bind fun y c2 => (fx l c2).bind fun z c3 => getDT d1 y z c3
      | none => .stuck) := A1
    cases qd : dctT d1 c1 with
    | none => rw [qd] at A1; exact A1.elim
    | some ds1 =>
      rw [qd] at A1
      obtain ⟨a, vs1, rfl, h1, _⟩ := dctT_at R1 p1 qd
      refine ⟨a, rfl, .inr ⟨vs1, h1⟩, I1, m1, l, c1, R1, L.ext E1, After.mono (After.bind (rep := rD X.K) A1) fun v2 H2 ⟨I2, m2, c2, d2, E2, R2, p2, A2⟩ => ?_⟩
      refine ⟨I2, m2, l, c2, R2, (L.ext E1).ext E2, After.mono (After.bind (rep := rD X.K) A2) fun v3 H3 ⟨I3, m3, c3, d3, E3, R3, p3, A3⟩ => ?_⟩
      have A3 : After (rD X.K) X.K I3 m3 H3 (fun cls dd H' => W cls dd σ H') Q (match keyT d2, dctT d1 c3 with
        | some k, some ds => .ok ((getKT ds k).getD d3) c3
        | _, _ => .stuck) := A3
      cases qk : keyT d2 with
      | none => rw [qk] at A3; exact A3.elim
      | some k =>
        rw [qk] at A3
        cases qe : dctT d1 c3 with
        | none => rw [qe] at A3; exact A3.elim
        | some ds =>
          rw [qe] at A3
          have A3 : After (rD X.K) X.K I3 m3 H3 (fun cls dd H' => W cls dd σ H') Q (.ok ((getKT ds k).getD d3) c3) := A3
          obtain ⟨b, rfl, hb⟩ := rep_keyT (Rep.ext p2 E3) qk
          obtain ⟨a2, vs, ea, h2, h3⟩ := dctT_at R3 (Rep.ext (Rep.ext p1 E2) E3) qe
          cases ea
          refine ⟨valV vs k, .inr ⟨vs, k, b, h2, rfl, R3.same _ _ hb, rfl⟩, A3.here R3 ?_⟩
          cases qg : getKT ds k with
          | none =>
            have hv := h3.val (k := k)
            rw [qg] at hv
            have : valV vs k = none := by
              cases z : valV vs k with
              | none => rfl
              | some _ => rw [z] at hv; cases hv
            rw [this]
            exact p3
          | some d =>
            obtain ⟨v, g1, g2⟩ := h3.get qg
            rw [g1]
            exact g2
end
end L2.Mi

/-! x in xs, where one of x and an item may be a dict, or a tuple that holds one, and the other is layable -/
namespace L2.Mi
open PySem PySem.Spec PyProof.Rows L2 PySem.SeqAt PySem.AutoSeq1
section
variable {prog : Program} {w : World} {A : Around} {E : Value → Shared → Prop} {s : Shared}
theorem tup_eq_no_dict (l b : Addr) (its : Array Value) (es : Array DictEntry) (n m : Nat) (dd de : Option Addr) (sl sm : Array (Option Value)) :
    Meets (Builtin.«tuple.__eq__» ⟨[.ref l, .ref b], []⟩) (fun _ R s => s.heap.get? l = some { cls := .type "tuple", dict := dd, data := .seq its n, slots := sl } ∧ s.heap.get? b = some { cls := .type "dict", dict := de, data := .dict es m, slots := sm } ∧ R (.ok (.ret .notImplemented)) s) :=
  .of_wp fun prog w A R s h => by
    obtain ⟨hp, g, d, tk, os⟩ := s
    obtain ⟨h1, h2, h⟩ := h
    have f1 := F.sub_dict_tuple
    wp_walk using wpAny_loadPart' h1, wpAny_loadPart' h2
    exact ⟨_, rfl, h⟩
theorem int_eq_no_dict (b : Int) (u : Tok) (l : Addr) (es : Array DictEntry) (n : Nat) (dd : Option Addr) (sl : Array (Option Value)) :
    Meets (Builtin.«int.__eq__» ⟨[.int b u, .ref l], []⟩) (fun _ R s => s.heap.get? l = some { cls := .type "dict", dict := dd, data := .dict es n, slots := sl } ∧ R (.ok (.ret .notImplemented)) s) :=
  .of_wp fun prog w A R s h => by
    obtain ⟨hp, g, d, tk, os⟩ := s
    obtain ⟨h1, h⟩ := h
    have f1 := F.sub_dict_int
    wp_walk using wpAny_loadPart' h1, wpAny_load h1
    exact ⟨_, rfl, h⟩
/-- dict.__eq__ of what is no dict -/
theorem dict_eq_no {l : Addr} {v : Value} {T : String} {Q : Value → Shared → Prop} (tl : s.TypeIs (.ref l) "dict") (tv : s.TypeIs v T) (hs : isSubtype (.type T) (.type "dict") = pure false) (hq : Q .notImplemented s) :
    wpAny (model prog w) A (call (.builtin "dict.__eq__") [.ref l, v]) Q E s := by
  refine wpAny_call_entry F.slot_dict_eq tl F.entry_dict_eq ?_ (F.args_dict_eq_2 _ _)
  show wpAny _ _ (Builtin.Dict.dictSlotArgs "__eq__" ⟨[.ref l, v], []⟩ >>= _) _ _ s
  refine wpAny_bind ?_
  unfold Builtin.Dict.dictSlotArgs
  refine wpAny_bind (wpAny_notOrdered_dict tl ?_)
  show wpAny _ _ (pure (Value.ref l, v)) _ _ s
  refine wpAny_pure ?_
  refine wpAny_bind (wpAny_isInstance (T := T) tv hs ?_)
  simp only [Bool.not_false, if_true]
  exact wpAny_bind (wpAny_rule (wpAny_pure ⟨_, rfl, hq⟩))
theorem eqAt_str_ref {b : Str} {u : Tok} {l : Addr} {k : Bool} (h : RcAt A s (.str b u) (.ref l) k) : EqAt A s (.str b u) (.ref l) k := fun prog w E Q hq => by
  unfold eqBool
  refine wpAny_holding ?_
  refine wpAny_ite_split (fun hab => absurd (eq_of_beq hab) (fun e => nomatch e)) (fun _ => ?_)
  exact wpAny_bind (h prog w E _ (wpAny_truthy_bool hq))
theorem eqAt_ref_int {b : Int} {u : Tok} {l : Addr} {k : Bool} (h : RcAt A s (.ref l) (.int b u) k) : EqAt A s (.ref l) (.int b u) k := fun prog w E Q hq => by
  unfold eqBool
  refine wpAny_holding ?_
  refine wpAny_ite_split (fun hab => absurd (eq_of_beq hab) (fun e => nomatch e)) (fun _ => ?_)
  exact wpAny_bind (h prog w E _ (wpAny_truthy_bool hq))
def DictAt (s : Shared) (l : Addr) : Prop := ∃ es n dd sl, s.heap.get? l = some { cls := .type "dict", dict := dd, data := .dict es n, slots := sl }
theorem DictAt.ty {l : Addr} (h : DictAt s l) : s.TypeIs (.ref l) "dict" := by
  obtain ⟨es, n, dd, sl, h⟩ := h
  exact ⟨_, h, rfl⟩
theorem eqAt_ds {l : Addr} (b : Str) (u : Tok) (h : DictAt s l) (hu : A.units < cLine) : EqAt A s (.ref l) (.str b u) false := by
  obtain ⟨es, n, dd, sl, h⟩ := h
  exact eqAt_dict_str b u h hu
theorem eqAt_sd {l : Addr} (b : Str) (u : Tok) (h : DictAt s l) (hu : A.units < cLine) : EqAt A s (.str b u) (.ref l) false := by
  obtain ⟨es, n, dd, sl, ho⟩ := id h
  refine eqAt_str_ref fun prog w E Q hq => ?_
  exact rc_eq_decline_or (k := false) (typeIs_str s b u) h.ty (by decide) F.sub_dict_str F.slot_str_eq F.slot_dict_eq_refl
    (fun _ hq => call_meets F.slot_str_eq (typeIs_str s b u) F.entry_str_eq (F.args_str_eq_2 _ _) (str_eq_declines_dict b u l (.type "dict") es n dd sl) ⟨ho, hq⟩)
    (fun _ hq => dict_eq_no h.ty (typeIs_str s b u) F.sub_str_dict hq)
    (fun _ hq => wpAny_of_eq (rfl : isSame (.str b u) (.ref l) = pure false) hq) (.inr hu) hq
theorem eqAt_di {l : Addr} (b : Int) (u : Tok) (h : DictAt s l) (hu : A.units < cLine) : EqAt A s (.ref l) (.int b u) false := by
  obtain ⟨es, n, dd, sl, ho⟩ := id h
  refine eqAt_ref_int fun prog w E Q hq => ?_
  exact rc_eq_decline_or (k := false) h.ty (typeIs_int s b u) (by decide) F.sub_int_dict F.slot_dict_eq F.slot_int_eq_refl
    (fun _ hq => dict_eq_no h.ty (typeIs_int s b u) F.sub_int_dict hq)
    (fun _ hq => call_meets F.slot_int_eq_refl (typeIs_int s b u) F.entry_int_eq (F.args_int_eq_2 _ _) (int_eq_no_dict b u l es n dd sl) ⟨ho, hq⟩)
    (fun _ hq => wpAny_of_eq (rfl : isSame (.ref l) (.int b u) = pure false) hq) (.inr hu) hq
theorem dict_not_tup {l b : Addr} {its : Array Value} (h : DictAt s l) (ht : s.heap.IsTuple b its) : l ≠ b := fun e => by
  obtain ⟨es, n, dd, sl, ho⟩ := h
  obtain ⟨o, h1, h2, _⟩ := ht
  rw [← e, ho] at h1
  cases h1
  exact absurd h2 (by simp)
theorem eqAt_dt {l b : Addr} {its : Array Value} (h : DictAt s l) (ht : s.heap.IsTuple b its) (hu : A.units < cLine) : EqAt A s (.ref l) (.ref b) false := by
  have hne := dict_not_tup h ht
  obtain ⟨es, n, dd, sl, ho⟩ := id h
  obtain ⟨⟨cl2, d2, da2, sl2⟩, ho2, hc2, n2, hd2⟩ := id ht
  simp only at hc2 hd2
  subst hc2 hd2
  refine EqAt.of_refs hne fun prog w E Q hq => ?_
  exact rc_eq_decline_or (k := false) h.ty ⟨_, ho2, rfl⟩ (by decide) F.sub_tuple_dict F.slot_dict_eq F.slot_tuple_eq_refl
    (fun _ hq => dict_eq_no (T := "tuple") h.ty ⟨_, ho2, rfl⟩ F.sub_tuple_dict hq)
    (fun _ hq => call_meets F.slot_tuple_eq_refl ⟨_, ho2, rfl⟩ F.entry_tuple_eq (F.args_tuple_eq_2 _ _) (tup_eq_no_dict b l its es n2 n d2 dd sl2 sl) ⟨ho2, ho, hq⟩)
    (fun _ hq => wpAny_isSame_ref_other hne ho ho2 (by simp) hq) (.inr hu) hq
theorem eqAt_td {l b : Addr} {its : Array Value} (h : DictAt s l) (ht : s.heap.IsTuple b its) (hu : A.units < cLine) : EqAt A s (.ref b) (.ref l) false := by
  have hne := dict_not_tup h ht
  obtain ⟨es, n, dd, sl, ho⟩ := id h
  obtain ⟨⟨cl2, d2, da2, sl2⟩, ho2, hc2, n2, hd2⟩ := id ht
  simp only at hc2 hd2
  subst hc2 hd2
  refine EqAt.of_refs hne.symm fun prog w E Q hq => ?_
  exact rc_eq_decline_or (k := false) ⟨_, ho2, rfl⟩ h.ty (by decide) F.sub_dict_tuple F.slot_tuple_eq F.slot_dict_eq_refl
    (fun _ hq => call_meets F.slot_tuple_eq ⟨_, ho2, rfl⟩ F.entry_tuple_eq (F.args_tuple_eq_2 _ _) (tup_eq_no_dict b l its es n2 n d2 dd sl2 sl) ⟨ho2, ho, hq⟩)
    (fun _ hq => dict_eq_no (T := "tuple") h.ty ⟨_, ho2, rfl⟩ F.sub_tuple_dict hq)
    (fun _ hq => wpAny_isSame_ref_other' hne.symm ho2 ho (by simp) hq) (.inr hu) hq
end
mutual
/-- what can be compared here: one of the two is layable -/
def okD : PyData → PyData → Bool
  | .dict _, .str _ => true
  | .dict _, .int _ => true
  | .dict _, .tuple _ => true
  | .str _, .dict _ => true
  | .tuple _, .dict _ => true
  | .tuple xs, .tuple ys => okDs xs ys
  | x, y => x.canLay0 && y.canLay0
def okDs : List PyData → List PyData → Bool
  | x :: xs, y :: ys => (x.canLay0 || y.canLay0) && okD x y && okDs xs ys
  | _, _ => true
end
theorem reads_dict {s : Shared} {v : Value} {kvs : List (PyData × PyData)} {as : List Addr} (r : Reads s.heap v (.dict kvs) as) : ∃ l, v = .ref l ∧ DictAt s l := by
  cases r with
  | @dict l o es n _ _ _ h1 h2 h3 h4 h5 =>
    obtain ⟨cls, dd, data, sl⟩ := o
    simp only at h2 h3
    subst h2 h3
    exact ⟨l, rfl, es, n, dd, sl, h1⟩
theorem lay2 {x y : PyData} (h : (x.canLay0 && y.canLay0) = true) : x.canLay0 = true ∧ y.canLay0 = true := Bool.and_eq_true_iff.mp h
mutual
theorem eqAt_d : ∀ (da db : PyData) (A : Around) (s : Shared) (a b : Value) (as bs : List Addr), Reads s.heap a da as → Reads s.heap b db bs → (da.canLay0 || db.canLay0) = true → okD da db = true →
    A.units + min da.depth db.depth < cLine → EqAt A s a b (PyData.eqv da db)
  | .none, db, A, s, a, b, as, bs, ra, rb, _, ho, hu => by
    have h := lay2 (x := .none) (y := db) (by cases db <;> exact ho)
    exact eqAt_reads _ _ A s a b as bs ra rb h.1 h.2 hu
  | .bool x, db, A, s, a, b, as, bs, ra, rb, _, ho, hu => by
    have h := lay2 (x := .bool x) (y := db) (by cases db <;> exact ho)
    exact eqAt_reads _ _ A s a b as bs ra rb h.1 h.2 hu
  | .int x, db, A, s, a, b, as, bs, ra, rb, _, ho, hu => by
    have h := lay2 (x := .int x) (y := db) (by cases db <;> exact ho)
    exact eqAt_reads _ _ A s a b as bs ra rb h.1 h.2 hu
  | .list xs, db, A, s, a, b, as, bs, ra, rb, _, ho, hu => by
    have h := lay2 (x := .list xs) (y := db) (by cases db <;> exact ho)
    exact eqAt_reads _ _ A s a b as bs ra rb h.1 h.2 hu
  | .str x, db, A, s, a, b, as, bs, ra, rb, _, ho, hu => by
    cases db with
    | dict kvs =>
      obtain ⟨l, rfl, hd⟩ := reads_dict rb
      cases ra with
      | str _ t => exact eqAt_sd x t hd (room_here hu)
    | _ =>
      have h := lay2 ho
      exact eqAt_reads _ _ A s a b as bs ra rb h.1 h.2 hu
  | .dict kvs, db, A, s, a, b, as, bs, ra, rb, _, ho, hu => by
    obtain ⟨l, rfl, hd⟩ := reads_dict ra
    cases db with
    | str x =>
      cases rb with
      | str _ t => exact eqAt_ds x t hd (room_here hu)
    | int x =>
      cases rb with
      | int _ t => exact eqAt_di x t hd (room_here hu)
    | tuple ys =>
      cases rb with
      | tuple k1 k2 k3 k4 => exact eqAt_dt hd ⟨_, k1, k2, _, k3⟩ (room_here hu)
    | none => cases ho
    | bool x => cases ho
    | list ys => cases ho
    | dict ks => cases ho
  | .tuple xs, db, A, s, a, b, as, bs, ra, rb, hc, ho, hu => by
    cases db with
    | dict kvs =>
      obtain ⟨l, rfl, hd⟩ := reads_dict rb
      cases ra with
      | tuple k1 k2 k3 k4 => exact eqAt_td hd ⟨_, k1, k2, _, k3⟩ (room_here hu)
    | tuple ys =>
      cases ra with
      | @tuple l o vs n _ as₁ h1 h2 h3 h4 =>
        cases rb with
        | @tuple l' o' vs' n' _ bs₁ k1 k2 k3 k4 =>
          have hl : s.heap.IsTuple l vs := ⟨_, h1, h2, _, h3⟩
          have hl' : s.heap.IsTuple l' vs' := ⟨_, k1, k2, _, k3⟩
          have n1 : vs.size = xs.length := by rw [← ReadsAll.length _ _ _ h4, Array.length_toList]
          have n2 : vs'.size = ys.length := by rw [← ReadsAll.length _ _ _ k4, Array.length_toList]
          show EqAt A s _ _ (PyData.eqvAll xs ys)
          rcases Decidable.em (l = l') with e | hll
          · subst e
            have e : PyData.tuple xs = PyData.tuple ys := by
              rcases Bool.or_eq_true_iff.mp hc with h | h
              · exact Reads.unique _ _ _ _ _ h (.tuple h1 h2 h3 h4) (.tuple k1 k2 k3 k4)
              · exact (Reads.unique _ _ _ _ _ h (.tuple k1 k2 k3 k4) (.tuple h1 h2 h3 h4)).symm
            injection e with e
            subst e
            have hx : PyData.canLayAll0 xs = true := by rcases Bool.or_eq_true_iff.mp hc with h | h <;> exact h
            rw [eqvAll_refl xs hx]
            exact EqAt.same _
          · rw [← eqvAll_eq xs ys, ← n1, ← n2]
            refine EqAt.of_refs hll (RcAt.tuples hl hl' (room_here hu) fun j j1 j2 => ?_)
            have g := eqAt_dAll xs ys A.in1 s vs.toList vs'.toList _ _ h4 k4 ho (room_in hu) j (by rw [Array.length_toList]; exact j1) (by rw [Array.length_toList]; exact j2)
            rwa [Array.getElem_toList, Array.getElem_toList] at g
    | _ =>
      have h := lay2 ho
      exact eqAt_reads _ _ A s a b as bs ra rb h.1 h.2 hu
theorem eqAt_dAll : ∀ (xs ys : List PyData) (A : Around) (s : Shared) (vs ws : List Value) (as bs : List Addr), ReadsAll s.heap vs xs as → ReadsAll s.heap ws ys bs → okDs xs ys = true →
    A.units + min (PyData.depthAll xs) (PyData.depthAll ys) < cLine → ∀ j (h1 : j < vs.length) (h2 : j < ws.length), EqAt A s vs[j] ws[j] (pairEq xs ys j)
  | [], ys, A, s, vs, ws, as, bs, ra, rb, ho, hu, j, h1, h2 => by
    cases ra
    exact absurd h1 (Nat.not_lt_zero _)
  | x :: xs, [], A, s, vs, ws, as, bs, ra, rb, ho, hu, j, h1, h2 => by
    cases rb
    exact absurd h2 (Nat.not_lt_zero _)
  | x :: xs, y :: ys, A, s, vs, ws, as, bs, ra, rb, ho, hu, j, h1, h2 => by
    have ho : ((x.canLay0 || y.canLay0) && okD x y && okDs xs ys) = true := ho
    simp only [Bool.and_eq_true] at ho
    cases ra with
    | cons r rs =>
      cases rb with
      | cons r' rs' =>
        cases j with
        | zero => exact eqAt_d x y A s _ _ _ _ r r' ho.1.1 ho.1.2 (room_head hu)
        | succ j => exact eqAt_dAll xs ys A s _ _ _ _ rs rs' ho.2 (room_tail hu) j (Nat.lt_of_succ_lt_succ h1) (Nat.lt_of_succ_lt_succ h2)
end
end L2.Mi

/-! == of two dicts that have the same keys -/
namespace L2.Mi
open PySem PySem.Spec PyProof.Rows L2
section
variable {K : PySem.W.Frag} {I H : Hp} {m : List Addr} {c : Cs}
end
end L2.Mi

/-! comprehensions of two clauses whose list is changed later -/
namespace L2.Mi
open PySem PySem.Spec PyProof.Rows L2
end L2.Mi

/-! {k: v for x in xs if .. for y in ys if ..} with tuple keys: a new cell (printed by mkdl1.py) -/
namespace DcT2
open PySem PySem.Spec PyProof.Rows L2
section
variable {prog : Program} {w : World} {A : Around} {R : Result → Shared → Prop} {s : Shared} {kx vx t0 i0 t1 i1 : Expr} {ifs0 ifs1 : List Expr} {scope : Scope} {pos : Pos} {it : Value} {D : Addr} {env : Env}
end

section
variable {X : Cx}
end
end DcT2

/-! {k: v for x in xs if .. for y in ys if ..} with tuple keys: the reading, and plain reasoning (printed by mkdl2.py) -/
namespace L2.Mi
open PySem PySem.Spec PyProof.Rows L2
section
variable {α β : Type} {it it1 : MK} {js js1 : List Nat} {g g1 : MG} {kx vx : ME} {l : Ls} {c : Cs} {Q : D → Cs → Prop}
end
end L2.Mi

/-! list(range(n)): a list of whole numbers -/
namespace L2.Mi
open PySem PySem.Spec PyProof.Rows L2
section
variable {X : Cx} {W : WX} {e : Expr} {fe : ME} {p q pos pos2 : Pos}
end
end L2.Mi

/-! d[t] += e (d a dict with tuple keys), f(*e) -/
namespace L2.Mi
open PySem PySem.Spec PyProof.Rows L2
section
variable {X : Cx} {W : WX} {o i e : Expr} {fo fi fe : ME} {op : Operator} {rd : R2} {g : D → D → Cs → R D} {pos tpos : Pos}
end
section
variable {X : Cx} {W : WX} {k : Nat} {f : Addr} {fd : FuncData} {ps : List Str} {g : List D → Cs → R D} {x : Str} {p pos sp_ : Pos} {e : Expr} {fe : ME}
end
end L2.Mi

/-! a dict with tuple keys that is locked while one statement or one expression runs, and unlocked behind it -/
namespace L2.Mi
open PySem PySem.Spec PyProof.Rows L2
section
variable {K : PySem.W.Frag} {I H : Hp} {m : List Addr} {c : Cs}
theorem Rel.unlockT (r : Rel K I H m c) {k : Nat} {a : Addr} {o : Obj} {vs : List (List Key × V)} {ds : List (List Key × D)} (hm : m[k]? = some a) (hc : c[k]? = some (.dTz ds)) (ha : I a = some (.frz o (.dT vs))) :
    Rel K (er I a) (upd H a (.dT vs)) m (c.set k (.dT ds)) := by
  have hH := r.same _ _ ha
  have rd : RepT K I m vs ds := by
    obtain ⟨o2, vs2, h1, h2⟩ := r.cell k a _ hm hc
    rw [ha] at h1
    cases h1
    exact h2
  have nf : Nt H a := nt_some hH ⟨(fun _ z => nomatch z), (fun _ z => nomatch z)⟩
  refine ⟨fun b u e => ?_, by simp [r.len], r.nd, fun j b x h1 h2 => ?_, r.tabs.up nf (fun b hb => er_ne hb) (fun b hb => upd_ne hb) (fun b hb => .inl hb)⟩
  · by_cases hb : b = a
    · subst hb
      rw [er_same] at e
      cases e
    · rw [er_ne hb] at e
      rw [upd_ne hb]
      exact r.same _ _ e
  · by_cases hj : k = j
    · subst hj
      rw [List.getElem?_set_self (List.getElem?_eq_some_iff.mp hc).1] at h2
      rw [hm] at h1
      cases h1; cases h2
      exact ⟨er_same, vs, upd_same, rd.1, Reps.er ha rd.2⟩
    · rw [List.getElem?_set_ne hj] at h2
      have nb : b ≠ a := fun e => hj (r.nd k j a hm (e ▸ h1))
      have q := r.cell j b x h1 h2
      cases x with
      | lst es =>
        obtain ⟨q1, ws, q2, q3⟩ := q
        exact ⟨by rw [er_ne nb]; exact q1, ws, by rw [upd_ne nb]; exact q2, Reps.er ha q3⟩
      | dct es =>
        obtain ⟨q1, ws, q2, q3⟩ := q
        exact ⟨by rw [er_ne nb]; exact q1, ws, by rw [upd_ne nb]; exact q2, RepK.er ha q3⟩
      | dT es =>
        obtain ⟨q1, ws, q2, q3⟩ := q
        exact ⟨by rw [er_ne nb]; exact q1, ws, by rw [upd_ne nb]; exact q2, q3.1, Reps.er ha q3.2⟩
      | dN P0 w0 es =>
        obtain ⟨q1, ws, q2, q3⟩ := q
        exact ⟨by rw [er_ne nb]; exact q1, ws, by rw [upd_ne nb]; exact q2, q3.1, Reps.er ha q3.2.1, fun p hp => ⟨(q3.2.2.1 p hp).1.er ha, (q3.2.2.1 p hp).2⟩, q3.2.2.2⟩
      | dTz es => exact q.imp (fun _ y => y.imp fun _ y => ⟨by rw [er_ne nb]; exact y.1, y.2.1, Reps.er ha y.2.2⟩)
      | ins C es =>
        obtain ⟨q1, dx, ws, q2, q3, q4, q5, q6⟩ := q
        have nd : dx ≠ a := ne_of q4 hH (by intro z; cases z)
        exact ⟨by rw [er_ne nb]; exact q1, dx, ws, by rw [er_ne nd]; exact q2, q3, by rw [upd_ne nd]; exact q4, q5.imp fun _ z => ⟨z.1, by rw [upd_ne nb]; exact z.2⟩, RepF.er ha q6⟩
      | frz d => exact ⟨by rw [er_ne nb]; exact q.1, Rep.er ha q.2⟩
/-- locked, something, unlocked: as if nothing was known in between -/
theorem Ext.unlk {I' H' : Hp} {m' : List Addr} {a : Addr} {o : Obj} {vs : List (List Key × V)} (ha : a ∈ m) (hn : I a = none) (e : Ext I m H (upd I a (.frz o (.dT vs))) m (upd H a (.frz o (.dT vs))))
    (e2 : Ext (upd I a (.frz o (.dT vs))) m (upd H a (.frz o (.dT vs))) I' m' H') : Ext I m H (er I' a) m' (upd H' a (.dT vs)) := by
  refine ⟨fun b u h => ?_, e2.pre, fun b u h1 hT h2 h3 => ?_⟩
  · have nb : b ≠ a := fun z => by rw [z, hn] at h; cases h
    rw [er_ne nb]
    exact e2.same _ _ (e.same _ _ h)
  · have nb : b ≠ a := fun z => h3 (z ▸ ha)
    obtain ⟨q1, q2, q3⟩ := e2.fr b u (by rw [upd_ne nb]; exact h1) hT (by rw [upd_ne nb]; exact h2) h3
    exact ⟨by rw [upd_ne nb]; exact q1, by rw [er_ne nb]; exact q2, q3⟩
end
def lkK (e : ME) (l : Ls) (c : Cs) : Option (Nat × List (List Key × D)) := match e l c with
  | .ok (.ref k) _ => match c[k]? with
    | some (.dT ds) => some (k, ds)
    | _ => none
  | _ => none
theorem lkK_at {e : ME} {l : Ls} {c : Cs} {k : Nat} {ds : List (List Key × D)} (h : lkK e l c = some (k, ds)) : c[k]? = some (.dT ds) := by
  unfold lkK at h
  cases q : e l c with
  | ok d c2 =>
    rw [q] at h
    cases d with
    | ref j =>
      cases qj : c[j]? with
      | none => simp only [qj] at h; cases h
      | some x =>
        simp only [qj] at h
        cases x with
        | dT es => cases h; exact qj
        | _ => cases h
    | _ => cases h
  | _ => rw [q] at h; cases h
def unlS (k : Nat) (r : RS) : RS := match r with
  | .go f c => match c[k]? with
    | some (.dTz es) => .go f (c.set k (.dT es))
    | _ => .stuck
  | _ => .stuck
def sLk (e : ME) (f : MS) : MS := fun l c => match lkK e l c with
  | none => f l c
  | some (k, ds) => unlS k (f l (c.set k (.dTz ds)))
section
variable {X : Cx} {W : WX} {e : ME}
theorem ms_lk {x : Stmt} {f : MS} (h : PS X x (rdS X.K W f)) : PS X x (rdS X.K W (sLk e f)) := by
  refine ⟨fun pins s σ H D J ⟨I, m, l, c, R, L, A⟩ => ?_⟩
  have A : AfterS X.K I m H W D (match lkK e l c with
    | none => f l c
    | some (k, ds) => unlS k (f l (c.set k (.dTz ds)))) := A
  cases q : lkK e l c with
  | none =>
    rw [q] at A
    exact h.run pins s σ H D J ⟨I, m, l, c, R, L, A⟩
  | some kd =>
    obtain ⟨k, ds⟩ := kd
    rw [q] at A
    have A : AfterS X.K I m H W D (unlS k (f l (c.set k (.dTz ds)))) := A
    have hk := lkK_at q
    have hl : k < m.length := by rw [R.len]; exact (List.getElem?_eq_some_iff.mp hk).1
    obtain ⟨a, hm⟩ : ∃ a, m[k]? = some a := ⟨_, List.getElem?_eq_getElem hl⟩
    obtain ⟨nI, vs, hH, _⟩ := R.cell k a _ hm hk
    refine (ps_lock h).run pins s σ H D J ⟨a, .dT vs, hH, trivial, fun od => ?_⟩
    obtain ⟨vs2, g1, g2, g3, g4⟩ := R.lockT od hm hk
    rw [hH] at g1
    cases g1
    refine ⟨_, m, l, _, g3, L.ext g4, ?_⟩
    cases qf : f l (c.set k (.dTz ds)) with
    | stuck => rw [qf] at A; exact A
    | exc x l2 c2 => rw [qf] at A; exact A.elim
    | go fl c2 =>
      rw [qf] at A
      have A : AfterS X.K I m H W D (match c2[k]? with
        | some (.dTz es) => .go fl (c2.set k (.dT es))
        | _ => .stuck) := A
      cases qc : c2[k]? with
      | none => rw [qc] at A; exact A.elim
      | some y =>
        rw [qc] at A
        cases y with
        | dTz es =>
          have key : ∀ {I' m' H'}, Ext (upd I a (.frz od (.dT vs))) m (upd H a (.frz od (.dT vs))) I' m' H' → I' a = some (.frz od (.dT vs)) := fun E' => E'.same _ _ upd_same
          cases fl with
          | nx l2 => exact fun I' m' H' v E' R' p' => ⟨R'.same _ _ (key E'), A (er I' a) m' _ v (Ext.unlk (List.mem_of_getElem? hm) nI g4 E') (R'.unlockT (E'.pre _ _ hm) qc (key E')) (p'.er (key E'))⟩
          | rt d => exact fun I' m' H' v E' R' p' => ⟨R'.same _ _ (key E'), A (er I' a) m' _ v (Ext.unlk (List.mem_of_getElem? hm) nI g4 E') (R'.unlockT (E'.pre _ _ hm) qc (key E')) (Rep.er (key E') p')⟩
          | bk l2 => exact fun I' m' H' v E' R' p' => ⟨R'.same _ _ (key E'), A (er I' a) m' _ v (Ext.unlk (List.mem_of_getElem? hm) nI g4 E') (R'.unlockT (E'.pre _ _ hm) qc (key E')) (p'.er (key E'))⟩
          | ct l2 => exact fun I' m' H' v E' R' p' => ⟨R'.same _ _ (key E'), A (er I' a) m' _ v (Ext.unlk (List.mem_of_getElem? hm) nI g4 E') (R'.unlockT (E'.pre _ _ hm) qc (key E')) (p'.er (key E'))⟩
        | _ => exact A.elim
end
theorem lkK_ok {e : ME} {l : Ls} {c c2 : Cs} {k : Nat} {ds : List (List Key × D)} (h : e l c = .ok (.ref k) c2) (hk : c[k]? = some (.dT ds)) : lkK e l c = some (k, ds) := by
  unfold lkK
  simp only [h, hk]
theorem os_lk {e : ME} {f : MS} {l : Ls} {c c2 : Cs} {k : Nat} {ds : List (List Key × D)} {Q : Fl → Cs → Prop} (h : e l c = .ok (.ref k) c2) (hk : c[k]? = some (.dT ds))
    (hf : OkS (f l (c.set k (.dTz ds))) fun fl c3 => ∃ es, c3[k]? = some (.dTz es) ∧ Q fl (c3.set k (.dT es))) : OkS (sLk e f l c) Q := by
  obtain ⟨fl, c3, e1, es, e2, q⟩ := hf
  refine ⟨fl, _, ?_, q⟩
  unfold sLk
  rw [lkK_ok h hk]
  simp only [e1, unlS, e2]
/-! items() with known keys -/
def itemsTKW (k : Nat) : Wk := fun i c => match c[k]? with
  | some (.dTz ds) => match ds[i]? with
    | some kv => some (some (.tup [keyDT kv.1, kv.2]))
    | none => some none
  | _ => none
theorem walks_itemsTK {K : PySem.W.Frag} {I : Hp} {m : List Addr} {k : Nat} {a : Addr} {o : Obj} {vs : List (List Key × V)} (hk : m[k]? = some a) (ha : I a = some (.frz o (.dT vs))) : WalksW K I m (Itit a o vs) (itemsTKW k) := fun i I' H m' c s p R => by
  have hk' := p _ _ hk
  have ha' := s _ _ ha
  unfold itemsTKW
  cases q : c[k]? with
  | none => exact ⟨fun d e => by simp at e, fun e => by simp at e⟩
  | some x =>
    cases x with
    | dTz ds =>
      obtain ⟨o2, vs2, h1, h2⟩ := R.cell k a _ hk' q
      rw [ha'] at h1
      cases h1
      have hH := R.same _ _ ha'
      cases qa : ds[i]? with
      | none =>
        simp only [qa]
        refine ⟨fun d e => by simp at e, fun _ => ⟨hH, ?_⟩⟩
        rw [h2.length]
        exact List.getElem?_eq_none_iff.mp qa
      | some kv =>
        obtain ⟨kk, dd⟩ := kv
        simp only [qa]
        refine ⟨fun d e => ?_, fun e => by simp at e⟩
        have e : D.tup [keyDT kk, dd] = d := by simpa using e
        subst e
        obtain ⟨v, hv, pv⟩ := h2.at_ qa
        refine ⟨⟨hH, (List.getElem?_eq_some_iff.mp hv).1⟩, fun z H' yl => ?_⟩
        obtain ⟨T, q', k', v', e1, hq, rfl, hT, rfl⟩ := yl
        rw [hv] at e1
        cases e1
        obtain ⟨I1, f1, f2, f3⟩ := R.knowT hq
        obtain ⟨I2, g1, g2, g3⟩ := new_tup f1 hT (.cons (.tup (SqT.of f3) (reps_keys _) (.inl f3)) (.cons (pv.ext f2) .nil))
        exact ⟨I2, f2.trans g1, g2, g3⟩
    | _ => exact ⟨fun d e => by simp at e, fun e => by simp at e⟩
def kItemsTK (e : ME) : MK := fun l c => (e l c).bind fun x c1 => match x with
  | .ref k => match c1[k]? with
    | some (.dT ds) => .ok (itemsTKW k) (c1.set k (.dTz ds))
    | some (.dTz _) => .ok (itemsTKW k) c1
    | _ => .stuck
  | _ => .stuck
theorem mk_itemsTK {X : Cx} {W : WX} {tg it : Expr} {fe : ME} (h : PI X tg it (iItemsT (rdE X.K W fe))) : PI X tg it (rdK X.K W (kItemsTK fe)) := PIi h fun σ H Q ⟨I, m, l, c, R, L, A⟩ =>
  ⟨I, m, l, c, R, L, After.mono (After.bind (rep := rD X.K) A) fun v1 H1 ⟨I1, m1, c1, d1, E1, R1, p1, A1⟩ => by
    have p1 : Rep X.K I1 m1 v1 d1 := p1
    cases p1 with
    | @ref k a hk =>
      have A2 : After (rW X.K) X.K I1 m1 H1 (fun cls dd H' => W cls dd σ H') Q (match c1[k]? with
        | some (.dT ds) => .ok (itemsTKW k) (c1.set k (.dTz ds))
        | some (.dTz _) => .ok (itemsTKW k) c1
        | _ => .stuck) := A1
      cases q : c1[k]? with
      | none => rw [q] at A2; exact A2.elim
      | some x =>
        rw [q] at A2
        cases x with
        | dT ds =>
          obtain ⟨n1, ws, n2, n3⟩ := R1.cell k a _ hk q
          refine ⟨a, ws, rfl, .inl ⟨n2, fun o => ?_⟩⟩
          obtain ⟨vs, g1, g2, g3, g4⟩ := R1.lockT o hk q
          rw [n2] at g1
          cases g1
          exact A2 _ _ _ _ g4 g3 (walks_itemsTK hk upd_same)
        | dTz ds =>
          obtain ⟨o, vs, n2, n3⟩ := R1.cell k a _ hk q
          exact ⟨a, vs, rfl, .inr ⟨o, R1.same _ _ n2, A2.here R1 (walks_itemsTK hk n2)⟩⟩
        | _ => exact A2.elim
    | _ => exact A1.elim⟩
theorem kItemsTK_z {fe : ME} {l : Ls} {c c1 : Cs} {k : Nat} {ds : List (List Key × D)} (h : fe l c = .ok (.ref k) c1) (hk : c1[k]? = some (.dTz ds)) : kItemsTK fe l c = .ok (itemsTKW k) c1 := by
  unfold kItemsTK
  rw [h]
  simp only [R.bind_ok, hk]
theorem itemsTKW_at {k : Nat} {c : Cs} {ds : List (List Key × D)} (hk : c[k]? = some (.dTz ds)) (i : Nat) : itemsTKW k i c = some (ds.map fun kv => D.tup [keyDT kv.1, kv.2])[i]? := by
  unfold itemsTKW
  simp only [hk]
  cases q : ds[i]? with
  | none => simp [q]
  | some kv => simp [q]
/-! list(d) of a dict with tuple keys -/
end L2.Mi

/-! first, *others = a tuple -/
namespace L2.Mi
open PySem PySem.Spec PyProof.Rows L2
section
variable {prog : Program} {w : World} {A : Around} {E : Value → Shared → Prop} {s : Shared}
end
end L2.Mi

/-! x != y, x and y pairs of a text and an instance with an own == that says True -/
namespace L2.Mi
open PySem PySem.SeqAt
open AutoSeq1 (wpAny_loadPart')
open MeetsSeq MeetsSeq2 MeetsSeq3 SeqRoads2
section
variable {prog : Program} {w : World} {A : Around} {R : Result → Shared → Prop}
end
section
variable {prog : Program} {w : World} {A : Around} {E : Value → Shared → Prop} {s : Shared}
end
end L2.Mi
namespace L2.Mi
open PySem PySem.Spec PyProof.Rows L2
section
variable {X : Cx} {W : WX} {k : Nat} {tbl : Tbl} {g0 : D → D → Cs → R D}
end
end L2.Mi

/-! t[::-1] of a pair -/
namespace L2.Mi
open PySem PySem.Spec PyProof.Rows L2 HT
section
variable {prog : Program} {w : World} {A : Around} {E : Value → Shared → Prop} {s : Shared}
end
section
variable {X : Cx} {W : WX} {e : Expr} {lo hi st : Option Expr} {te : TE} {tl th tk : TO} {p2 pos : Pos}
end
end L2.Mi

/-! len(set(xs)), xs a list or a tuple of tuples of texts and whole numbers -/
namespace SetM
open PySem PySem.Spec PyProof.Rows L2 PpSet L2.Mi
section
variable {P : Program} {w : World} {A : Around} {E : Value → Shared → Prop} {s : Shared}
/-- what the loop has met of ks so far -/
structure Met (ks : List (Addr × List Key)) (i : Nat) (L : List (Addr × List Key)) : Prop where
  sub : ∀ p ∈ L, p ∈ ks
  per : (L.map (·.2)).Perm (setK ((ks.map (·.2)).take i))
theorem Met.len {ks L : List (Addr × List Key)} {i : Nat} (g : Met ks i L) : L.length ≤ (setK (ks.map (·.2))).length := by
  have := g.per.length_eq
  rw [List.length_map] at this
  rw [this]
  exact setK_take _ _
theorem Met.next {ks L L' : List (Addr × List Key)} {i : Nat} {p : Addr × List Key} (g : Met ks i L) (hp : ks[i]? = some p) (c1 : p.2 ∈ L.map (·.2) → L' = L) (c2 : p.2 ∉ L.map (·.2) → L'.Perm (p :: L)) : Met ks (i + 1) L' := by
  have hk : (ks.map (·.2))[i]? = some p.2 := by rw [List.getElem?_map, hp]; rfl
  refine ⟨fun q hq => ?_, ?_⟩
  · by_cases hin : p.2 ∈ L.map (·.2)
    · rw [c1 hin] at hq; exact g.sub q hq
    · rcases List.mem_cons.mp ((c2 hin).mem_iff.mp hq) with e | e
      · rw [e]; exact List.mem_of_getElem? hp
      · exact g.sub q e
  · rw [setK_succ hk]
    unfold addK
    by_cases hin : p.2 ∈ L.map (·.2)
    · rw [c1 hin, if_pos (hasK_iff.mpr (g.per.mem_iff.mp hin))]; exact g.per
    · rw [if_neg fun z => hin (g.per.mem_iff.mpr (hasK_iff.mp z))]
      have h1 := (c2 hin).map (·.2)
      rw [List.map_cons] at h1
      exact (h1.trans (g.per.cons p.2)).trans (List.perm_append_singleton _ _).symm
end
section
variable {X : Cx} {W : WX}
end
end SetM
namespace L2.Mi
open PySem PySem.Spec PyProof.Rows L2 PpSet ScI SetM
section
variable {X : Cx} {W : WX}
/-! ### (i, j), k as a loop's target -/
end
end L2.Mi

/-! isinstance(x, list), isinstance(x, (list, tuple)) where x may be an own instance or a dict with tuple keys -/
namespace L2.Mi
open PySem PySem.Spec PyProof.Rows L2
/-- a cell that holds a dict with tuple keys -/
def dTq (x : D) (c : Cs) : Bool := match x with
  | .ref k => match c[k]? with
    | some (.dT _) => true
    | _ => false
  | _ => false
end L2.Mi

/-! d.update(e) of two dicts with plain keys -/
namespace L2.Mi
open PySem PySem.Spec PyProof.Rows L2
end L2.Mi

/-! tuple * int, once and more often -/
namespace L2
open PySem PySem.Spec PyProof.Rows
theorem tuple_mul_one (l : Addr) (its : List Value) (n : Nat) (dd : Option Addr) (sl : Array (Option Value)) (u : Tok) (hz : its.length ≤ 1000) :
    Meets (Builtin.«tuple.__mul__» ⟨[.ref l, .int 1 u], []⟩) (fun _ R s => s.heap.get? l = some { cls := .type "tuple", dict := dd, data := .seq its.toArray n, slots := sl } ∧ R (.ok (.ret (Value.ref l))) s) :=
  .of_wp fun prog w A R s h => by
    obtain ⟨hp, g, d, tk, os⟩ := s
    obtain ⟨hl, h⟩ := h
    have f1 := AutoSeq1.idx_int
    have c1 : (its.toArray.isEmpty || (1 : Int) == 1) = true := by simp
    wp_walk using wpAny_loadPart' hl
    exact ⟨_, rfl, h⟩
def rOnce (K : PySem.W.Frag) : R2 := fun x y H Q => ∃ l xs, x = .ref l ∧ y = .int 1 ∧ SqT K H l xs ∧ xs.length ≤ 1000 ∧ Q (.ref l) H
theorem op_once {X : Cx} : OpR X (binaryOp .Mult) (rOnce X.K) := by
  intro pins s σ H x y v u Q I rx ry h
  obtain ⟨l, xs, rfl, rfl, hT, hz, q⟩ := h
  obtain rfl : v = Value.ref l := rx
  obtain ⟨t, rfl⟩ := ry
  obtain ⟨its, r, ⟨o, ho, hc, k, hd⟩, _⟩ := I.tuple hT
  obtain ⟨cl, di, da, so⟩ := o
  obtain rfl : cl = .type "tuple" := hc
  obtain rfl : da = .seq its.toArray k := hd
  have hT : s.TypeIs (.ref l) "tuple" := ⟨_, ho, rfl⟩
  have once := call_meets (A := X.A) (Q := EP X pins σ Q) (E := X.xe) (prog := X.prog) (w := X.w) F.slot_tuple_mul hT F.entry_tuple_mul (F.args_tuple_mul_2 _ _) (tuple_mul_one l its k di so t (by rw [← r.length]; exact hz)) ⟨ho, ⟨.ref l, H, I, rfl, q⟩⟩
  refine wpAny_binaryOp_repeat_ref (T := "tuple") (U := "int") (by decide) hT (fun s' => typeIs_int s' 1 t) noFill_tuple_mul F.fills_int_mul F.slot_int_rmul repeat_tuple F.slot_int_index.lookup ?_
  exact call_meets F.slot_int_rmul (typeIs_int s 1 t) F.entry_int_rmul (F.args_int_rmul_2 _ _) (int_rmul_tuple 1 t l its.toArray k di so) ⟨ho, rfl, hT, once⟩
end L2
namespace L2.Mi
open PySem PySem.Spec PyProof.Rows L2
def rMany (K : PySem.W.Frag) : R2 := fun x y H Q => rRepT K x y H Q ∨ rOnce K x y H Q
theorem op_many {X : Cx} : OpR X (binaryOp .Mult) (rMany X.K) := op_repT.or op_once
def repTD : D → D → Cs → R D := fun d e c => match d, e with
  | .tup ds, .int n => if 1 ≤ ds.length ∧ ds.length ≤ 1000 ∧ 1 ≤ n ∧ n ≤ 1000 then .ok (.tup (List.replicate n.toNat ds).flatten) c else .stuck
  | _, _ => .stuck
theorem reps_many {K : PySem.W.Frag} {I : Hp} {m : List Addr} {vs : List V} {ds : List D} (r : Reps K I m vs ds) : ∀ k : Nat, Reps K I m (List.replicate k vs).flatten (List.replicate k ds).flatten
  | 0 => .nil
  | k + 1 => by
    rw [List.replicate_succ, List.replicate_succ, List.flatten_cons, List.flatten_cons]
    exact r.append (reps_many r k)
theorem os_many {K : PySem.W.Frag} : OpS K (rMany K) repTD := fun I H m c v1 v2 d1 d2 W Q R p1 p2 A => by
  unfold repTD at A
  split at A
  · rename_i ds n
    by_cases hz : 1 ≤ ds.length ∧ ds.length ≤ 1000 ∧ 1 ≤ n ∧ n ≤ 1000
    · rw [if_pos hz] at A
      obtain ⟨z1, z2, z3, z4⟩ := hz
      cases p2 with
      | int _ =>
        have p := p1
        cases p1 with
        | @tup a vs _ h r x =>
          have hl := r.length
          by_cases h1 : n = 1
          · subst h1
            refine .inr ⟨a, vs, rfl, rfl, sqT_same R.same h, by omega, ?_⟩
            have e : (List.replicate (1 : Int).toNat ds).flatten = ds := by simp
            rw [e] at A
            exact A.here R p
          · refine .inl ⟨a, n, vs, rfl, rfl, sqT_same R.same h, fun e => ?_, by omega, z4, by omega, fun q nq => ?_⟩
            · rw [e] at hl
              simp at hl
              omega
            · obtain ⟨I2, E2, R2, p2⟩ := new_tup R nq (reps_many r n.toNat)
              exact A _ _ _ _ E2 R2 p2
    · rw [if_neg hz] at A
      exact A.elim
  · exact A.elim
theorem ok_many {ds : List D} {n : Nat} {c : Cs} {Q : D → Cs → Prop} (h1 : 1 ≤ ds.length) (h2 : ds.length ≤ 1000) (h3 : 1 ≤ n) (h4 : n ≤ 1000) (q : Q (.tup (List.replicate n ds).flatten) c) : Ok (repTD (.tup ds) (.int (n : Nat)) c) Q :=
  ⟨_, _, if_pos ⟨h1, h2, by omega, by omega⟩, q⟩
end L2.Mi

/-! a dict from whole numbers to texts that is read only from some statement on: locked there for good, and known by its entries -/
namespace L2.Mi
open PySem PySem.Spec PyProof.Rows L2
abbrev NumTxt := List (Int × Str)
def entV (xs : NumTxt) : List (Key × V) := xs.map fun p => (.inl p.1, .str p.2)
/-- the object is the locked dict with these entries -/
def Locked (xs : NumTxt) : Addr → Hp → List Addr → Prop := fun a I _ => ∃ o, I a = some (.frz o (.dK (entV xs)))
theorem entV_inj : ∀ {xs ys : NumTxt}, entV xs = entV ys → xs = ys
  | [], [], _ => rfl
  | [], _ :: _, h => by cases h
  | _ :: _, [], h => by cases h
  | p :: xs, q :: ys, h => by
    obtain ⟨h1, h2⟩ := List.cons.inj h
    obtain ⟨h3, h4⟩ := Prod.mk.inj h1
    have e : p = q := Prod.ext (Sum.inl.inj h3) (V.str.inj h4)
    rw [e, entV_inj h2]
theorem Locked.inj {xs ys : NumTxt} (h : Locked xs = Locked ys) : xs = ys := by
  let o : Obj := { cls := .none, data := .dict #[] }
  have h1 : Locked xs 0 (fun _ => some (.frz o (.dK (entV xs)))) [] := ⟨o, rfl⟩
  rw [h] at h1
  obtain ⟨_, h2⟩ := h1
  exact entV_inj (HO.dK.inj (HO.frz.inj (Option.some.inj h2)).2)
/-! the walk over its keys -/
/-! its entries -/
def lookN (xs : NumTxt) (i : Int) : Option Str := (xs.find? fun p => decide (p.1 = i)).map Prod.snd
/-! a pair whose second part is a list's cell: the list is not changed any more -/
end L2.Mi

/-! f'{n:06b}' -/
namespace L2
open PySem PySem.Spec PyProof.Rows
def bits6 (n : Nat) : Str := ⟨#[48 + n / 32 % 2, 48 + n / 16 % 2, 48 + n / 8 % 2, 48 + n / 4 % 2, 48 + n / 2 % 2, 48 + n % 2]⟩
theorem int_06b (t u : Tok) : ∀ n : Nat, n < 64 → Builtin.«int.__format__» ⟨[.int (n : Nat) t, .str "06b" u], []⟩ = (typeNameOf (.str "06b" u) >>= fun _ => typeNameOfCut 200 (.int (n : Nat) t) >>= fun _ => retStr (bits6 n))
  | 0, _ => by kernel_rfl
  | 1, _ => by kernel_rfl
  | 2, _ => by kernel_rfl
  | 3, _ => by kernel_rfl
  | 4, _ => by kernel_rfl
  | 5, _ => by kernel_rfl
  | 6, _ => by kernel_rfl
  | 7, _ => by kernel_rfl
  | 8, _ => by kernel_rfl
  | 9, _ => by kernel_rfl
  | 10, _ => by kernel_rfl
  | 11, _ => by kernel_rfl
  | 12, _ => by kernel_rfl
  | 13, _ => by kernel_rfl
  | 14, _ => by kernel_rfl
  | 15, _ => by kernel_rfl
  | 16, _ => by kernel_rfl
  | 17, _ => by kernel_rfl
  | 18, _ => by kernel_rfl
  | 19, _ => by kernel_rfl
  | 20, _ => by kernel_rfl
  | 21, _ => by kernel_rfl
  | 22, _ => by kernel_rfl
  | 23, _ => by kernel_rfl
  | 24, _ => by kernel_rfl
  | 25, _ => by kernel_rfl
  | 26, _ => by kernel_rfl
  | 27, _ => by kernel_rfl
  | 28, _ => by kernel_rfl
  | 29, _ => by kernel_rfl
  | 30, _ => by kernel_rfl
  | 31, _ => by kernel_rfl
  | 32, _ => by kernel_rfl
  | 33, _ => by kernel_rfl
  | 34, _ => by kernel_rfl
  | 35, _ => by kernel_rfl
  | 36, _ => by kernel_rfl
  | 37, _ => by kernel_rfl
  | 38, _ => by kernel_rfl
  | 39, _ => by kernel_rfl
  | 40, _ => by kernel_rfl
  | 41, _ => by kernel_rfl
  | 42, _ => by kernel_rfl
  | 43, _ => by kernel_rfl
  | 44, _ => by kernel_rfl
  | 45, _ => by kernel_rfl
  | 46, _ => by kernel_rfl
  | 47, _ => by kernel_rfl
  | 48, _ => by kernel_rfl
  | 49, _ => by kernel_rfl
  | 50, _ => by kernel_rfl
  | 51, _ => by kernel_rfl
  | 52, _ => by kernel_rfl
  | 53, _ => by kernel_rfl
  | 54, _ => by kernel_rfl
  | 55, _ => by kernel_rfl
  | 56, _ => by kernel_rfl
  | 57, _ => by kernel_rfl
  | 58, _ => by kernel_rfl
  | 59, _ => by kernel_rfl
  | 60, _ => by kernel_rfl
  | 61, _ => by kernel_rfl
  | 62, _ => by kernel_rfl
  | 63, _ => by kernel_rfl
  | n + 64, h => absurd h (by omega)
theorem gives_06b (n : Nat) (h : n < 64) (t u : Tok) : Gives (Builtin.«int.__format__» ⟨[.int (n : Nat) t, .str "06b" u], []⟩) (.str (bits6 n)) := by
  rw [int_06b t u n h]
  refine .of_wp fun M A E s Q hq => ?_
  wp_walk
  exact ⟨_, rfl, hq.2⟩
section
variable {X : Cx}
/-- {n:06b}, n below 64 -/
def tFmt6 (te : TE) : TE := fun σ H Q => te σ H fun x H1 => ∃ n : Nat, x = .int n ∧ n < 64 ∧ Q (.str (bits6 n)) H1
theorem pe_fmt6 {e : Expr} {te : TE} {j : Nat} {p1 p2 pos : Pos} (he : PE X e te) : PE X (.FormattedValue e (-1) (some (.JoinedStr [.Constant (.str "06b") j p1] p2)) pos) (tFmt6 te) := by
  refine ⟨fun pins s σ H Q I h => ?_⟩
  refine wpAny_FormattedValue_spec (thn (he.run pins s σ H _ I h) fun v s1 ⟨x, H1, I1, r1, n, ex, hn, q⟩ => ?_)
  subst ex
  obtain ⟨t, rfl⟩ := r1
  refine wpAny_JoinedStr_one (Calls.Constant_str ⟨_, _, rfl, ?_⟩)
  exact wpAny_formatField_spec (T := "int") (by decide +kernel) (fun s' => typeIs_int s' n t) F.slot_int_format F.entry_int_format F.args_int_format_2 (fun u => gives_06b n hn t u) ⟨.str (bits6 n), H1, I1.tok _, ⟨_, rfl⟩, q⟩ (hsz2 := by show 6 ≤ sizeLine; rw [sizeLine_eq]; decide)
end
end L2
namespace L2.Mi
open PySem PySem.Spec PyProof.Rows L2
def fmt6 (x : D) (c : Cs) : R D := match x with
  | .int i => if 0 ≤ i ∧ i < 64 then .ok (.str (bits6 i.toNat)) c else .stuck
  | _ => .stuck
def mFmt6 (a : ME) : ME := fun l c => (a l c).bind fun x c1 => fmt6 x c1
theorem me_fmt6 {X : Cx} {W : WX} {e : Expr} {fa : ME} {j : Nat} {p1 p2 pos : Pos} (ha : PE X e (rdE X.K W fa)) : PE X (.FormattedValue e (-1) (some (.JoinedStr [.Constant (.str "06b") j p1] p2)) pos) (rdE X.K W (mFmt6 fa)) :=
  PEi (pe_fmt6 ha) fun σ H Q ⟨I, m, l, c, R, L, A⟩ => ⟨I, m, l, c, R, L, After.mono (After.bind (rep := rD X.K) A) fun v1 H1 ⟨I1, m1, c1, d1, E1, R1, p1, A1⟩ => by
    unfold fmt6 at A1
    dsimp only at A1
    split at A1
    · rename_i i
      split at A1
      · rename_i h
        cases p1
        exact ⟨i.toNat, by rw [Int.toNat_of_nonneg h.1], by omega, A1.here R1 (.str _)⟩
      · exact A1.elim
    · exact A1.elim⟩
theorem ok_fmt6 {a : ME} {l : Ls} {c : Cs} {Q : D → Cs → Prop} (h : Ok (a l c) fun x c1 => ∃ n : Nat, x = .int n ∧ n < 64 ∧ Q (.str (bits6 n)) c1) : Ok (mFmt6 a l c) Q :=
  Ok.bind (h.mono fun x c1 ⟨n, e, hn, q⟩ => by
    subst e
    refine ⟨_, _, if_pos ⟨by omega, by omega⟩, ?_⟩
    rw [Int.toNat_natCast]
    exact q)
end L2.Mi

/-! dicts with nested keys: what stands in the heap; made, asked, read, written -/
namespace L2.Mi
open PySem PySem.Spec PyProof.Rows L2
section
variable {X : Cx} {pins : List (Addr × Obj)} {σ : L2.St} {H : Hp} {s : Shared}
theorem key_nested (I : Inv X pins σ H s) : ∀ {k : NestedKey} {v : V}, KeyIs H k v → ∀ u, RelV v u → NestedIs s.heap k u := fun {k v} h => by
  induction h using KeyIs.rec (motive_2 := fun ks vs _ => ∀ us, Vals vs us → NestedAll s.heap ks us) with
  | num i =>
    rintro u ⟨t, rfl⟩
    exact .int i t
  | text x =>
    rintro u ⟨t, rfl⟩
    exact .text x t
  | tup0 h =>
    intro u hu
    cases hu
    obtain ⟨its, r, ⟨o, e, c, n, d⟩, _⟩ := I.tuple (SqT.of h)
    cases r
    exact .tup e c d .nil
  | tup h p ih =>
    intro u hu
    cases hu
    obtain ⟨its, r, ⟨o, e, c, n, d⟩, _⟩ := I.tuple (SqT.of h)
    exact .tup e c d (ih its r)
  | nil =>
    rename_i us r
    cases r
    exact .nil
  | cons h t ih1 ih2 =>
    rename_i us r
    cases r with
    | cons r1 r2 => exact .cons (ih1 _ r1) (ih2 _ r2)
/-- the entries, with the values that stand there -/
def entN (ks : List (NestedKey × Addr)) (us : List Value) : List (NestedKey × Addr × Value) := (ks.zip us).map fun x => (x.1.1, x.1.2, x.2)
def KeysOk (H : Hp) (ks : List (NestedKey × Addr)) : Prop := ∀ p ∈ ks, KeyIs H p.1 (.ref p.2) ∧ p.1.depth ≤ 8
theorem entN_fst : ∀ {ks : List (NestedKey × Addr)} {us : List Value}, ks.length = us.length → (entN ks us).map (·.1) = ks.map Prod.fst
  | [], [], _ => rfl
  | k :: ks, u :: us, h => by
    have := entN_fst (ks := ks) (us := us) (Nat.succ.inj h)
    show k.1 :: (entN ks us).map (·.1) = _
    rw [this]
    rfl
theorem dn_rd {a : Addr} {ks : List (NestedKey × Addr)} {vs : List V} (I : Inv X pins σ H s) (e : H a = some (DNo X.prog X.w a ks vs)) (hk : KeysOk H ks) :
    (a == sysModules) = false ∧ ks.length ≤ sizeLine ∧ ∃ us, Vals vs us ∧ ks.length = us.length ∧ s.heap.DictOfH (nestedKind X.prog X.w) a (entN ks us) := by
  obtain ⟨⟨h1, h2, h3, us, o, es, ep, g1, g2, g3, g4, g5, g6⟩, _, _⟩ := I.hok a _ e
  refine ⟨h1, h2, us, g4, g5, o, es, ep, g1, g2, g3, ?_, fun x hx => ?_, by rw [entN_fst g5]; exact h3⟩
  · rw [g6]
    unfold entN
    rw [List.map_map]
    rfl
  · unfold entN at hx
    obtain ⟨y, hy, rfl⟩ := List.mem_map.mp hx
    obtain ⟨q1, q2⟩ := hk _ (List.of_mem_zip hy).1
    exact ⟨key_nested I q1 _ rfl, q2⟩
theorem at_entN {k : NestedKey} : ∀ {ks : List (NestedKey × Addr)} {us : List Value}, ks.length = us.length → (atKey (entN ks us) k).isSome = decide (k ∈ ks.map Prod.fst)
  | [], [], _ => rfl
  | q :: ks, u :: us, h => by
    have ih := at_entN (k := k) (ks := ks) (us := us) (Nat.succ.inj h)
    unfold atKey at ih ⊢
    show ((((q.1, q.2, u) :: entN ks us).find? fun x => decide (x.1 = k)).map (·.2)).isSome = _
    rw [List.find?_cons]
    by_cases e : q.1 = k
    · simp [e]
    · have e2 : ¬ k = q.1 := fun z => e z.symm
      simp only [e, decide_false]
      rw [ih]
      simp [e2]
/-- key in d, key not in d -/
def rInN (P : Program) (w : World) (neg : Bool) : R2 := fun x y H Q => ∃ b a ks vs k, x = .ref b ∧ y = .ref a ∧ H a = some (DNo P w a ks vs) ∧ KeysOk H ks ∧ KeyIs H k (.ref b) ∧ k.depth ≤ 8 ∧ Q (.bl (if neg = true then !decide (k ∈ ks.map Prod.fst) else decide (k ∈ ks.map Prod.fst))) H
theorem op_notInN (hu : X.A.units + 64 < cLine) : OpR X (compareOp .NotIn) (rInN X.prog X.w true) := by
  intro pins s σ H x y v u Q I rx ry h
  obtain ⟨b, a, ks, vs, k, rfl, rfl, e, hk, kb, kd, q⟩ := h
  obtain rfl : v = Value.ref b := rx
  obtain rfl : u = Value.ref a := ry
  obtain ⟨h1, h2, us, r, hl, hd⟩ := dn_rd I e hk
  refine notIn_keyed (knd := nestedKind X.prog X.w) (by show X.A.units + 1 + 8 < cLine; omega) ⟨key_nested I kb _ rfl, kd⟩ h1 ⟨_, hd, rfl⟩ ?_
  rw [valueAt_pairsH, Option.isSome_map, at_entN hl]
  exact ⟨.bl _, H, I.tok _, rfl, q⟩
/-- the value at a key -/
def valN : List (NestedKey × Addr) → List V → NestedKey → Option V
  | q :: ks, x :: vs, k => if q.1 = k then some x else valN ks vs k
  | _, _, _ => none
theorem val_entN {k : NestedKey} {x : V} : ∀ {ks : List (NestedKey × Addr)} {vs : List V} {us : List Value}, Vals vs us → ks.length = us.length → valN ks vs k = some x → ∃ u, valueAt (pairsH (entN ks us)) k = some u ∧ RelV x u
  | [], _, _, _, _, h => by cases h
  | q :: ks, [], _, r, hl, h => by cases h
  | q :: ks, y :: vs, u :: us, r, hl, h => by
    cases r with
    | cons r1 r2 =>
      have h : (if q.1 = k then some y else valN ks vs k) = some x := h
      show ∃ v, (((q.1, u) :: pairsH (entN ks us)).find? fun kv => decide (kv.1 = k)).map (·.2) = some v ∧ RelV x v
      rw [List.find?_cons]
      by_cases e : q.1 = k
      · rw [if_pos e] at h
        cases h
        exact ⟨u, by simp [e], r1⟩
      · rw [if_neg e] at h
        obtain ⟨v, h1, h2⟩ := val_entN r2 (Nat.succ.inj hl) h
        refine ⟨v, ?_, h2⟩
        simp only [e, decide_false]
        exact h1
/-- d[key], there -/
theorem dn_get {a b : Addr} {ks : List (NestedKey × Addr)} {vs : List V} {k : NestedKey} {x : V} {A : Around} {E : Value → Shared → Prop} {Q : Value → Shared → Prop} (hu : A.units + 64 < cLine) (I : Inv X pins σ H s) (e : H a = some (DNo X.prog X.w a ks vs)) (hk : KeysOk H ks)
    (kb : KeyIs H k (.ref b)) (kd : k.depth ≤ 8) (hx : valN ks vs k = some x) (q : ∀ u t, RelV x u → Inv X pins σ H { s with toks := t } → Q u { s with toks := t }) : wpAny (model X.prog X.w) A (getItem (.ref a) (.ref b)) Q E s := by
  obtain ⟨h1, h2, us, r, hl, hd⟩ := dn_rd I e hk
  obtain ⟨u, hv, hr⟩ := val_entN r hl hx
  exact getItem_keyed (knd := nestedKind X.prog X.w) (by show A.units + 1 + 8 < cLine; omega) ⟨key_nested I kb _ rfl, kd⟩ ⟨_, hd, rfl⟩ hv (q u _ hr (I.tok _))
/-! written -/
def storeK (ks : List (NestedKey × Addr)) (k : NestedKey) (b : Addr) : List (NestedKey × Addr) := if k ∈ ks.map Prod.fst then ks else ks ++ [(k, b)]
def setN {α : Type} : List (NestedKey × Addr) → List α → NestedKey → α → List α
  | q :: ks, y :: vs, k, x => if q.1 = k then x :: vs else y :: setN ks vs k x
  | _, _, _, x => [x]
theorem vals_setN {k : NestedKey} {x : V} {u : Value} (r : RelV x u) : ∀ {ks : List (NestedKey × Addr)} {vs : List V} {us : List Value}, Vals vs us → Vals (setN ks vs k x) (setN ks us k u)
  | [], _, _, _ => .cons r .nil
  | q :: ks, [], [], _ => .cons r .nil
  | q :: ks, y :: vs, z :: us, .cons h t => by
    show Vals (if q.1 = k then x :: vs else y :: setN ks vs k x) (if q.1 = k then u :: us else z :: setN ks us k u)
    split
    · exact .cons r t
    · exact .cons h (vals_setN r t)
theorem map_putAt {k : NestedKey} {u : Value} : ∀ {ks : List (NestedKey × Addr)} {us : List Value}, k ∉ ks.map Prod.fst → (entN ks us).map (putAt k u) = entN ks us
  | [], _, _ => rfl
  | q :: ks, [], _ => rfl
  | q :: ks, z :: us, h => by
    rw [List.map_cons, List.mem_cons, not_or] at h
    have ih := map_putAt (u := u) (us := us) h.2
    show putAt k u (q.1, q.2, z) :: (entN ks us).map (putAt k u) = (q.1, q.2, z) :: entN ks us
    rw [ih]
    unfold putAt
    rw [if_neg fun e => h.1 e.symm]
theorem put_old {k : NestedKey} {u : Value} : ∀ {ks : List (NestedKey × Addr)} {us : List Value}, ks.length = us.length → (ks.map Prod.fst).Nodup → k ∈ ks.map Prod.fst → (entN ks us).map (putAt k u) = entN ks (setN ks us k u)
  | [], _, _, _, h => by cases h
  | q :: ks, z :: us, hl, hn, h => by
    rw [List.map_cons, List.nodup_cons] at hn
    show putAt k u (q.1, q.2, z) :: (entN ks us).map (putAt k u) = entN (q :: ks) (if q.1 = k then u :: us else z :: setN ks us k u)
    by_cases e : q.1 = k
    · rw [if_pos e, map_putAt (e ▸ hn.1)]
      unfold putAt
      rw [if_pos e]
      rfl
    · rw [if_neg e]
      have hm : k ∈ ks.map Prod.fst := by
        rw [List.map_cons, List.mem_cons] at h
        exact h.resolve_left fun z => e z.symm
      rw [put_old (Nat.succ.inj hl) hn.2 hm]
      unfold putAt
      rw [if_neg e]
      rfl
theorem put_new {k : NestedKey} {b : Addr} {u : Value} : ∀ {ks : List (NestedKey × Addr)} {us : List Value}, ks.length = us.length → k ∉ ks.map Prod.fst → entN ks us ++ [(k, b, u)] = entN (ks ++ [(k, b)]) (setN ks us k u)
  | [], [], _, _ => rfl
  | q :: ks, z :: us, hl, h => by
    rw [List.map_cons, List.mem_cons, not_or] at h
    show (q.1, q.2, z) :: (entN ks us ++ [(k, b, u)]) = entN (q :: (ks ++ [(k, b)])) (if q.1 = k then u :: us else z :: setN ks us k u)
    rw [if_neg fun e => h.1 e.symm, put_new (Nat.succ.inj hl) h.2]
    rfl
theorem stored_entN {k : NestedKey} {b : Addr} {u : Value} {ks : List (NestedKey × Addr)} {us : List Value} (hl : ks.length = us.length) (hn : (ks.map Prod.fst).Nodup) : storedH (entN ks us) k b u = entN (storeK ks k b) (setN ks us k u) := by
  have ha := at_entN (k := k) hl
  unfold storedH storeK
  rw [ha]
  by_cases h : k ∈ ks.map Prod.fst
  · rw [decide_eq_true h, if_pos rfl, if_pos h]
    exact put_old hl hn h
  · rw [decide_eq_false h, if_neg (by decide), if_neg h]
    exact put_new hl h
theorem setN_len {α : Type} {k : NestedKey} {b : Addr} {x : α} : ∀ {ks : List (NestedKey × Addr)} {us : List α}, ks.length = us.length → (storeK ks k b).length = (setN ks us k x).length
  | [], [], _ => rfl
  | q :: ks, z :: us, hl => by
    have ih := setN_len (k := k) (b := b) (x := x) (ks := ks) (us := us) (Nat.succ.inj hl)
    have hl2 : ks.length = us.length := Nat.succ.inj hl
    unfold storeK at ih ⊢
    show _ = (if q.1 = k then x :: us else z :: setN ks us k x).length
    by_cases e : q.1 = k
    · rw [if_pos e, if_pos (List.mem_map.mpr ⟨q, List.mem_cons_self, e⟩)]
      exact hl
    · rw [if_neg e]
      have e2 : k ∈ (q :: ks).map Prod.fst ↔ k ∈ ks.map Prod.fst := by
        rw [List.map_cons, List.mem_cons]
        exact ⟨fun h => h.resolve_left fun z => e z.symm, .inr⟩
      by_cases h : k ∈ ks.map Prod.fst
      · rw [if_pos (e2.mpr h)]
        rw [if_pos h] at ih
        rw [List.length_cons, List.length_cons, ih]
      · rw [if_neg fun z => h (e2.mp z)]
        rw [if_neg h] at ih
        rw [List.cons_append, List.length_cons, List.length_cons, ih]
theorem dn_ok {P : Program} {w : World} {H' : Hp} {h' : Heap} {a : Addr} {ks : List (NestedKey × Addr)} {vs : List V} {us : List Value} (h1 : (a == sysModules) = false) (h2 : ks.length ≤ sizeLine) (r : Vals vs us) (hl : ks.length = us.length) (hd : h'.DictOfH (nestedKind P w) a (entN ks us)) : ObjOk P w H' h' a (DNo P w a ks vs) := by
  obtain ⟨o, es, ep, g1, g2, g3, g4, g5, g6⟩ := hd
  rw [entN_fst hl] at g6
  refine ⟨⟨h1, h2, g6, us, o, es, ep, g1, g2, g3, r, hl, ?_⟩, ⟨o, g1⟩, fun x y ⟨k1, k2, k3, us', o', es', ep', q1, q⟩ hxy => ⟨k1, k2, k3, us', o', es', ep', hxy _ q1, q⟩⟩
  rw [g4]
  unfold entN
  rw [List.map_map]
  rfl
/-- d[key] = v -/
theorem dn_set {a b : Addr} {ks : List (NestedKey × Addr)} {vs : List V} {k : NestedKey} {x : V} {u : Value} {A : Around} {E : Value → Shared → Prop} {Q : Unit → Shared → Prop} (hu : A.units + 64 < cLine) (I : Inv X pins σ H s) (e : H a = some (DNo X.prog X.w a ks vs)) (hk : KeysOk H ks) (hz : ks.length < 10000)
    (kb : KeyIs H k (.ref b)) (kd : k.depth ≤ 8) (r : RelV x u) (q : ∀ s', Inv X pins σ (upd H a (DNo X.prog X.w a (storeK ks k b) (setN ks vs k x))) s' → Q () s') : wpAny (model X.prog X.w) A (setItem (.ref a) (.ref b) u) Q E s := by
  obtain ⟨h1, h2, us, rv, hl, hd⟩ := dn_rd I e hk
  have hn : (ks.map Prod.fst).Nodup := by
    obtain ⟨_, _, _, _, _, _, _, _, n⟩ := id hd
    rw [entN_fst hl] at n
    exact n
  have hle : (entN ks us).length = ks.length := by
    unfold entN
    rw [List.length_map, List.length_zip, ← hl, Nat.min_self]
  refine wpAny_setItem_heap (knd := nestedKind X.prog X.w) (hsz := by rw [hle]; exact h2) (by show A.units + 1 + 8 < cLine; omega) ⟨key_nested I kb _ rfl, kd⟩ hd fun h' hd' hs => q _ ?_
  rw [stored_entN hl hn] at hd'
  have hls : (storeK ks k b).length ≤ sizeLine := by
    unfold storeK
    rw [sizeLine_eq]
    split
    · omega
    · rw [List.length_append, List.length_singleton]; omega
  have he : ∃ o, h'.get? a = some o := let ⟨o, _, _, ho, _⟩ := hd'; ⟨o, ho⟩
  exact I.write (x := a) (e := a) (by rw [e]; exact True.intro) (.inl rfl) (fun c o hc z => (hs.2 c hc).trans z) he (dn_ok h1 hls (vals_setN r rv) (setN_len hl) hd')
end
end L2.Mi

/-! dicts with nested keys, as cells: {} ; what a key is; asked, read -/
namespace L2.Mi
open PySem PySem.Spec PyProof.Rows L2
section
variable {X : Cx} {W : WX} {pos : Pos}
theorem dn_empty {P : Program} {w : World} {H : Hp} (h : Heap) (hb : sysModules < h.objs.size) : ObjOk P w H (h.push { cls := .type "dict", data := .dict #[] }) h.objs.size (DNo P w h.objs.size [] []) := by
  refine dn_ok (ks := []) (vs := []) (us := []) ?_ (Nat.zero_le _) .nil rfl ?_
  · cases e : h.objs.size == sysModules with
    | false => rfl
    | true =>
      exact absurd (eq_of_beq e).symm (Nat.ne_of_lt hb)
  · have g : (h.push { cls := .type "dict", data := .dict #[] }).get? h.objs.size = some { cls := .type "dict", data := .dict #[] } := Heap.get?_push_size _ rfl
    exact ⟨_, _, _, g, by constructor <;> first | rfl | exact ⟨rfl, rfl⟩, rfl, rfl, (fun z q => by cases q), List.Pairwise.nil⟩
def tNewN (P : Program) (w : World) : TE := fun _ H Q => ∀ z, H z = none → Q (.ref z) (upd H z (DNo P w z [] []))
theorem pe_newN : PE X (.Dict [] [] pos) (tNewN X.prog X.w) := by
  refine ⟨fun pins s σ H Q I h => wpAny_Dict_empty ?_⟩
  have f := I.hok.fresh (a := s.heap.objs.size) (Nat.le_refl _)
  refine ⟨.ref _, upd H s.heap.objs.size (DNo X.prog X.w s.heap.objs.size [] []), ?_, rfl, h _ f⟩
  exact I.laid (t' := s.toks) (fun b o q => Heap.get?_push_of_some _ q) (Nat.le_refl _) (dn_empty s.heap I.big)
def mDictN0 (P : Program) (w : World) : ME := fun _ c => .ok (.ref c.length) (c ++ [.dN P w []])
theorem me_dictN0 (hl : allL = []) : PE X (.Dict [] [] pos) (rdE X.K W (mDictN0 X.prog X.w)) := PEi pe_newN fun σ H Q ⟨I, m, l, c, R, L, A⟩ z nz => by
  obtain ⟨R2, E2⟩ := R.pushC (o := DNo X.prog X.w z [] []) (x := .dN X.prog X.w []) nz ⟨R.same.free nz, ([], []), upd_same, rfl, .nil, (fun _ q => nomatch q), hl⟩
  refine A _ _ _ _ E2 R2 (.ref ?_)
  rw [← R.len, List.getElem?_append_right (Nat.le_refl _), Nat.sub_self]
  rfl
end
/-! what a key is -/
def nk0 : D → Option NestedKey
  | .int i => some (.num i)
  | .str s => some (.text s)
  | _ => none
def nks (f : D → Option NestedKey) : List D → Option (List NestedKey)
  | [] => some []
  | d :: ds => match f d, nks f ds with
    | some k, some ks => some (k :: ks)
    | _, _ => none
def nkT (f : D → Option NestedKey) : D → Option NestedKey
  | .tup ds => if keyish ds = true then (nks f ds).map .tup else none
  | d => nk0 d
def nk1 : D → Option NestedKey := nkT nk0
def nk2 : D → Option NestedKey := nkT nk1
section
variable {K : PySem.W.Frag} {I : Hp} {m : List Addr}
theorem rep_nk0 {v : V} {d : D} {k : NestedKey} (r : Rep K I m v d) (h : nk0 d = some k) : KeyIs I k v := by
  cases r with
  | int i => cases h; exact .num i
  | str s => cases h; exact .text s
  | _ => cases h
theorem rep_nks {f : D → Option NestedKey} (hf : ∀ {v : V} {d : D} {k : NestedKey}, Rep K I m v d → f d = some k → KeyIs I k v) : ∀ {vs : List V} {ds : List D} {ks : List NestedKey}, Reps K I m vs ds → nks f ds = some ks → Paired (KeyIs I) ks vs
  | _, _, _, .nil, h => by cases h; exact .nil
  | _, d :: ds, _, .cons r t, h => by
    unfold nks at h
    cases e1 : f d with
    | none => rw [e1] at h; cases h
    | some k =>
      cases e2 : nks f ds with
      | none => rw [e1, e2] at h; cases h
      | some ks =>
        rw [e1, e2] at h
        cases h
        exact .cons (hf r e1) (rep_nks hf t e2)
theorem rep_nkT {f : D → Option NestedKey} (hf : ∀ {v : V} {d : D} {k : NestedKey}, Rep K I m v d → f d = some k → KeyIs I k v) {v : V} {d : D} {k : NestedKey} (r : Rep K I m v d) (h : nkT f d = some k) : KeyIs I k v := by
  cases r with
  | int i => cases h; exact .num i
  | str s => cases h; exact .text s
  | @tup a vs ds hs rs x =>
    unfold nkT at h
    by_cases hk : keyish ds = true
    · have h : (if keyish ds = true then (nks f ds).map NestedKey.tup else none) = some k := h
      rw [if_pos hk] at h
      obtain ⟨ks, e, rfl⟩ := Option.map_eq_some_iff.mp h
      have x := x.resolve_right fun z => by rw [hk] at z; cases z
      have p := rep_nks hf rs e
      cases p with
      | nil => exact .tup0 x
      | cons p1 p2 => exact .tup x (.cons p1 p2)
    · have h : (if keyish ds = true then (nks f ds).map NestedKey.tup else none) = some k := h
      rw [if_neg hk] at h
      cases h
  | _ => cases h
theorem rep_nk2 {v : V} {d : D} {k : NestedKey} (r : Rep K I m v d) (h : nk2 d = some k) : KeyIs I k v := rep_nkT (fun r h => rep_nkT rep_nk0 r h) r h
end
end L2.Mi

/-! dicts with nested keys, as cells: key in d, d[key], d[key] = v -/
namespace L2.Mi
open PySem PySem.Spec PyProof.Rows L2
theorem nk0_depth {d : D} {k : NestedKey} (h : nk0 d = some k) : k.depth ≤ 1 := by
  cases d <;> first | (cases h; simp [NestedKey.depth]) | cases h
theorem nks_depth {f : D → Option NestedKey} {n : Nat} (hf : ∀ {d : D} {k : NestedKey}, f d = some k → k.depth ≤ n) : ∀ {ds : List D} {ks : List NestedKey}, nks f ds = some ks → NestedKey.depthAll ks ≤ n
  | [], _, h => by cases h; simp [NestedKey.depthAll]
  | d :: ds, _, h => by
    unfold nks at h
    cases e1 : f d with
    | none => rw [e1] at h; cases h
    | some k =>
      cases e2 : nks f ds with
      | none => rw [e1, e2] at h; cases h
      | some ks =>
        rw [e1, e2] at h
        cases h
        have a := hf e1
        have b := nks_depth hf e2
        simp only [NestedKey.depthAll]
        omega
theorem nkT_depth {f : D → Option NestedKey} {n : Nat} (hf : ∀ {d : D} {k : NestedKey}, f d = some k → k.depth ≤ n) {d : D} {k : NestedKey} (h : nkT f d = some k) : k.depth ≤ n + 1 := by
  unfold nkT at h
  split at h
  · rename_i ds
    split at h
    · obtain ⟨ks, e, rfl⟩ := Option.map_eq_some_iff.mp h
      have := nks_depth hf e
      simp only [NestedKey.depth]
      omega
    · cases h
  · have := nk0_depth h
    omega
theorem nk2_depth {d : D} {k : NestedKey} (h : nk2 d = some k) : k.depth ≤ 8 := Nat.le_trans (nkT_depth (n := 2) (fun h => nkT_depth nk0_depth h) h) (by decide)
/-- a key is a tuple here -/
def nkey : D → Option NestedKey
  | .tup ds => nk2 (.tup ds)
  | _ => none
theorem rep_nkey {K : PySem.W.Frag} {I : Hp} {m : List Addr} {v : V} {d : D} {k : NestedKey} (r : Rep K I m v d) (h : nkey d = some k) : ∃ b, v = .ref b ∧ KeyIs I k (.ref b) ∧ k.depth ≤ 8 := by
  have h2 : nk2 d = some k := by
    unfold nkey at h
    split at h
    · exact h
    · cases h
  cases r with
  | tup hs rs x => exact ⟨_, rfl, rep_nk2 (.tup hs rs x) h2, nk2_depth h2⟩
  | _ => cases h
open Classical in
noncomputable def dctN (P : Program) (w : World) (x : D) (c : Cs) : Option (List (NestedKey × D)) := match x with
  | .ref k => match c[k]? with
    | some (.dN P0 w0 ds) => if P0 = P ∧ w0 = w then some ds else none
    | _ => none
  | _ => none
theorem dctN_of {P : Program} {w : World} {k : Nat} {c : Cs} {ds : List (NestedKey × D)} (h : c[k]? = some (.dN P w ds)) : dctN P w (.ref k) c = some ds := by
  unfold dctN
  simp [h]
open Classical in
theorem dctN_at {K : PySem.W.Frag} {I H : Hp} {m : List Addr} {c : Cs} {v : V} {x : D} {P : Program} {w : World} {ds : List (NestedKey × D)} (R : Rel K I H m c) (p : Rep K I m v x) (h : dctN P w x c = some ds) :
    ∃ k a kv, x = .ref k ∧ m[k]? = some a ∧ c[k]? = some (.dN P w ds) ∧ v = .ref a ∧ H a = some (DNo P w a kv.1 kv.2) ∧ RepN K I m kv ds ∧ I a = none := by
  cases p with
  | @ref k a hk =>
    unfold dctN at h
    cases q : c[k]? with
    | none => simp only [q] at h; cases h
    | some y =>
      simp only [q] at h
      cases y with
      | dN P0 w0 es =>
        have h : (if P0 = P ∧ w0 = w then some es else none) = some ds := h
        by_cases e : P0 = P ∧ w0 = w
        · rw [if_pos e] at h
          cases h
          obtain ⟨rfl, rfl⟩ := e
          obtain ⟨n1, kv, h1, h2⟩ := R.cell k a _ hk q
          exact ⟨k, a, kv, rfl, hk, q, rfl, h1, h2, n1⟩
        · rw [if_neg e] at h
          cases h
      | _ => cases h
  | _ => cases h
theorem RepN.keys {K : PySem.W.Frag} {I H : Hp} {m : List Addr} {kv : List (NestedKey × Addr) × List V} {ds : List (NestedKey × D)} (r : RepN K I m kv ds) (s : Same I H) : KeysOk H kv.1 := fun q hq => ⟨(r.2.2.1 q hq).1.mono s, (r.2.2.1 q hq).2⟩
noncomputable def inN (P : Program) (w : World) (neg : Bool) (x y : D) (c : Cs) : R D := match nkey x, dctN P w y c with
  | some k, some ds => .ok (.bl (sgn neg (decide (k ∈ ds.map Prod.fst)))) c
  | _, _ => .stuck
theorem os_inN {K : PySem.W.Frag} {P : Program} {w : World} {neg : Bool} : OpS K (rInN P w neg) (inN P w neg) := fun I H m c v1 v2 d1 d2 W Q R p1 p2 A => by
  unfold inN at A
  cases e1 : nkey d1 with
  | none => rw [e1] at A; exact A.elim
  | some k =>
    cases e2 : dctN P w d2 c with
    | none => rw [e1, e2] at A; exact A.elim
    | some ds =>
      rw [e1, e2] at A
      have A : After (rD K) K I m H W Q (.ok (.bl (sgn neg (decide (k ∈ ds.map Prod.fst)))) c) := A
      obtain ⟨b, rfl, kb, kd⟩ := rep_nkey p1 e1
      obtain ⟨_, a, kv, rfl, _, _, rfl, hH, rn, _⟩ := dctN_at R p2 e2
      refine ⟨b, a, kv.1, kv.2, k, rfl, rfl, hH, rn.keys R.same, kb.mono R.same, kd, ?_⟩
      rw [rn.1]
      have : (if neg = true then !decide (k ∈ ds.map Prod.fst) else decide (k ∈ ds.map Prod.fst)) = sgn neg (decide (k ∈ ds.map Prod.fst)) := by
        cases neg <;> rfl
      rw [this]
      exact A.here R (.bl _)
def getNd : List (NestedKey × D) → NestedKey → Option D
  | q :: ds, k => if q.1 = k then some q.2 else getNd ds k
  | [], _ => none
theorem getNd_at {K : PySem.W.Frag} {I : Hp} {m : List Addr} {k : NestedKey} {d : D} : ∀ {ds : List (NestedKey × D)} {ks : List (NestedKey × Addr)} {vs : List V}, ks.map Prod.fst = ds.map Prod.fst → Reps K I m vs (ds.map Prod.snd) → getNd ds k = some d → ∃ x, valN ks vs k = some x ∧ Rep K I m x d
  | [], _, _, _, _, h => by cases h
  | q :: ds, [], _, e, _, _ => by cases e
  | q :: ds, p :: ks, _, e, .cons (v := x) (vs := vs) r t, h => by
    have e1 : p.1 = q.1 := (List.cons.inj e).1
    have h : (if q.1 = k then some q.2 else getNd ds k) = some d := h
    show ∃ z, (if p.1 = k then some x else valN ks vs k) = some z ∧ Rep K I m z d
    rw [e1]
    by_cases c : q.1 = k
    · rw [if_pos c] at h ⊢
      cases h
      exact ⟨_, rfl, r⟩
    · rw [if_neg c] at h ⊢
      exact getNd_at (List.cons.inj e).2 t h
noncomputable def getN (P : Program) (w : World) (x y : D) (c : Cs) : R D := match nkey y, dctN P w x c with
  | some k, some ds => match getNd ds k with
    | some d => .ok d c
    | none => .stuck
  | _, _ => .stuck
section
variable {X : Cx} {W : WX} {o i : Expr} {fo fi : ME} {pos : Pos}
theorem me_getN (hu : X.A.units + 64 < cLine) (ho : PE X o (rdE X.K W fo)) (hi : PE X i (rdE X.K W fi)) (hs : NoSl i) : PE X (.Subscript o i pos) (rdE X.K W (mOp (getN X.prog X.w) fo fi)) := by
  refine ⟨fun pins s σ H Q J ⟨I, m, l, c, R, L, A⟩ => ?_⟩
  refine subD_of PySem.F.slot_dict_getitem.lookup hs (thn (ho.run pins s σ H _ J ⟨I, m, l, c, R, L, After.mono (After.bind (rep := rD X.K) A) fun v1 H1 z => z⟩) fun u1 s1 ⟨v1, H1, J1, r1, ⟨I1, m1, c1, d1, E1, R1, p1, A1⟩⟩ => ?_)
  refine thn (hi.run pins s1 σ H1 _ J1 ⟨I1, m1, l, c1, R1, L.ext E1, After.mono (After.bind (rep := rD X.K) A1) fun v2 H2 z => z⟩) fun u2 s2 ⟨v2, H2, J2, r2, ⟨I2, m2, c2, d2, E2, R2, p2, A2⟩⟩ => ?_
  have p1 := Rep.ext p1 E2
  have A2 : After (rD X.K) X.K I2 m2 H2 (fun cls dd H' => W cls dd σ H') Q (getN X.prog X.w d1 d2 c2) := A2
  unfold getN at A2
  cases e1 : nkey d2 with
  | none => rw [e1] at A2; exact A2.elim
  | some k =>
    cases e2 : dctN X.prog X.w d1 c2 with
    | none => rw [e1, e2] at A2; exact A2.elim
    | some ds =>
      rw [e1, e2] at A2
      have A2 : After (rD X.K) X.K I2 m2 H2 (fun cls dd H' => W cls dd σ H') Q (match getNd ds k with
        | some d => .ok d c2
        | none => .stuck) := A2
      cases e3 : getNd ds k with
      | none => rw [e3] at A2; exact A2.elim
      | some d =>
        rw [e3] at A2
        have A9 : After (rD X.K) X.K I2 m2 H2 (fun cls dd H' => W cls dd σ H') Q (.ok d c2) := A2
        obtain ⟨b, rfl, kb, kd⟩ := rep_nkey p2 e1
        obtain ⟨_, a, kv, rfl, _, _, rfl, hH, rn, _⟩ := dctN_at R2 p1 e2
        obtain ⟨x, hx, rx⟩ := getNd_at rn.1 rn.2.1 e3
        obtain rfl : u1 = Value.ref a := r1
        obtain rfl : u2 = Value.ref b := r2
        have ks := rn.keys R2.same
        obtain ⟨_, _, us, _, _, hd⟩ := dn_rd J2 hH ks
        exact ⟨hd.typeIs, dn_get hu J2 hH ks (kb.mono R2.same) kd hx fun u t ru It => ⟨x, H2, It, ru, A9.here R2 rx⟩⟩
end
/-! written -/
def putNd : List (NestedKey × D) → NestedKey → D → List (NestedKey × D)
  | q :: ds, k, d => if q.1 = k then (q.1, d) :: ds else q :: putNd ds k d
  | [], k, d => [(k, d)]
theorem putNd_fst {k : NestedKey} {d : D} : ∀ {ds : List (NestedKey × D)}, (putNd ds k d).map Prod.fst = if k ∈ ds.map Prod.fst then ds.map Prod.fst else ds.map Prod.fst ++ [k]
  | [] => rfl
  | q :: ds => by
    have ih := putNd_fst (k := k) (d := d) (ds := ds)
    show (if q.1 = k then (q.1, d) :: ds else q :: putNd ds k d).map Prod.fst = _
    by_cases e : q.1 = k
    · rw [if_pos e, if_pos (by rw [List.map_cons, e]; exact List.mem_cons_self)]
      rfl
    · have e2 : ¬ k = q.1 := fun z => e z.symm
      rw [if_neg e, List.map_cons, List.map_cons, ih]
      by_cases h : k ∈ ds.map Prod.fst
      · rw [if_pos h, if_pos (List.mem_cons_of_mem _ h)]
      · rw [if_neg h, if_neg (fun z => h ((List.mem_cons.mp z).resolve_left e2))]
        rfl
section
variable {K : PySem.W.Frag} {I H : Hp} {m : List Addr} {c : Cs}
theorem putNd_snd {k : NestedKey} {d : D} {v : V} (r : Rep K I m v d) : ∀ {ds : List (NestedKey × D)} {ks : List (NestedKey × Addr)} {vs : List V}, ks.map Prod.fst = ds.map Prod.fst → Reps K I m vs (ds.map Prod.snd) → Reps K I m (setN ks vs k v) ((putNd ds k d).map Prod.snd)
  | [], [], _, _, _ => .cons r .nil
  | [], _ :: _, _, e, _ => by cases e
  | q :: ds, [], _, e, _ => by cases e
  | q :: ds, p :: ks, _, e, .cons (v := x) (vs := vs) r1 t => by
    have e1 : p.1 = q.1 := (List.cons.inj e).1
    show Reps K I m (if p.1 = k then v :: vs else x :: setN ks vs k v) ((if q.1 = k then (q.1, d) :: ds else q :: putNd ds k d).map Prod.snd)
    rw [e1]
    by_cases z : q.1 = k
    · rw [if_pos z, if_pos z]
      exact .cons r t
    · rw [if_neg z, if_neg z]
      exact .cons r1 (putNd_snd r (List.cons.inj e).2 t)
theorem RepN.put {kv : List (NestedKey × Addr) × List V} {ds : List (NestedKey × D)} {k : NestedKey} {b : Addr} {v : V} {d : D} (r : RepN K I m kv ds) (kb : KeyIs I k (.ref b)) (kd : k.depth ≤ 8) (p : Rep K I m v d) : RepN K I m (storeK kv.1 k b, setN kv.1 kv.2 k v) (putNd ds k d) := by
  refine ⟨?_, putNd_snd p r.1 r.2.1, fun q hq => ?_, r.2.2.2⟩
  · rw [putNd_fst, ← r.1]
    show (storeK kv.1 k b).map Prod.fst = _
    unfold storeK
    split
    · rfl
    · rw [List.map_append]
      rfl
  · have hq : q ∈ storeK kv.1 k b := hq
    unfold storeK at hq
    split at hq
    · exact r.2.2.1 q hq
    · rcases List.mem_append.mp hq with z | z
      · exact r.2.2.1 q z
      · rw [List.mem_singleton.mp z]
        exact ⟨kb, kd⟩
theorem Tb.putN (t : Tb I H m) {a : Addr} {g : Heap → Prop} {o : HO} (h : H a = some (.ext g)) (hl : allL = []) : Tb I (upd H a o) m := by
  refine ⟨fun T hT => ?_, fun q hq => absurd hl (allL_ne hq)⟩
  obtain ⟨⟨ps, h1, h2⟩, h3⟩ := t.g T hT
  have n : T ≠ a := fun e => by
    rw [e, h] at h1
    cases h1
  exact ⟨⟨ps, by rw [upd_ne n]; exact h1, h2⟩, h3⟩
theorem Rel.putN {P : Program} {w : World} (r : Rel K I H m c) {k : Nat} {a : Addr} {kv : List (NestedKey × Addr) × List V} {ds ds0 : List (NestedKey × D)} (hm : m[k]? = some a) (hc : c[k]? = some (.dN P w ds0)) (q : RepN K I m kv ds) :
    Rel K I (upd H a (DNo P w a kv.1 kv.2)) m (c.set k (.dN P w ds)) ∧ Ext I m H I m (upd H a (DNo P w a kv.1 kv.2)) := by
  obtain ⟨n1, ws, n2, n3⟩ := r.cell k a _ hm hc
  refine ⟨⟨fun b o e => ?_, by simp [r.len], r.nd, fun j b x h1 h2 => ?_, r.tabs.putN n2 n3.2.2.2⟩, Same.refl I, Pre.refl m, fun b o h1 hT h2 h3 => ⟨?_, h2, h3⟩⟩
  · rw [upd_ne (ne_of_none e n1)]
    exact r.same _ _ e
  · by_cases hj : k = j
    · subst hj
      rw [List.getElem?_set_self (List.getElem?_eq_some_iff.mp hc).1] at h2
      rw [hm] at h1
      cases h1; cases h2
      exact ⟨n1, kv, upd_same, q⟩
    · rw [List.getElem?_set_ne hj] at h2
      have nb : b ≠ a := fun e => hj (r.nd k j a hm (e ▸ h1))
      have y := r.cell j b x h1 h2
      cases x with
      | lst es => exact ⟨y.1, y.2.imp fun _ z => ⟨by rw [upd_ne nb]; exact z.1, z.2⟩⟩
      | dct es => exact ⟨y.1, y.2.imp fun _ z => ⟨by rw [upd_ne nb]; exact z.1, z.2⟩⟩
      | dT es => exact ⟨y.1, y.2.imp fun _ z => ⟨by rw [upd_ne nb]; exact z.1, z.2⟩⟩
      | dN P1 w1 es => exact ⟨y.1, y.2.imp fun _ z => ⟨by rw [upd_ne nb]; exact z.1, z.2⟩⟩
      | dTz es => exact y
      | ins C es =>
        obtain ⟨y1, dx, ws2, y2, y3, y4, y5, y6⟩ := y
        have nd : dx ≠ a := ne_of y4 n2 (by unfold DNo; intro z; cases z)
        exact ⟨y1, dx, ws2, y2, y3, by rw [upd_ne nd]; exact y4, y5.imp fun _ z => ⟨z.1, by rw [upd_ne nb]; exact z.2⟩, y6⟩
      | frz d => exact y
  · rw [upd_ne (fun (e : b = a) => h3 (by rw [e]; exact List.mem_of_getElem? hm))]
    exact h1
end
end L2.Mi

/-! dicts with nested keys, as cells: d[key] = v -/
namespace L2.Mi
open PySem PySem.Spec PyProof.Rows L2
def rSetN (P : Program) (w : World) : TSet := fun o i v H Q => ∃ b a ks vs k, o = .ref a ∧ i = .ref b ∧ H a = some (DNo P w a ks vs) ∧ KeysOk H ks ∧ ks.length < 10000 ∧ KeyIs H k (.ref b) ∧ k.depth ≤ 8 ∧ Q (upd H a (DNo P w a (storeK ks k b) (setN ks vs k v)))
noncomputable def putNR (P : Program) (w : World) (x y d : D) (c : Cs) : R Unit := match nkey y, dctN P w x c, x with
  | some k, some ds, .ref j => if ds.length < 10000 then .ok () (c.set j (.dN P w (putNd ds k d))) else .stuck
  | _, _, _ => .stuck
noncomputable def gSN (P : Program) (w : World) (o i : ME) : MG := fun d l c => (o l c).bind fun x c1 => (i l c1).bind fun y c2 => (putNR P w x y d c2).bind fun _ c3 => .ok l c3
theorem RepN.length {K : PySem.W.Frag} {I : Hp} {m : List Addr} {kv : List (NestedKey × Addr) × List V} {ds : List (NestedKey × D)} (r : RepN K I m kv ds) : kv.1.length = ds.length := by
  have := congrArg List.length r.1
  simpa using this
section
variable {X : Cx} {W : WX} {o i : Expr} {fo fi : ME} {pos : Pos}
theorem set_N (hu : X.A.units + 64 < cLine) : PSet X (rSetN X.prog X.w) := by
  intro pins s σ H o i v ov iv u Q I ro ri rv h
  obtain ⟨b, a, ks, vs, k, rfl, rfl, e, hk, hz, kb, kd, q⟩ := h
  obtain rfl : ov = Value.ref a := ro
  obtain rfl : iv = Value.ref b := ri
  exact dn_set hu I e hk hz kb kd rv fun s' I' => ⟨_, I', q⟩
theorem mg_subN {tg : Expr} (h : PG X tg (gSub (rdE X.K W fo) (rdE X.K W fi) (rSetN X.prog X.w))) : PG X tg (rdG X.K W (gSN X.prog X.w fo fi)) :=
  PGi h fun v σ H Q ⟨I, m, l, c, d, R, L, p, A⟩ => by
    refine ⟨I, m, l, c, R, L, After.mono (After.bind (rep := rD X.K) A) fun v1 H1 ⟨I1, m1, c1, d1, E1, R1, p1, A1⟩ => ?_⟩
    refine ⟨I1, m1, l, c1, R1, L.ext E1, After.mono (After.bind (rep := rD X.K) A1) fun v2 H2 ⟨I2, m2, c2, d2, E2, R2, p2, A2⟩ => ?_⟩
    have pd := Rep.ext (Rep.ext p E1) E2
    have L2 := (L.ext E1).ext E2
    have q1 := Rep.ext p1 E2
    have A2 : After (rL X.K) X.K I2 m2 H2 (fun cls dd H' => W cls dd σ H') Q ((putNR X.prog X.w d1 d2 d c2).bind fun _ c3 => .ok l c3) := A2
    unfold putNR at A2
    cases e1 : nkey d2 with
    | none => rw [e1] at A2; exact A2.elim
    | some k =>
      cases e2 : dctN X.prog X.w d1 c2 with
      | none => rw [e1, e2] at A2; exact A2.elim
      | some ds =>
        rw [e1, e2] at A2
        obtain ⟨b, rfl, kb, kd⟩ := rep_nkey p2 e1
        obtain ⟨j, a, kv, rfl, hm, hc, rfl, hH, rn, _⟩ := dctN_at R2 q1 e2
        have A2 : After (rL X.K) X.K I2 m2 H2 (fun cls dd H' => W cls dd σ H') Q ((if ds.length < 10000 then .ok () (c2.set j (.dN X.prog X.w (putNd ds k d))) else .stuck : Mi.R Unit).bind fun _ c3 => .ok l c3) := A2
        by_cases hz : ds.length < 10000
        · rw [if_pos hz] at A2
          refine ⟨b, a, kv.1, kv.2, k, rfl, rfl, hH, rn.keys R2.same, by rw [rn.length]; exact hz, kb.mono R2.same, kd, ?_⟩
          obtain ⟨R3, E3⟩ := R2.putN hm hc (rn.put kb kd pd)
          exact A2 I2 m2 _ σ E3 R3 (L2.ext E3)
        · rw [if_neg hz] at A2
          exact A2.elim
end
end L2.Mi

/-! any(t), t a tuple of whole numbers -/
namespace L2.Mi
open PySem PySem.Spec PyProof.Rows L2
theorem u64 {A : Around} {k : Nat} (hr : Room k A) : A.units + 64 < cLine := by have := hr.un; omega
def someI (ns : List Int) : Bool := ns.any fun i => i != 0
theorem someI_range : ∀ ns : List Int, (List.range ns.length).any (fun i => ns.getD i 0 != 0) = someI ns
  | [] => rfl
  | n :: ns => by
    have ih := someI_range ns
    rw [List.length_cons, List.range_succ_eq_map, List.any_cons, List.any_map]
    show (n != 0 || (List.range ns.length).any (fun i => ns.getD i 0 != 0)) = (n != 0 || someI ns)
    rw [ih]
section
variable {prog : Program} {w : World} {A : Around} {E : Value → Shared → Prop} {s : Shared} {l : Addr} {its : List Value} {ns : List Int} {Q : Value → Shared → Prop}
theorem anyT_raw (hh : A.handled = none) (hl : s.heap.IsTuple l its.toArray) (hi : IntsAre its ns)
    (h : ∀ h' tk, (∀ b o, s.heap.get? b = some o → h'.get? b = some o) → Q (.bool (someI ns)) { s with heap := h', toks := tk }) : wpAny (model prog w) A (call (.builtin "any") [.ref l]) Q E s := by
  obtain ⟨xs, e⟩ := hi.allInts.items
  have hn : numsOf (intItems xs).toList = ns := by rw [← e]; exact hi.numsOf
  rw [nums_intItems] at hn
  rw [e] at hl
  refine call_any_walk (PySem.iter_intTuple hl fun s₂ es st hfp hlI => ?_)
  subst es
  refine ⟨_, _, _, _, _, _, fun i => numAt xs i != 0, rfl, Walks.tuple (A := A.in1) hh _ l hlI (intItems xs), st, fun i v s Q E hv hq => ?_, fun h' tk hk => ?_⟩
  · obtain ⟨t, rfl⟩ := intItems_at hv
    exact truthy_int hq
  · have g := h h' tk (PySem.old_keptT hk)
    have e2 : (List.range (intItems xs).size).any (fun i => numAt xs i != 0) = someI ns := by
      rw [← someI_range, ← hn]
      have e3 : (intItems xs).size = (xs.toList.map (·.1)).length := by simp [intItems]
      rw [e3]
      refine congrArg _ (funext fun i => ?_)
      rw [numAt_eq]
    rw [e2]
    exact g
end
section
variable {X : Cx} {K : PySem.W.Frag}
def rAnyT (K : PySem.W.Frag) : List V → Hp → VK → Prop := fun vs H Q => ∃ (a : Addr) (ns : List Int), vs = [V.ref a] ∧ SqT K H a (ns.map V.int) ∧ Q (.bl (someI ns)) H
theorem cr_anyT (hc : X.calm = true) : CallR X (.builtin "any") (rAnyT X.K) := fun pins s σ H vs us Q I r h => by
  obtain ⟨a, ns, rfl, hs, q⟩ := h
  obtain ⟨its, rv, hl, _⟩ := I.tuple hs
  rw [Vals.ref1 r]
  exact anyT_raw (I.ok.hd hc) hl rv.ints fun h' tk hk => ⟨.bl _, H, I.kept hk, rfl, q⟩
def anyTP (d : D) (c : Cs) : R D := match d with
  | .tup ds => match intsOf ds with
    | some ns => .ok (.bl (someI ns)) c
    | none => .stuck
  | _ => .stuck
def anyTD : List D → Cs → R D := on1 anyTP
theorem cs_anyT : CallS K (rAnyT K) anyTD := fun I H m c vs ds W Q R p A => by
  obtain ⟨v, d, rfl, rfl, p, A⟩ := on1_arg p A
  cases p with
  | @tup a ws es hs r x =>
    have A2 : After (rD K) K I m H W Q (match intsOf es with
      | some ns => .ok (.bl (someI ns)) c
      | none => .stuck) := A
    cases q : intsOf es with
    | none => rw [q] at A2; exact A2.elim
    | some ns =>
      rw [q] at A2
      refine ⟨a, ns, rfl, ?_, A2.here R (.bl _)⟩
      rw [← ints_reps r q]
      exact sqT_same R.same hs
  | _ => exact A.elim
end
theorem ok_anyT {ns : List Int} {c : Cs} {Q : D → Cs → Prop} (h : Q (.bl (someI ns)) c) : Ok (anyTD [.tup (ns.map D.int)] c) Q :=
  ⟨_, _, by
    show (match intsOf (ns.map D.int) with
      | some ns => .ok (.bl (someI ns)) c
      | none => .stuck : Mi.R D) = _
    rw [intsOf_map], h⟩
end L2.Mi

namespace L2.Lw
open PySem PySem.Spec PyProof.Rows L2 L2.Mi
/-- the program and the world: their hashes stand in dicts with nested keys -/
class PWc where
  P : Program
  w : World
variable [pwI : PWc]
def top (i : Nat) : Stmt := PySem.Challenge.pw_weavegraph_k59_cloths_counted.main.body.getD i (.Pass ⟨0, 0, 0, 0⟩)
abbrev s_law_box : Stmt := top 25
abbrev s_law_cell : Stmt := top 24
abbrev s_law_take : Stmt := top 26
abbrev s_law_rows : Stmt := top 27
abbrev s_law_scores : Stmt := top 29
abbrev s_law_moved : Stmt := top 31
abbrev s_law_texts : Stmt := top 30
abbrev s_law_count : Stmt := top 32
abbrev s_law_mixed : Stmt := top 28
abbrev sis_sequence : Stmt := top 12
abbrev sneed_integers : Stmt := top 15
abbrev sis_integer : Stmt := top 11
abbrev sneed_range : Stmt := top 16
abbrev sScores____init__ : Stmt := inClass (top 17) 0
abbrev sneed_scores : Stmt := top 18
abbrev sScores__wefts : Stmt := inClass (top 17) 7
abbrev sScores__warps : Stmt := inClass (top 17) 6
abbrev sTally____init__ : Stmt := inClass (top 21) 0
abbrev sTally__next_rows : Stmt := inClass (top 21) 1
abbrev sTally__ways : Stmt := inClass (top 21) 2
abbrev sTally__many : Stmt := inClass (top 21) 3
abbrev scount_cloths : Stmt := top 22
abbrev slaw : Stmt := top 33
noncomputable def c_law_box : MS := sRet (mLstM (aCons (mCB max2 (aCons (mC (.int 0)) (aCons (mOp subD (mVar 0) (mOp powI (mC (.int 10)) (mC (.int 18)))) (aNil)))) (aCons (mOp modI (mVar 0) (mC (.int 2147483629))) (aCons (mC (.int 0)) (aNil)))))
noncomputable abbrev g_law_box : List D → Cs → R D := mFun 1 1 c_law_box
theorem sc_law_box : FnScope ["_law_cell_here"] ["_law_cell_here"] (defScope s_law_box) := ⟨rfl, rfl, rfl, by decide +kernel, rfl, by decide +kernel, by decide +kernel⟩
noncomputable def c_law_cell : MS := sSeq (sIf (mT (mOp ltD (mVar 1) (mCB lenD (aCons (mVar 0) (aNil))))) (sRet (mOp itemD (mVar 0) (mVar 1))) (sNil)) (sRet (mOp addD (mOp mulI (mC (.int 15486101)) (mVar 1)) (mC (.int 379))))
noncomputable abbrev g_law_cell : List D → Cs → R D := mFun 2 2 c_law_cell
theorem sc_law_cell : FnScope ["_law_script", "_law_k"] ["_law_script", "_law_k"] (defScope s_law_cell) := ⟨rfl, rfl, rfl, by decide +kernel, rfl, by decide +kernel, by decide +kernel⟩
noncomputable def c_law_take : MS := sSeq (sIf (mT (mOp gtD (mOp itemD (mVar 0) (mC (.int 0))) (mC (.int 0)))) (sSeq (sSet 3 (mOp modI (mOp itemD (mVar 0) (mC (.int 0))) (mVar 1))) (sSeq (sAsg (mOp divI (mOp itemD (mVar 0) (mC (.int 0))) (mVar 1)) (gS (mVar 0) (mC (.int 0)))) (sRet (mVar 3)))) (sNil)) (sSeq (sAsg (mOp addD (mOp itemD (mVar 0) (mC (.int 2))) (mC (.int 1))) (gS (mVar 0) (mC (.int 2)))) (sSeq (sSet 2 (mOp modI (mOp powI (mOp addD (mOp addD (mOp itemD (mVar 0) (mC (.int 1))) (mOp mulI (mC (.int 6551)) (mOp itemD (mVar 0) (mC (.int 2))))) (mC (.int 181))) (mC (.int 5))) (mC (.int 2147483647)))) (sSeq (sSet 2 (mOp modI (mOp powI (mOp addD (mVar 2) (mOp mulI (mC (.int 104729)) (mOp itemD (mVar 0) (mC (.int 2))))) (mC (.int 3))) (mC (.int 2147483587)))) (sRet (mOp modI (mOp divI (mVar 2) (mC (.int 16))) (mVar 1))))))
noncomputable abbrev g_law_take : List D → Cs → R D := mFun 4 2 c_law_take
theorem sc_law_take : FnScope ["_law_box_here", "_law_many", "_law_number", "_law_digit"] ["_law_box_here", "_law_many"] (defScope s_law_take) := ⟨rfl, rfl, rfl, by decide +kernel, rfl, by decide +kernel, by decide +kernel⟩
noncomputable def c_law_rows : MS := sSeq (sPar [4, 5, 6] (aCons (mCB g_law_take (aCons (mVar 0) (aCons (mC (.int 4)) (aNil)))) (aCons (mLc (iR1 (aCons (mOp addD (mVar 1) (mVar 2)) (aNil))) [10] (gN 10) (tYesM) (mCB g_law_take (aCons (mVar 0) (aCons (mC (.int 5)) (aNil))))) (aCons (mLstM (aNil)) (aNil))))) (sSeq (sFor (iR1 (aCons (mVar 2) (aNil))) (gN 3) (sSeq (sSet 7 (mC (.str ""))) (sSeq (sFor (iR1 (aCons (mVar 1) (aNil))) (gN 8) (sSeq (sSet 9 (mCB g_law_take (aCons (mVar 0) (aCons (mC (.int 2)) (aNil))))) (sSeq (sIf (tAndM (mT (mOp gtD (mVar 4) (mC (.int 0)))) (mT (mOp neX (mOp itemD (mVar 5) (mVar 8)) (mOp itemD (mVar 5) (mOp addD (mVar 1) (mVar 3)))))) (sSet 9 (mCB intFD (aCons (mOp gtD (mOp itemD (mVar 5) (mVar 8)) (mOp itemD (mVar 5) (mOp addD (mVar 1) (mVar 3)))) (aNil)))) (sNil)) (sSet 7 (mOp addD (mVar 7) (mOp itemD (mC (.str "01")) (mVar 9))))))) (sExpr (mBM appendD (mVar 6) (aCons (mVar 7) (aNil))))))) (sRet (mFrz (mVar 6))))
noncomputable abbrev g_law_rows : List D → Cs → R D := mFun 11 3 c_law_rows
theorem sc_law_rows : FnScope ["_law_box_here", "_law_warps", "_law_wefts", "_law_j", "_law_way", "_law_heights", "_law_rows_here", "_law_row", "_law_i", "_law_sign", "_law_k"] ["_law_box_here", "_law_warps", "_law_wefts"] (defScope s_law_rows) := ⟨rfl, rfl, rfl, by decide +kernel, rfl, by decide +kernel, by decide +kernel⟩
noncomputable def c_law_scores : MS := sSeq (sSet 1 (mLc (iR1 (aCons (mCB lenD (aCons (mOp itemD (mVar 0) (mC (.int 0))) (aNil))) (aNil))) [2] (gN 2) (tYesM) (mCB lenD (aCons (mLcW (kAny (mVar 0)) [3] (gN 3) (mT (mOp eqX (mOp itemD (mVar 3) (mVar 2)) (mC (.str "1")))) (mVar 3)) (aNil))))) (sRet (mTup (aCons (mVar 1) (aCons (mLcW (kAny (mVar 0)) [3] (gN 3) (tYesM) (mM1 countD (mVar 3) (mC (.str "0")))) (aNil)))))
noncomputable abbrev g_law_scores : List D → Cs → R D := mFun 4 1 c_law_scores
theorem sc_law_scores : FnScope ["_law_rows_here", "_law_warps", "_law_i", "_law_row"] ["_law_rows_here"] (defScope s_law_scores) := ⟨rfl, rfl, rfl, by decide +kernel, rfl, by decide +kernel, by decide +kernel⟩
noncomputable def c_law_moved : MS := sSeq (sSet 2 (mLst (aCons (mCB listM (aCons (mOp itemD (mVar 1) (mC (.int 0))) (aNil))) (aCons (mCB listM (aCons (mOp itemD (mVar 1) (mC (.int 1))) (aNil))) (aNil))))) (sSeq (sFor (iR1 (aCons (mCB g_law_take (aCons (mVar 0) (aCons (mC (.int 5)) (aNil)))) (aNil))) (gN 3) (sSeq (sPar [4, 5] (aCons (mCB g_law_take (aCons (mVar 0) (aCons (mC (.int 2)) (aNil)))) (aCons (mCB g_law_take (aCons (mVar 0) (aCons (mC (.int 2)) (aNil)))) (aNil)))) (sSeq (sPar [6, 7] (aCons (mCB g_law_take (aCons (mVar 0) (aCons (mCB lenD (aCons (mOp itemD (mVar 2) (mVar 4)) (aNil))) (aNil)))) (aCons (mCB g_law_take (aCons (mVar 0) (aCons (mCB lenD (aCons (mOp itemD (mVar 2) (mVar 5)) (aNil))) (aNil)))) (aNil)))) (sIf (tAndM (mT (mOp neX (mTup (aCons (mVar 4) (aCons (mVar 6) (aNil)))) (mTup (aCons (mVar 5) (aCons (mVar 7) (aNil)))))) (tAndM (mT (mOp gtD (mOp itemD (mOp itemD (mVar 2) (mVar 4)) (mVar 6)) (mC (.int 0)))) (mT (mOp ltD (mOp itemD (mOp itemD (mVar 2) (mVar 5)) (mVar 7)) (mCB lenD (aCons (mOp itemD (mVar 2) (mOp subD (mC (.int 1)) (mVar 5))) (aNil))))))) (sSeq (sAsg (mOp subD (mOp itemD (mOp itemD (mVar 2) (mVar 4)) (mVar 6)) (mC (.int 1))) (gS (mOp itemD (mVar 2) (mVar 4)) (mVar 6))) (sAsg (mOp addD (mOp itemD (mOp itemD (mVar 2) (mVar 5)) (mVar 7)) (mC (.int 1))) (gS (mOp itemD (mVar 2) (mVar 5)) (mVar 7)))) (sNil))))) (sRet (mTup (aCons (mFrz (mOp itemD (mVar 2) (mC (.int 0)))) (aCons (mFrz (mOp itemD (mVar 2) (mC (.int 1)))) (aNil))))))
noncomputable abbrev g_law_moved : List D → Cs → R D := mFun 8 2 c_law_moved
theorem sc_law_moved : FnScope ["_law_box_here", "_law_lists", "_law_sides", "_law_turn", "_law_one", "_law_other", "_law_at", "_law_to"] ["_law_box_here", "_law_lists"] (defScope s_law_moved) := ⟨rfl, rfl, rfl, by decide +kernel, rfl, by decide +kernel, by decide +kernel⟩
noncomputable def c_law_texts : MS := sSeq (sSet 1 (mLst (aCons (mC (.str "")) (aNil)))) (sSeq (sFor (iR1 (aCons (mVar 0) (aNil))) (gN 2) (sSeq (sSet 3 (mLstM (aNil))) (sSeq (sForW (kAny (mVar 1)) (gN 4) (sExpr (mBM extendD (mVar 3) (aCons (mLst (aCons (mOp addD (mVar 4) (mC (.str "0"))) (aCons (mOp addD (mVar 4) (mC (.str "1"))) (aNil)))) (aNil))))) (sSet 1 (mFrz (mVar 3)))))) (sRet (mVar 1)))
noncomputable abbrev g_law_texts : List D → Cs → R D := mFun 5 1 c_law_texts
theorem sc_law_texts : FnScope ["_law_width", "_law_found", "_law_k", "_law_longer", "_law_text"] ["_law_width"] (defScope s_law_texts) := ⟨rfl, rfl, rfl, by decide +kernel, rfl, by decide +kernel, by decide +kernel⟩
noncomputable def c_law_count : MS := sSeq (sPar [2, 3] (aCons (mCB lenD (aCons (mOp itemD (mVar 0) (mC (.int 0))) (aNil))) (aCons (mDictT1 (mCB tupleD (aCons (mCB sortY (aCons (mOp itemD (mVar 0) (mC (.int 0))) (aNil))) (aNil))) (mC (.int 1))) (aNil)))) (sSeq (sForW (kAny (mOp itemD (mVar 0) (mC (.int 1)))) (gN 1) (sSeq (sSet 4 (mLc (iLst (mCB g_law_texts (aCons (mVar 2) (aNil)))) [8] (gN 8) (mT (mOp eqX (mM1 countD (mVar 8) (mC (.str "0"))) (mVar 1))) (mVar 8))) (sSeq (sSet 5 (mDictT0)) (sSeq (sLk (mVar 3) (sForW (kItemsTK (mVar 3)) (gT [6, 7]) (sForW (kAny (mVar 4)) (gN 8) (sSeq (sSet 9 (mCB tupleD (aCons (mCB sortY (aCons (mLcW (kZip (aCons (mVar 6) (aCons (mVar 8) (aNil)))) [10, 11] (gT [10, 11]) (tYesM) (mOp subD (mVar 10) (mCB intFD (aCons (mOp eqX (mVar 11) (mC (.str "1"))) (aNil))))) (aNil))) (aNil)))) (sIf (mT (mOp geD (mOp itemD (mVar 9) (mC (.int 0))) (mC (.int 0)))) (sAsg (mOp addD (mDGet2 (mVar 5) (mVar 9) (mC (.int 0))) (mVar 7)) (gST (mVar 5) (mVar 9))) (sNil)))))) (sSet 3 (mVar 5)))))) (sRet (mDGet2 (mVar 3) (mOp repTD (mTup (aCons (mC (.int 0)) (aNil))) (mVar 2)) (mC (.int 0)))))
noncomputable abbrev g_law_count : List D → Cs → R D := mFun 12 1 c_law_count
theorem sc_law_count : FnScope ["_law_lists", "_law_score", "_law_width", "_law_known", "_law_fit", "_law_later", "_law_lacks", "_law_many", "_law_text", "_law_rest", "_law_lack", "_law_sign"] ["_law_lists"] (defScope s_law_count) := ⟨rfl, rfl, rfl, by decide +kernel, rfl, by decide +kernel, by decide +kernel⟩
noncomputable def c_law_mixed : MS := sSeq (sSet 2 (mCB listM (aCons (mVar 1) (aNil)))) (sRet (mLc (iR1 (aCons (mCB lenD (aCons (mVar 1) (aNil))) (aNil))) [3] (gN 3) (tYesM) (mBM (mutM popAtF) (mVar 2) (aCons (mCB g_law_take (aCons (mVar 0) (aCons (mCB lenD (aCons (mVar 2) (aNil))) (aNil)))) (aNil)))))
noncomputable abbrev g_law_mixed : List D → Cs → R D := mFun 4 2 c_law_mixed
theorem sc_law_mixed : FnScope ["_law_box_here", "_law_some", "_law_left", "_law_k"] ["_law_box_here", "_law_some"] (defScope s_law_mixed) := ⟨rfl, rfl, rfl, by decide +kernel, rfl, by decide +kernel, by decide +kernel⟩
noncomputable def cis_sequence : MS := sRet (mCB isiD (aCons (mVar 0) (aCons (mTup (aCons (mC (.ty "list")) (aCons (mC (.ty "tuple")) (aNil)))) (aNil))))
noncomputable abbrev gis_sequence : List D → Cs → R D := mFun 1 1 cis_sequence
theorem scis_sequence : FnScope ["value"] ["value"] (defScope sis_sequence) := ⟨rfl, rfl, rfl, by decide +kernel, rfl, by decide +kernel, by decide +kernel⟩
noncomputable def cneed_integers : MS := sSeq (sIf (tOrM (tNotM (mT (mCB gis_sequence (aCons (mVar 0) (aNil))))) (tNotM (mT (mChain leD leD (mC (.int 1)) (mCB lenD (aCons (mVar 0) (aNil))) (mC (.int 8)))))) (sCut) (sNil)) (sIf (tNotM (mT (mCB allD (aCons (mLcW (kAny (mVar 0)) [1] (gN 1) (tYesM) (mAnd (mCB isiD (aCons (mVar 1) (aCons (mC (.ty "int")) (aNil)))) (mNot (mCB isiD (aCons (mVar 1) (aCons (mC (.ty "bool")) (aNil))))))) (aNil))))) (sCut) (sNil))
noncomputable abbrev gneed_integers : List D → Cs → R D := mFun 2 1 cneed_integers
theorem scneed_integers : FnScope ["value", "score"] ["value"] (defScope sneed_integers) := ⟨rfl, rfl, rfl, by decide +kernel, rfl, by decide +kernel, by decide +kernel⟩
noncomputable def cis_integer : MS := sRet (mAnd (mCB isiD (aCons (mVar 0) (aCons (mC (.ty "int")) (aNil)))) (mAnd (mNot (mCB isiD (aCons (mVar 0) (aCons (mC (.ty "bool")) (aNil))))) (mChain leD leD (mVar 1) (mVar 0) (mVar 2))))
noncomputable abbrev gis_integer : List D → Cs → R D := mFun 3 3 cis_integer
theorem scis_integer : FnScope ["value", "low", "high"] ["value", "low", "high"] (defScope sis_integer) := ⟨rfl, rfl, rfl, by decide +kernel, rfl, by decide +kernel, by decide +kernel⟩
noncomputable def cneed_range : MS := sIf (tNotM (mT (mCB allD (aCons (mLcW (kAny (mVar 0)) [2] (gN 2) (tYesM) (mCB gis_integer (aCons (mVar 2) (aCons (mC (.int 0)) (aCons (mVar 1) (aNil)))))) (aNil))))) (sCut) (sNil)
noncomputable abbrev gneed_range : List D → Cs → R D := mFun 3 2 cneed_range
theorem scneed_range : FnScope ["value", "high", "score"] ["value", "high"] (defScope sneed_range) := ⟨rfl, rfl, rfl, by decide +kernel, rfl, by decide +kernel, by decide +kernel⟩
noncomputable def cScores____init__ : MS := sSeq (sExpr (mCB gneed_integers (aCons (mVar 1) (aNil)))) (sSeq (sExpr (mCB gneed_integers (aCons (mVar 2) (aNil)))) (sSeq (sExpr (mCB gneed_range (aCons (mVar 1) (aCons (mCB lenD (aCons (mVar 2) (aNil))) (aNil))))) (sSeq (sExpr (mCB gneed_range (aCons (mVar 2) (aCons (mCB lenD (aCons (mVar 1) (aNil))) (aNil))))) (sSeq (sIfNm 3 neX (mOp addD (mCB sumY (aCons (mVar 1) (aNil))) (mCB sumY (aCons (mVar 2) (aNil)))) (mOp mulI (mCB lenD (aCons (mVar 1) (aNil))) (mCB lenD (aCons (mVar 2) (aNil)))) (sCut) (sNil)) (sFldM ["Scores"] "kept_scores" (mVar 0) (mDict (dCons (mC (.str "warp")) (mCB listD (aCons (mVar 1) (aNil))) (dCons (mC (.str "weft")) (mCB listD (aCons (mVar 2) (aNil))) (dNil)))))))))
noncomputable abbrev gScores____init__ : List D → Cs → R D := mFun 4 3 cScores____init__
theorem scScores____init__ : FnScope ["self", "warps", "wefts", "total"] ["self", "warps", "wefts"] (defScope sScores____init__) := ⟨rfl, rfl, rfl, by decide +kernel, rfl, by decide +kernel, by decide +kernel⟩
noncomputable def cneed_scores : MS := sIf (tNotM (mT (mIso "Scores" ["Scores", "Tally"] (mVar 0)))) (sCut) (sNil)
noncomputable abbrev gneed_scores : List D → Cs → R D := mFun 1 1 cneed_scores
theorem scneed_scores : FnScope ["value"] ["value"] (defScope sneed_scores) := ⟨rfl, rfl, rfl, by decide +kernel, rfl, by decide +kernel, by decide +kernel⟩
noncomputable def cScores__wefts : MS := sRet (mCB listD (aCons (mOp dgetI (mFld ["Scores"] "kept_scores" (mVar 0)) (mC (.str "weft"))) (aNil)))
noncomputable abbrev gScores__wefts : List D → Cs → R D := mFun 1 1 cScores__wefts
theorem scScores__wefts : FnScope ["self"] ["self"] (defScope sScores__wefts) := ⟨rfl, rfl, rfl, by decide +kernel, rfl, by decide +kernel, by decide +kernel⟩
noncomputable def cScores__warps : MS := sRet (mCB listD (aCons (mOp dgetI (mFld ["Scores"] "kept_scores" (mVar 0)) (mC (.str "warp"))) (aNil)))
noncomputable abbrev gScores__warps : List D → Cs → R D := mFun 1 1 cScores__warps
theorem scScores__warps : FnScope ["self"] ["self"] (defScope sScores__warps) := ⟨rfl, rfl, rfl, by decide +kernel, rfl, by decide +kernel, by decide +kernel⟩
noncomputable def cTally____init__ : MS := sSeq (sFor (iTup' (mTup (aCons (mCB lenD (aCons (mMeth [("Scores", gScores__warps)] "warps" (mVar 1) aNil) (aNil))) (aCons (mCB lenD (aCons (mMeth [("Scores", gScores__wefts)] "wefts" (mVar 1) aNil) (aNil))) (aNil))))) (gN 2) (sIf (mT (mOp gtD (mVar 2) (mC (.int 6)))) (sCut) (sNil))) (sSeq (sFldM ["Tally"] "all_lacks" (mVar 0) (mCB tupleD (aCons (mMeth [("Scores", gScores__warps)] "warps" (mVar 1) aNil) (aNil)))) (sSeq (sFldM ["Tally"] "row_ones" (mVar 0) (mLc (iLst (mMeth [("Scores", gScores__wefts)] "wefts" (mVar 1) aNil)) [3] (gN 3) (tYesM) (mOp subD (mCB lenD (aCons (mMeth [("Scores", gScores__warps)] "warps" (mVar 1) aNil) (aNil))) (mVar 3)))) (sFldM ["Tally"] "known_ways" (mVar 0) (mDictN0 PWc.P PWc.w))))
noncomputable abbrev gTally____init__ : List D → Cs → R D := mFun 4 2 cTally____init__
theorem scTally____init__ : FnScope ["self", "scores", "count", "score"] ["self", "scores"] (defScope sTally____init__) := ⟨rfl, rfl, rfl, by decide +kernel, rfl, by decide +kernel, by decide +kernel⟩
noncomputable def cTally__next_rows : MS := sSeq (sAsg (mTup (aCons (mCB lenD (aCons (mVar 2) (aNil))) (aCons (mOp subD (mOp subD (mCB lenD (aCons (mFld ["Tally"] "row_ones" (mVar 0)) (aNil))) (mVar 1)) (mC (.int 1))) (aNil)))) (gT [5, 6])) (sSeq (sSet 3 (mLstM (aNil))) (sSeq (sFor (iR1 (aCons (mOp shlI (mC (.int 1)) (mVar 5)) (aNil))) (gN 4) (sSeq (sSet 7 (mSliceY (mFmt6 (mVar 4)) (oSome (mUn negD (mVar 5))) (oNone))) (sSeq (sSet 8 (mCB tupleD (aCons (mLcW (kZip (aCons (mVar 2) (aCons (mVar 7) (aNil)))) [9, 10] (gT [9, 10]) (tYesM) (mOp subD (mVar 9) (mCB intFD (aCons (mOp eqX (mVar 10) (mC (.str "1"))) (aNil))))) (aNil)))) (sIf (tAndM (mT (mOp eqX (mM1 countD (mVar 7) (mC (.str "1"))) (mOp itemD (mFld ["Tally"] "row_ones" (mVar 0)) (mVar 1)))) (mT (mCB allD (aCons (mLcW (kAny (mVar 8)) [9] (gN 9) (tYesM) (mChain leD leD (mC (.int 0)) (mVar 9) (mVar 6))) (aNil))))) (sExpr (mBM appendD (mVar 3) (aCons (mTup (aCons (mVar 7) (aCons (mVar 8) (aNil)))) (aNil)))) (sNil))))) (sRet (mFrz (mVar 3)))))
noncomputable abbrev gTally__next_rows : List D → Cs → R D := mFun 11 3 cTally__next_rows
theorem scTally__next_rows : FnScope ["self", "at", "lacks", "found", "number", "width", "rest", "text", "later", "lack", "sign"] ["self", "at", "lacks"] (defScope sTally__next_rows) := ⟨rfl, rfl, rfl, by decide +kernel, rfl, by decide +kernel, by decide +kernel⟩
noncomputable def cTally__ways (self : List D → Cs → Mi.R D) : MS := sSeq (sSet 3 (mTup (aCons (mVar 1) (aCons (mCB tupleD (aCons (mCB sortY (aCons (mVar 2) (aNil))) (aNil))) (aNil))))) (sSeq (sIf (mT (mOp (inN PWc.P PWc.w true) (mVar 3) (mFld ["Tally"] "known_ways" (mVar 0)))) (sIf (mT (mOp eqX (mVar 1) (mCB lenD (aCons (mFld ["Tally"] "row_ones" (mVar 0)) (aNil))))) (sAsg (mCB intFD (aCons (mNot (mCB anyTD (aCons (mVar 2) (aNil)))) (aNil))) (gSN PWc.P PWc.w (mFld ["Tally"] "known_ways" (mVar 0)) (mVar 3))) (sAsg (mCB sumY (aCons (mLc (iLst (mMeth [("Tally", gTally__next_rows)] "next_rows" (mVar 0) (aCons (mVar 1) (aCons (mOp itemD (mVar 3) (mC (.int 1))) (aNil))))) [4, 5] (gT [4, 5]) (tYesM) (mMeth [("Tally", self)] "ways" (mVar 0) (aCons (mOp addD (mVar 1) (mC (.int 1))) (aCons (mVar 5) (aNil))))) (aNil))) (gSN PWc.P PWc.w (mFld ["Tally"] "known_ways" (mVar 0)) (mVar 3)))) (sNil)) (sRet (mOp (getN PWc.P PWc.w) (mFld ["Tally"] "known_ways" (mVar 0)) (mVar 3))))
noncomputable def gTally__ways_r : Nat → List D → Cs → Mi.R D
  | 0 => fun _ _ => .stuck
  | n + 1 => mFun 6 3 (cTally__ways (gTally__ways_r n))
noncomputable abbrev gTally__ways : List D → Cs → R D := gTally__ways_r 12
theorem scTally__ways : FnScope ["self", "at", "lacks", "key", "text", "later"] ["self", "at", "lacks"] (defScope sTally__ways) := ⟨rfl, rfl, rfl, by decide +kernel, rfl, by decide +kernel, by decide +kernel⟩
noncomputable def cTally__many : MS := sRet (mMeth [("Tally", gTally__ways)] "ways" (mVar 0) (aCons (mC (.int 0)) (aCons (mFld ["Tally"] "all_lacks" (mVar 0)) (aNil))))
noncomputable abbrev gTally__many : List D → Cs → R D := mFun 1 1 cTally__many
theorem scTally__many : FnScope ["self"] ["self"] (defScope sTally__many) := ⟨rfl, rfl, rfl, by decide +kernel, rfl, by decide +kernel, by decide +kernel⟩
noncomputable def ccount_cloths : MS := sSeq (sExpr (mCB gneed_scores (aCons (mVar 0) (aNil)))) (sRet (mMeth [("Tally", gTally__many)] "many" (mFrzI (mMake "Tally" gTally____init__ (aCons (mVar 0) (aNil)))) aNil))
noncomputable abbrev gcount_cloths : List D → Cs → R D := mFun 1 1 ccount_cloths
theorem sccount_cloths : FnScope ["scores"] ["scores"] (defScope scount_cloths) := ⟨rfl, rfl, rfl, by decide +kernel, rfl, by decide +kernel, by decide +kernel⟩
noncomputable def claw : MS := sSeq (sFor (iR1 (aCons (mCB max2 (aCons (mC (.int 2)) (aCons (mCB min2 (aCons (mC (.int 6)) (aCons (mCB lenD (aCons (mVar 0) (aNil))) (aNil)))) (aNil)))) (aNil))) (gN 1) (sSeq (sSet 2 (mCB g_law_box (aCons (mCB g_law_cell (aCons (mVar 0) (aCons (mVar 1) (aNil)))) (aNil)))) (sSeq (sAsg (mIf (mT (mOp neX (mVar 1) (mC (.int 1)))) (mLc (iR1 (aCons (mC (.int 2)) (aNil))) [11] (gN 11) (tYesM) (mOp addD (mC (.int 1)) (mCB g_law_take (aCons (mVar 2) (aCons (mC (.int 6)) (aNil)))))) (mLst (aCons (mC (.int 6)) (aCons (mC (.int 6)) (aNil))))) (gTL [5, 6])) (sSeq (sSet 3 (mCB g_law_rows (aCons (mVar 2) (aCons (mVar 5) (aCons (mVar 6) (aNil)))))) (sFor (iR1 (aCons (mC (.int 2)) (aNil))) (gN 4) (sSeq (sSet 7 (mIf (mT (mOp eqX (mVar 4) (mC (.int 0)))) (mCB g_law_scores (aCons (mVar 3) (aNil))) (mCB g_law_moved (aCons (mVar 2) (aCons (mCB g_law_scores (aCons (mVar 3) (aNil))) (aNil)))))) (sSeq (sSet 8 (mCB g_law_count (aCons (mVar 7) (aNil)))) (sSeq (sSet 9 (mCB g_law_mixed (aCons (mVar 2) (aCons (mOp itemD (mVar 7) (mC (.int 0))) (aNil))))) (sFor (iLst (mLst (aCons (mFrzI (mMake "Scores" gScores____init__ (aCons (mOp itemD (mVar 7) (mC (.int 0))) (aCons (mOp itemD (mVar 7) (mC (.int 1))) (aNil))))) (aCons (mFrzI (mMake "Scores" gScores____init__ (aCons (mCB tupleD (aCons (mVar 9) (aNil))) (aCons (mCB g_law_mixed (aCons (mVar 2) (aCons (mOp itemD (mVar 7) (mC (.int 1))) (aNil)))) (aNil))))) (aNil))))) (gN 10) (sIf (tOrM (mT (mOp neX (mCB reprX (aCons (mCB gcount_cloths (aCons (mVar 10) (aNil))) (aNil))) (mCB reprX (aCons (mVar 8) (aNil))))) (mT (mOp neX (mCB reprX (aCons (mCB gcount_cloths (aCons (mVar 10) (aNil))) (aNil))) (mCB reprX (aCons (mVar 8) (aNil)))))) (sRet (mC (.bl false))) (sNil))))))))))) (sRet (mC (.bl true)))
noncomputable abbrev glaw : List D → Cs → R D := mFun 12 1 claw
theorem sclaw : FnScope ["_law_script", "_law_k", "_law_box_here", "_law_rows_here", "_law_turn", "_law_warps", "_law_wefts", "_law_lists", "_law_due", "_law_mixed_here", "_law_one", "_law_side"] ["_law_script"] (defScope slaw) := ⟨rfl, rfl, rfl, by decide +kernel, rfl, by decide +kernel, by decide +kernel⟩
/-- what the top leaves -/
structure Txt (P : Program) (K : PySem.W.Frag) (mg : Str → Option Value) where
  b_all : mg "all" = none
  b_any : mg "any" = none
  b_bool : mg "bool" = none
  b_int : mg "int" = none
  b_isinstance : mg "isinstance" = none
  b_len : mg "len" = none
  b_list : mg "list" = none
  b_max : mg "max" = none
  b_min : mg "min" = none
  b_range : mg "range" = none
  b_repr : mg "repr" = none
  b_sorted : mg "sorted" = none
  b_sum : mg "sum" = none
  b_tuple : mg "tuple" = none
  b_zip : mg "zip" = none
  cMOST_NUMBERED : IsC K mg "MOST_NUMBERED" (.int 6)
  cMOST_THREADS : IsC K mg "MOST_THREADS" (.int 8)
  gx : ∀ n C, PySem.W.nsIn K mainGlobals n = some (some (.ref C)) → mg n = some (.ref C)
  fl_Scores_kept_scores : FldK K "Scores" "kept_scores"
  fl_Tally_all_lacks : FldK K "Tally" "all_lacks"
  fl_Tally_known_ways : FldK K "Tally" "known_ways"
  fl_Tally_row_ones : FldK K "Tally" "row_ones"
  iso_Scores : IsoK K "Scores" ["Scores", "Tally"]
  mk_Scores : ∃ C f, PySem.W.nsIn K mainGlobals "Scores" = some (some (.ref C)) ∧ Mk K C f ∧ OwnF K "__init__" "Scores.__init__" sScores____init__ ["self", "warps", "wefts"] f
  mk_Tally : ∃ C f, PySem.W.nsIn K mainGlobals "Tally" = some (some (.ref C)) ∧ Mk K C f ∧ OwnF K "__init__" "Tally.__init__" sTally____init__ ["self", "scores"] f
  me_Scores_warps : ∃ C f, NamV K "Scores" (.ref C) ∧ Cls K C ∧ Meth K C "warps" f ∧ OwnF K "warps" "Scores.warps" sScores__warps ["self"] f
  me_Scores_wefts : ∃ C f, NamV K "Scores" (.ref C) ∧ Cls K C ∧ Meth K C "wefts" f ∧ OwnF K "wefts" "Scores.wefts" sScores__wefts ["self"] f
  me_Tally_many : ∃ C f, NamV K "Tally" (.ref C) ∧ Cls K C ∧ Meth K C "many" f ∧ OwnF K "many" "Tally.many" sTally__many ["self"] f
  me_Tally_next_rows : ∃ C f, NamV K "Tally" (.ref C) ∧ Cls K C ∧ Meth K C "next_rows" f ∧ OwnF K "next_rows" "Tally.next_rows" sTally__next_rows ["self", "at", "lacks"] f
  me_Tally_ways : ∃ C f, NamV K "Tally" (.ref C) ∧ Cls K C ∧ Meth K C "ways" f ∧ OwnF K "ways" "Tally.ways" sTally__ways ["self", "at", "lacks"] f
  f_law_box : L2.Mi.Own K mg "_law_box" s_law_box ["_law_cell_here"]
  f_law_cell : L2.Mi.Own K mg "_law_cell" s_law_cell ["_law_script", "_law_k"]
  f_law_take : L2.Mi.Own K mg "_law_take" s_law_take ["_law_box_here", "_law_many"]
  f_law_rows : L2.Mi.Own K mg "_law_rows" s_law_rows ["_law_box_here", "_law_warps", "_law_wefts"]
  f_law_scores : L2.Mi.Own K mg "_law_scores" s_law_scores ["_law_rows_here"]
  f_law_moved : L2.Mi.Own K mg "_law_moved" s_law_moved ["_law_box_here", "_law_lists"]
  f_law_texts : L2.Mi.Own K mg "_law_texts" s_law_texts ["_law_width"]
  f_law_count : L2.Mi.Own K mg "_law_count" s_law_count ["_law_lists"]
  f_law_mixed : L2.Mi.Own K mg "_law_mixed" s_law_mixed ["_law_box_here", "_law_some"]
  fis_sequence : L2.Mi.Own K mg "is_sequence" sis_sequence ["value"]
  fneed_integers : L2.Mi.Own K mg "need_integers" sneed_integers ["value"]
  fis_integer : L2.Mi.Own K mg "is_integer" sis_integer ["value", "low", "high"]
  fneed_range : L2.Mi.Own K mg "need_range" sneed_range ["value", "high"]
  fneed_scores : L2.Mi.Own K mg "need_scores" sneed_scores ["value"]
  fcount_cloths : L2.Mi.Own K mg "count_cloths" scount_cloths ["scores"]
  flaw : L2.Mi.Own K mg "law" slaw ["_law_script"]
structure TxB (P : Program) (K : PySem.W.Frag) (mg : Str → Option Value) (base : Heap) extends Txt P K mg where
  tb : ∀ p ∈ allL, GxR.TabB base mg p.1 p.2
section
variable {K : PySem.W.Frag} {mg : Str → Option Value} {base : Heap}
theorem k_law_box (T : TxB PWc.P K mg base) : GFn PWc.P PWc.w K mg base 1 T.f_law_box.a T.f_law_box.fd ["_law_cell_here"] g_law_box := by
  refine gfn_of (k := 0) T.f_law_box.F sc_law_box fun cdv A outer s H E hr hgd => ?_
  have scN := sc_law_box.nd
  have tk := takes_of (X := cxOf (CX PWc.P PWc.w) PWc.P PWc.w K mg base ["_law_cell_here"] "_law_box" (defScope s_law_box) T.f_law_box.a cdv A outer s H E) (E := E) rfl rfl rfl rfl
  exact ms_one (ms_ret (me_lstM (ma_cons (me_cb (pe_callB (call_max2 rfl) (by rfl) T.b_max bt_max (ma_cons (me_int) (ma_cons (me_op op_sub os_sub (me_var (pv 0)) (me_op op_pow os_powI (me_int) (me_int))) (ma_nil)))) cs_max2) (ma_cons (me_op op_modN os_modI (me_var (pv 0)) (me_int)) (ma_cons (me_int) (ma_nil))))))
theorem k_law_cell (T : TxB PWc.P K mg base) : GFn PWc.P PWc.w K mg base 1 T.f_law_cell.a T.f_law_cell.fd ["_law_script", "_law_k"] g_law_cell := by
  refine gfn_of (k := 0) T.f_law_cell.F sc_law_cell fun cdv A outer s H E hr hgd => ?_
  have scN := sc_law_cell.nd
  have tk := takes_of (X := cxOf (CX PWc.P PWc.w) PWc.P PWc.w K mg base ["_law_script", "_law_k"] "_law_cell" (defScope s_law_cell) T.f_law_cell.a cdv A outer s H E) (E := E) rfl rfl rfl rfl
  exact ms_cons (ms_if (mt_cmp op_ltA os_lt (me_var (pv 1)) (me_cb (pe_callB call_len (by rfl) T.b_len bt_len (ma_cons (me_var (pv 0)) (ma_nil))) cs_len) (nomark _)) (ms_one (ms_ret (me_ix ix_seq os_item (me_var (pv 0)) (me_var (pv 1)) (fun _ _ => rfl)))) (ms_nil)) (ms_one (ms_ret (me_op op_addA os_add (me_op op_mul os_mulI (me_int) (me_var (pv 1))) (me_int))))
theorem k_law_take (T : TxB PWc.P K mg base) : GFn PWc.P PWc.w K mg base 1 T.f_law_take.a T.f_law_take.fd ["_law_box_here", "_law_many"] g_law_take := by
  refine gfn_of (k := 0) T.f_law_take.F sc_law_take fun cdv A outer s H E hr hgd => ?_
  have scN := sc_law_take.nd
  have tk := takes_of (X := cxOf (CX PWc.P PWc.w) PWc.P PWc.w K mg base ["_law_box_here", "_law_many", "_law_number", "_law_digit"] "_law_take" (defScope s_law_take) T.f_law_take.a cdv A outer s H E) (E := E) rfl rfl rfl rfl
  exact ms_cons (ms_if (mt_cmp op_gt os_cmpI (me_ix ix_seq os_item (me_var (pv 0)) (me_int) (fun _ _ => rfl)) (me_int) (nomark _)) (ms_cons (ms_set (i := 3) scN rfl (by first | exact Or.inl rfl | exact Or.inr rfl) (me_op op_modN os_modI (me_ix ix_seq os_item (me_var (pv 0)) (me_int) (fun _ _ => rfl)) (me_var (pv 1)))) (ms_cons (ms_asg (me_op op_fdivN os_divI (me_ix ix_seq os_item (me_var (pv 0)) (me_int) (fun _ _ => rfl)) (me_var (pv 1))) (mg_sub (pg_sub (me_var (pv 0)) (me_int) set_list))) (ms_one (ms_ret (me_var (pv 3)))))) (ms_nil)) (ms_cons (ms_asg (me_op op_addA os_add (me_ix ix_seq os_item (me_var (pv 0)) (me_int) (fun _ _ => rfl)) (me_int)) (mg_sub (pg_sub (me_var (pv 0)) (me_int) set_list))) (ms_cons (ms_set (i := 2) scN rfl (by first | exact Or.inl rfl | exact Or.inr rfl) (me_op op_modN os_modI (me_op op_pow os_powI (me_op op_addA os_add (me_op op_addA os_add (me_ix ix_seq os_item (me_var (pv 0)) (me_int) (fun _ _ => rfl)) (me_op op_mul os_mulI (me_int) (me_ix ix_seq os_item (me_var (pv 0)) (me_int) (fun _ _ => rfl)))) (me_int)) (me_int)) (me_int))) (ms_cons (ms_set (i := 2) scN rfl (by first | exact Or.inl rfl | exact Or.inr rfl) (me_op op_modN os_modI (me_op op_pow os_powI (me_op op_addA os_add (me_var (pv 2)) (me_op op_mul os_mulI (me_int) (me_ix ix_seq os_item (me_var (pv 0)) (me_int) (fun _ _ => rfl)))) (me_int)) (me_int))) (ms_one (ms_ret (me_op op_modN os_modI (me_op op_fdivN os_divI (me_var (pv 2)) (me_int)) (me_var (pv 1))))))))
theorem k_law_rows (T : TxB PWc.P K mg base) : GFn PWc.P PWc.w K mg base 2 T.f_law_rows.a T.f_law_rows.fd ["_law_box_here", "_law_warps", "_law_wefts"] g_law_rows := by
  refine gfn_of (k := 1) T.f_law_rows.F sc_law_rows fun cdv A outer s H E hr hgd => ?_
  have scN := sc_law_rows.nd
  have tk := takes_of (X := cxOf (CX PWc.P PWc.w) PWc.P PWc.w K mg base ["_law_box_here", "_law_warps", "_law_wefts", "_law_j", "_law_way", "_law_heights", "_law_rows_here", "_law_row", "_law_i", "_law_sign", "_law_k"] "_law_rows" (defScope s_law_rows) T.f_law_rows.a cdv A outer s H E) (E := E) rfl rfl rfl rfl
  exact ms_cons (ms_par3 (i := 4) (j := 5) (k := 6) rfl scN rfl rfl rfl (by decide) (by decide) (by decide) rfl rfl rfl (ma_cons (me_call (k_law_take T) (hr.mono (by decide)) hgd (by rfl) T.f_law_take.mgf T.f_law_take.F.kp T.f_law_take.b tk (ma_cons (me_var (pv 0)) (ma_cons (me_int) (ma_nil)))) (ma_cons (PEi (pe_lc (own := [("_law_k", 10)]) rfl scN (mi_r1 (pi_range1 (by rfl) T.b_range (ma_cons (me_op op_addA os_add (me_var (pv 1)) (me_var (pv 2))) (ma_nil)))) (blkOk_by (N := ["_law_box_here", "_law_warps", "_law_wefts", "_law_j", "_law_way", "_law_heights", "_law_rows_here", "_law_row", "_law_i", "_law_sign", "_law_k"]) (sc := defScope s_law_rows) (by decide +kernel)) (fun _ _ _ _ _ => pg_name (i := 10) scN rfl (by first | exact Or.inl rfl | exact Or.inr rfl)) (fun _ _ _ _ _ => mts_nil) (fun _ _ _ _ _ => me_call (k_law_take T) (hr.mono (by decide)) hgd (by rfl) T.f_law_take.mgf T.f_law_take.F.kp T.f_law_take.b takesW0 (ma_cons (me_var (pv 0)) (ma_cons (me_int) (ma_nil))))) (fun _ _ _ h => lc_read (good_name (by decide)) (rg_name) h)) (ma_cons (me_lstM (ma_nil)) (ma_nil)))) (by first | rfl | with_unfolding_all rfl | kernel_rfl)) (ms_cons (ms_for (passes_of rfl) rfl (mi_r1 (pi_range1 (by rfl) T.b_range (ma_cons (me_var (pv 2)) (ma_nil)))) (mg_name (i := 3) scN rfl (by first | exact Or.inl rfl | exact Or.inr rfl)) (ms_cons (ms_set (i := 7) scN rfl (by first | exact Or.inl rfl | exact Or.inr rfl) (me_str)) (ms_cons (ms_for (passes_of rfl) rfl (mi_r1 (pi_range1 (by rfl) T.b_range (ma_cons (me_var (pv 1)) (ma_nil)))) (mg_name (i := 8) scN rfl (by first | exact Or.inl rfl | exact Or.inr rfl)) (ms_cons (ms_set (i := 9) scN rfl (by first | exact Or.inl rfl | exact Or.inr rfl) (me_call (k_law_take T) (hr.mono (by decide)) hgd (by rfl) T.f_law_take.mgf T.f_law_take.F.kp T.f_law_take.b tk (ma_cons (me_var (pv 0)) (ma_cons (me_int) (ma_nil))))) (ms_cons (ms_if (PW.pt (mw_and (mt_cmp op_gt os_cmpI (me_var (pv 4)) (me_int) (nomark _)) (mw_and1 (mt_cmp (op_neY hr.units) os_neX (me_ix ix_seq os_item (me_var (pv 5)) (me_var (pv 8)) (fun _ _ => rfl)) (me_ix ix_seq os_item (me_var (pv 5)) (me_op op_addA os_add (me_var (pv 1)) (me_var (pv 3))) (fun _ _ => rfl)) (nomark _))))) (ms_one (ms_set (i := 9) scN rfl (by first | exact Or.inl rfl | exact Or.inr rfl) (me_cb (pe_callTy call_intF (by rfl) T.b_int bt_int (ma_cons (me_cmp op_gt os_cmpI (me_ix ix_seq os_item (me_var (pv 5)) (me_var (pv 8)) (fun _ _ => rfl)) (me_ix ix_seq os_item (me_var (pv 5)) (me_op op_addA os_add (me_var (pv 1)) (me_var (pv 3))) (fun _ _ => rfl)) (nomark _)) (ma_nil))) cs_intF))) (ms_nil)) (ms_one (ms_set (i := 7) scN rfl (by first | exact Or.inl rfl | exact Or.inr rfl) (me_op op_addA os_add (me_var (pv 7)) (me_ix ix_seq os_item (me_str) (me_var (pv 9)) (fun _ _ => rfl)))))))) (ms_one (ms_expr (me_bm (pe_bm PySem.F.plainAttrs_list PySem.F.slot_list_append PySem.F.type_list_append mt_append (me_var (pv 6)) (ma_cons (me_var (pv 7)) (ma_nil))) meth_append)))))) (ms_one (ms_ret (me_frz (me_var (pv 6))))))
theorem k_law_scores (T : TxB PWc.P K mg base) : GFn PWc.P PWc.w K mg base 1 T.f_law_scores.a T.f_law_scores.fd ["_law_rows_here"] g_law_scores := by
  refine gfn_of (k := 0) T.f_law_scores.F sc_law_scores fun cdv A outer s H E hr hgd => ?_
  have scN := sc_law_scores.nd
  have tk := takes_of (X := cxOf (CX PWc.P PWc.w) PWc.P PWc.w K mg base ["_law_rows_here", "_law_warps", "_law_i", "_law_row"] "_law_scores" (defScope s_law_scores) T.f_law_scores.a cdv A outer s H E) (E := E) rfl rfl rfl rfl
  exact ms_cons ((by first | exact ms_setT (ps_setLc (i := 1) (own := [("_law_i", 2)]) rfl scN rfl rfl (sw_true rfl rfl rfl (by decide +kernel)) (mi_r1 (pi_range1 (by rfl) T.b_range (ma_cons (me_cb (pe_callB call_len (by rfl) T.b_len bt_len (ma_cons (me_ix ix_seq os_item (me_var (pv 0)) (me_int) (fun _ _ => rfl)) (ma_nil))) cs_len) (ma_nil)))) (blkOk_by (N := ["_law_rows_here", "_law_warps", "_law_i", "_law_row"]) (sc := defScope s_law_scores) (by decide +kernel)) (fun _ _ _ _ _ => pg_name (i := 2) scN rfl (by first | exact Or.inl rfl | exact Or.inr rfl)) (fun _ _ _ _ _ => mts_nil) (fun _ _ _ _ _ => me_cb (pe_callB call_len (by rfl) T.b_len bt_len (ma_cons ((by exact PEi (pe_lc (own := [("_law_row", 3)]) rfl scN (mk_any (me_var (pv 0))) (blkOk_in (by kernel_rfl)) (fun _ _ _ _ _ => pg_name (i := 3) scN rfl (by first | exact Or.inl rfl | exact Or.inr rfl)) (fun _ _ _ _ _ => mts_one (mt_cmp (op_eqY hr.units) os_eqX (me_ix ix_seq os_item (me_var (pv 3)) (me_var (pv 2)) (fun _ _ => rfl)) (me_str) (nomark _))) (fun _ _ _ _ _ => me_var (pv 3))) (fun _ _ _ h => lc_readW (good_name (by decide)) (rg_name) h))) (ma_nil))) cs_len)) (fun _ _ _ h => lc_read (good_name (by decide)) (rg_name) h) | exact ms_set (i := 1) scN rfl (by first | exact Or.inl rfl | exact Or.inr rfl) (PEi (pe_lc (own := [("_law_i", 2)]) rfl scN (mi_r1 (pi_range1 (by rfl) T.b_range (ma_cons (me_cb (pe_callB call_len (by rfl) T.b_len bt_len (ma_cons (me_ix ix_seq os_item (me_var (pv 0)) (me_int) (fun _ _ => rfl)) (ma_nil))) cs_len) (ma_nil)))) (blkOk_by (N := ["_law_rows_here", "_law_warps", "_law_i", "_law_row"]) (sc := defScope s_law_scores) (by decide +kernel)) (fun _ _ _ _ _ => pg_name (i := 2) scN rfl (by first | exact Or.inl rfl | exact Or.inr rfl)) (fun _ _ _ _ _ => mts_nil) (fun _ _ _ _ _ => me_cb (pe_callB call_len (by rfl) T.b_len bt_len (ma_cons ((by exact PEi (pe_lc (own := [("_law_row", 3)]) rfl scN (mk_any (me_var (pv 0))) (blkOk_in (by kernel_rfl)) (fun _ _ _ _ _ => pg_name (i := 3) scN rfl (by first | exact Or.inl rfl | exact Or.inr rfl)) (fun _ _ _ _ _ => mts_one (mt_cmp (op_eqY hr.units) os_eqX (me_ix ix_seq os_item (me_var (pv 3)) (me_var (pv 2)) (fun _ _ => rfl)) (me_str) (nomark _))) (fun _ _ _ _ _ => me_var (pv 3))) (fun _ _ _ h => lc_readW (good_name (by decide)) (rg_name) h))) (ma_nil))) cs_len)) (fun _ _ _ h => lc_read (good_name (by decide)) (rg_name) h)))) (ms_one (ms_ret (me_tup (ma_cons (me_var (pv 1)) (ma_cons (PEi (pe_lc (own := [("_law_row", 3)]) rfl scN (mk_any (me_var (pv 0))) (blkOk_by (N := ["_law_rows_here", "_law_warps", "_law_i", "_law_row"]) (sc := defScope s_law_scores) (by decide +kernel)) (fun _ _ _ _ _ => pg_name (i := 3) scN rfl (by first | exact Or.inl rfl | exact Or.inr rfl)) (fun _ _ _ _ _ => mts_nil) (fun _ _ _ _ _ => me_m1 (pe_m1 PySem.F.slot_str_count PySem.F.type_str_count mt_count (me_var (pv 3)) (me_str)) m1_count)) (fun _ _ _ h => lc_readW (good_name (by decide)) (rg_name) h)) (ma_nil))))))
theorem k_law_moved (T : TxB PWc.P K mg base) : GFn PWc.P PWc.w K mg base 2 T.f_law_moved.a T.f_law_moved.fd ["_law_box_here", "_law_lists"] g_law_moved := by
  refine gfn_of (k := 1) T.f_law_moved.F sc_law_moved fun cdv A outer s H E hr hgd => ?_
  have scN := sc_law_moved.nd
  have tk := takes_of (X := cxOf (CX PWc.P PWc.w) PWc.P PWc.w K mg base ["_law_box_here", "_law_lists", "_law_sides", "_law_turn", "_law_one", "_law_other", "_law_at", "_law_to"] "_law_moved" (defScope s_law_moved) T.f_law_moved.a cdv A outer s H E) (E := E) rfl rfl rfl rfl
  exact ms_cons (ms_set (i := 2) scN rfl (by first | exact Or.inl rfl | exact Or.inr rfl) (me_lst (ma_cons (me_cb (pe_callTy call_list_of (by rfl) T.b_list bt_list (ma_cons (me_ix ix_seq os_item (me_var (pv 1)) (me_int) (fun _ _ => rfl)) (ma_nil))) cs_listM) (ma_cons (me_cb (pe_callTy call_list_of (by rfl) T.b_list bt_list (ma_cons (me_ix ix_seq os_item (me_var (pv 1)) (me_int) (fun _ _ => rfl)) (ma_nil))) cs_listM) (ma_nil))))) (ms_cons (ms_for (passes_of rfl) rfl (mi_r1 (pi_range1 (by rfl) T.b_range (ma_cons (me_call (k_law_take T) (hr.mono (by decide)) hgd (by rfl) T.f_law_take.mgf T.f_law_take.F.kp T.f_law_take.b tk (ma_cons (me_var (pv 0)) (ma_cons (me_int) (ma_nil)))) (ma_nil)))) (mg_name (i := 3) scN rfl (by first | exact Or.inl rfl | exact Or.inr rfl)) (ms_cons (ms_par2 (i := 4) (j := 5) rfl scN rfl rfl (by decide) rfl rfl (ma_cons (me_call (k_law_take T) (hr.mono (by decide)) hgd (by rfl) T.f_law_take.mgf T.f_law_take.F.kp T.f_law_take.b tk (ma_cons (me_var (pv 0)) (ma_cons (me_int) (ma_nil)))) (ma_cons (me_call (k_law_take T) (hr.mono (by decide)) hgd (by rfl) T.f_law_take.mgf T.f_law_take.F.kp T.f_law_take.b tk (ma_cons (me_var (pv 0)) (ma_cons (me_int) (ma_nil)))) (ma_nil))) (by first | rfl | with_unfolding_all rfl | kernel_rfl)) (ms_cons (ms_par2 (i := 6) (j := 7) rfl scN rfl rfl (by decide) rfl rfl (ma_cons (me_call (k_law_take T) (hr.mono (by decide)) hgd (by rfl) T.f_law_take.mgf T.f_law_take.F.kp T.f_law_take.b tk (ma_cons (me_var (pv 0)) (ma_cons (me_cb (pe_callB call_len (by rfl) T.b_len bt_len (ma_cons (me_ix ix_seq os_item (me_var (pv 2)) (me_var (pv 4)) (fun _ _ => rfl)) (ma_nil))) cs_len) (ma_nil)))) (ma_cons (me_call (k_law_take T) (hr.mono (by decide)) hgd (by rfl) T.f_law_take.mgf T.f_law_take.F.kp T.f_law_take.b tk (ma_cons (me_var (pv 0)) (ma_cons (me_cb (pe_callB call_len (by rfl) T.b_len bt_len (ma_cons (me_ix ix_seq os_item (me_var (pv 2)) (me_var (pv 5)) (fun _ _ => rfl)) (ma_nil))) cs_len) (ma_nil)))) (ma_nil))) (by first | rfl | with_unfolding_all rfl | kernel_rfl)) (ms_one (ms_if (PW.pt (mw_and (mt_cmp (op_neY hr.units) os_neX (me_tup (ma_cons (me_var (pv 4)) (ma_cons (me_var (pv 6)) (ma_nil)))) (me_tup (ma_cons (me_var (pv 5)) (ma_cons (me_var (pv 7)) (ma_nil)))) (nomark _)) (mw_and (mt_cmp op_gt os_cmpI (me_ix ix_seq os_item (me_ix ix_seq os_item (me_var (pv 2)) (me_var (pv 4)) (fun _ _ => rfl)) (me_var (pv 6)) (fun _ _ => rfl)) (me_int) (nomark _)) (mw_and1 (mt_cmp op_ltA os_lt (me_ix ix_seq os_item (me_ix ix_seq os_item (me_var (pv 2)) (me_var (pv 5)) (fun _ _ => rfl)) (me_var (pv 7)) (fun _ _ => rfl)) (me_cb (pe_callB call_len (by rfl) T.b_len bt_len (ma_cons (me_ix ix_seq os_item (me_var (pv 2)) (me_op op_sub os_sub (me_int) (me_var (pv 5))) (fun _ _ => rfl)) (ma_nil))) cs_len) (nomark _)))))) (ms_cons (ms_asg (me_op op_sub os_sub (me_ix ix_seq os_item (me_ix ix_seq os_item (me_var (pv 2)) (me_var (pv 4)) (fun _ _ => rfl)) (me_var (pv 6)) (fun _ _ => rfl)) (me_int)) (mg_sub (pg_sub (me_ix ix_seq os_item (me_var (pv 2)) (me_var (pv 4)) (fun _ _ => rfl)) (me_var (pv 6)) set_list))) (ms_one (ms_asg (me_op op_addA os_add (me_ix ix_seq os_item (me_ix ix_seq os_item (me_var (pv 2)) (me_var (pv 5)) (fun _ _ => rfl)) (me_var (pv 7)) (fun _ _ => rfl)) (me_int)) (mg_sub (pg_sub (me_ix ix_seq os_item (me_var (pv 2)) (me_var (pv 5)) (fun _ _ => rfl)) (me_var (pv 7)) set_list))))) (ms_nil)))))) (ms_one (ms_ret (me_tup (ma_cons (me_frz (me_ix ix_seq os_item (me_var (pv 2)) (me_int) (fun _ _ => rfl))) (ma_cons (me_frz (me_ix ix_seq os_item (me_var (pv 2)) (me_int) (fun _ _ => rfl))) (ma_nil)))))))
theorem k_law_texts (T : TxB PWc.P K mg base) : GFn PWc.P PWc.w K mg base 1 T.f_law_texts.a T.f_law_texts.fd ["_law_width"] g_law_texts := by
  refine gfn_of (k := 0) T.f_law_texts.F sc_law_texts fun cdv A outer s H E hr hgd => ?_
  have scN := sc_law_texts.nd
  have tk := takes_of (X := cxOf (CX PWc.P PWc.w) PWc.P PWc.w K mg base ["_law_width", "_law_found", "_law_k", "_law_longer", "_law_text"] "_law_texts" (defScope s_law_texts) T.f_law_texts.a cdv A outer s H E) (E := E) rfl rfl rfl rfl
  exact ms_cons (ms_set (i := 1) scN rfl (by first | exact Or.inl rfl | exact Or.inr rfl) (me_lst (ma_cons (me_str) (ma_nil)))) (ms_cons (ms_for (passes_of rfl) rfl (mi_r1 (pi_range1 (by rfl) T.b_range (ma_cons (me_var (pv 0)) (ma_nil)))) (mg_name (i := 2) scN rfl (by first | exact Or.inl rfl | exact Or.inr rfl)) (ms_cons (ms_set (i := 3) scN rfl (by first | exact Or.inl rfl | exact Or.inr rfl) (me_lstM (ma_nil))) (ms_cons (ms_forW (passes_of rfl) rfl (mk_any (me_var (pv 1))) (mg_name (i := 4) scN rfl (by first | exact Or.inl rfl | exact Or.inr rfl)) (ms_one (ms_expr (me_bm (pe_bm PySem.F.plainAttrs_list PySem.F.slot_list_extend PySem.F.type_list_extend mt_extend (me_var (pv 3)) (ma_cons (me_lst (ma_cons (me_op op_addA os_add (me_var (pv 4)) (me_str)) (ma_cons (me_op op_addA os_add (me_var (pv 4)) (me_str)) (ma_nil)))) (ma_nil))) meth_extend)))) (ms_one (ms_set (i := 1) scN rfl (by first | exact Or.inl rfl | exact Or.inr rfl) (me_frz (me_var (pv 3)))))))) (ms_one (ms_ret (me_var (pv 1)))))
theorem k_law_count (T : TxB PWc.P K mg base) : GFn PWc.P PWc.w K mg base 2 T.f_law_count.a T.f_law_count.fd ["_law_lists"] g_law_count := by
  refine gfn_of (k := 1) T.f_law_count.F sc_law_count fun cdv A outer s H E hr hgd => ?_
  have scN := sc_law_count.nd
  have tk := takes_of (X := cxOf (CX PWc.P PWc.w) PWc.P PWc.w K mg base ["_law_lists", "_law_score", "_law_width", "_law_known", "_law_fit", "_law_later", "_law_lacks", "_law_many", "_law_text", "_law_rest", "_law_lack", "_law_sign"] "_law_count" (defScope s_law_count) T.f_law_count.a cdv A outer s H E) (E := E) rfl rfl rfl rfl
  exact ms_cons (ms_par2 (i := 2) (j := 3) rfl scN rfl rfl (by decide) rfl rfl (ma_cons (me_cb (pe_callB call_len (by rfl) T.b_len bt_len (ma_cons (me_ix ix_seq os_item (me_var (pv 0)) (me_int) (fun _ _ => rfl)) (ma_nil))) cs_len) (ma_cons (me_dictT1 (u1 hr) (me_cb (pe_callTy call_tuple_of (by rfl) T.b_tuple bt_tuple (ma_cons (me_cb (pe_callB cr_sortedY (by rfl) T.b_sorted bt_sorted (ma_cons (me_ix ix_seq os_item (me_var (pv 0)) (me_int) (fun _ _ => rfl)) (ma_nil))) cs_sortedY) (ma_nil))) cs_tuple) (me_int)) (ma_nil))) (by first | rfl | with_unfolding_all rfl | kernel_rfl)) (ms_cons (ms_forW (passes_of rfl) rfl (mk_any (me_ix ix_seq os_item (me_var (pv 0)) (me_int) (fun _ _ => rfl))) (mg_name (i := 1) scN rfl (by first | exact Or.inl rfl | exact Or.inr rfl)) (ms_cons ((by first | exact ms_setT (ps_setLc (i := 4) (own := [("_law_text", 8)]) rfl scN rfl rfl (sw_true rfl rfl rfl (by decide +kernel)) (mi_lst (me_call (k_law_texts T) (hr.mono (by decide)) hgd (by rfl) T.f_law_texts.mgf T.f_law_texts.F.kp T.f_law_texts.b tk (ma_cons (me_var (pv 2)) (ma_nil)))) (blkOk_by (N := ["_law_lists", "_law_score", "_law_width", "_law_known", "_law_fit", "_law_later", "_law_lacks", "_law_many", "_law_text", "_law_rest", "_law_lack", "_law_sign"]) (sc := defScope s_law_count) (by decide +kernel)) (fun _ _ _ _ _ => pg_name (i := 8) scN rfl (by first | exact Or.inl rfl | exact Or.inr rfl)) (fun _ _ _ _ _ => mts_one (mt_cmp (op_eqY hr.units) os_eqX (me_m1 (pe_m1 PySem.F.slot_str_count PySem.F.type_str_count mt_count (me_var (pv 8)) (me_str)) m1_count) (me_var (pv 1)) (nomark _))) (fun _ _ _ _ _ => me_var (pv 8))) (fun _ _ _ h => lc_read (good_name (by decide)) (rg_name) h) | exact ms_set (i := 4) scN rfl (by first | exact Or.inl rfl | exact Or.inr rfl) (PEi (pe_lc (own := [("_law_text", 8)]) rfl scN (mi_lst (me_call (k_law_texts T) (hr.mono (by decide)) hgd (by rfl) T.f_law_texts.mgf T.f_law_texts.F.kp T.f_law_texts.b tk (ma_cons (me_var (pv 2)) (ma_nil)))) (blkOk_by (N := ["_law_lists", "_law_score", "_law_width", "_law_known", "_law_fit", "_law_later", "_law_lacks", "_law_many", "_law_text", "_law_rest", "_law_lack", "_law_sign"]) (sc := defScope s_law_count) (by decide +kernel)) (fun _ _ _ _ _ => pg_name (i := 8) scN rfl (by first | exact Or.inl rfl | exact Or.inr rfl)) (fun _ _ _ _ _ => mts_one (mt_cmp (op_eqY hr.units) os_eqX (me_m1 (pe_m1 PySem.F.slot_str_count PySem.F.type_str_count mt_count (me_var (pv 8)) (me_str)) m1_count) (me_var (pv 1)) (nomark _))) (fun _ _ _ _ _ => me_var (pv 8))) (fun _ _ _ h => lc_read (good_name (by decide)) (rg_name) h)))) (ms_cons (ms_set (i := 5) scN rfl (by first | exact Or.inl rfl | exact Or.inr rfl) (me_dictT0)) (ms_cons (ms_lk (ms_forW (passes_of rfl) rfl (mk_itemsTK (pi_itemsT (me_var (pv 3)))) (mg_tup rfl (mgs_cons (i := 6) scN rfl (by first | exact Or.inl rfl | exact Or.inr rfl) (mgs_cons (i := 7) scN rfl (by first | exact Or.inl rfl | exact Or.inr rfl) (mgs_nil)))) (ms_one (ms_forW (passes_of rfl) rfl (mk_any (me_var (pv 4))) (mg_name (i := 8) scN rfl (by first | exact Or.inl rfl | exact Or.inr rfl)) (ms_cons (ms_set (i := 9) scN rfl (by first | exact Or.inl rfl | exact Or.inr rfl) (me_cb (pe_callTy call_tuple_of (by rfl) T.b_tuple bt_tuple (ma_cons (me_cb (pe_callB cr_sortedY (by rfl) T.b_sorted bt_sorted (ma_cons (PEi (pe_lc (own := [("_law_lack", 10), ("_law_sign", 11)]) rfl scN (mk_zip (pi_zipG (by rfl) T.b_zip (ma_cons (me_var (pv 6)) (ma_cons (me_var (pv 8)) (ma_nil))))) (blkOk_by (N := ["_law_lists", "_law_score", "_law_width", "_law_known", "_law_fit", "_law_later", "_law_lacks", "_law_many", "_law_text", "_law_rest", "_law_lack", "_law_sign"]) (sc := defScope s_law_count) (by decide +kernel)) (fun _ _ _ _ _ => pg_tup rfl (pgs_cons (pg_name (i := 10) scN rfl (by first | exact Or.inl rfl | exact Or.inr rfl)) (pgs_cons (pg_name (i := 11) scN rfl (by first | exact Or.inl rfl | exact Or.inr rfl)) pgs_nil))) (fun _ _ _ _ _ => mts_nil) (fun _ _ _ _ _ => me_op op_sub os_sub (me_var (pv 10)) (me_cb (pe_callTy call_intF (by rfl) T.b_int bt_int (ma_cons (me_cmp (op_eqY hr.units) os_eqX (me_var (pv 11)) (me_str) (nomark _)) (ma_nil))) cs_intF))) (fun _ _ _ h => lc_readW (good_names (by decide) (by decide)) (rg_names) h)) (ma_nil))) cs_sortedY) (ma_nil))) cs_tuple)) (ms_one (ms_if (mt_cmp op_ge os_cmpI (me_ix ix_seq os_item (me_var (pv 9)) (me_int) (fun _ _ => rfl)) (me_int) (nomark _)) (ms_one (ms_asg (me_op op_addA os_add (me_dget2T (u1 hr) (me_var (pv 5)) (me_var (pv 9)) (me_int) ⟨rfl, rfl, rfl, rfl⟩) (me_var (pv 7))) (mg_subT (pg_sub (me_var (pv 5)) (me_var (pv 9)) (set_dict (hu_of hr)))))) (ms_nil)))))))) (ms_one (ms_set (i := 3) scN rfl (by first | exact Or.inl rfl | exact Or.inr rfl) (me_var (pv 5)))))))) (ms_one (ms_ret (me_dget2T (u1 hr) (me_var (pv 3)) (me_op op_many os_many (me_tup (ma_cons (me_int) (ma_nil))) (me_var (pv 2))) (me_int) ⟨rfl, rfl, rfl, rfl⟩))))
theorem k_law_mixed (T : TxB PWc.P K mg base) : GFn PWc.P PWc.w K mg base 2 T.f_law_mixed.a T.f_law_mixed.fd ["_law_box_here", "_law_some"] g_law_mixed := by
  refine gfn_of (k := 1) T.f_law_mixed.F sc_law_mixed fun cdv A outer s H E hr hgd => ?_
  have scN := sc_law_mixed.nd
  have tk := takes_of (X := cxOf (CX PWc.P PWc.w) PWc.P PWc.w K mg base ["_law_box_here", "_law_some", "_law_left", "_law_k"] "_law_mixed" (defScope s_law_mixed) T.f_law_mixed.a cdv A outer s H E) (E := E) rfl rfl rfl rfl
  exact ms_cons (ms_set (i := 2) scN rfl (by first | exact Or.inl rfl | exact Or.inr rfl) (me_cb (pe_callTy call_list_of (by rfl) T.b_list bt_list (ma_cons (me_var (pv 1)) (ma_nil))) cs_listM)) (ms_one (ms_ret (PEi (pe_lc (own := [("_law_k", 3)]) rfl scN (mi_r1 (pi_range1 (by rfl) T.b_range (ma_cons (me_cb (pe_callB call_len (by rfl) T.b_len bt_len (ma_cons (me_var (pv 1)) (ma_nil))) cs_len) (ma_nil)))) (blkOk_by (N := ["_law_box_here", "_law_some", "_law_left", "_law_k"]) (sc := defScope s_law_mixed) (by decide +kernel)) (fun _ _ _ _ _ => pg_name (i := 3) scN rfl (by first | exact Or.inl rfl | exact Or.inr rfl)) (fun _ _ _ _ _ => mts_nil) (fun _ _ _ _ _ => me_bm (pe_bm PySem.F.plainAttrs_list PySem.F.slot_list_pop PySem.F.type_list_pop mt_popAt (me_var (pv 2)) (ma_cons (me_call (k_law_take T) (hr.mono (by decide)) hgd (by rfl) T.f_law_take.mgf T.f_law_take.F.kp T.f_law_take.b takesW0 (ma_cons (me_var (pv 0)) (ma_cons (me_cb (pe_callB call_len (by rfl) T.b_len bt_len (ma_cons (me_var (pv 2)) (ma_nil))) cs_len) (ma_nil)))) (ma_nil))) (meth_mut ms_popAtF))) (fun _ _ _ h => lc_read (good_name (by decide)) (rg_name) h))))
theorem kis_sequence (T : TxB PWc.P K mg base) : GFn PWc.P PWc.w K mg base 1 T.fis_sequence.a T.fis_sequence.fd ["value"] gis_sequence := by
  refine gfn_of (k := 0) T.fis_sequence.F scis_sequence fun cdv A outer s H E hr hgd => ?_
  have scN := scis_sequence.nd
  have tk := takes_of (X := cxOf (CX PWc.P PWc.w) PWc.P PWc.w K mg base ["value"] "is_sequence" (defScope sis_sequence) T.fis_sequence.a cdv A outer s H E) (E := E) rfl rfl rfl rfl
  exact ms_one (ms_ret (me_cb (pe_callB call_isiA (by rfl) T.b_isinstance bt_isinstance (ma_cons (me_var (pv 0)) (ma_cons (me_tup (ma_cons (me_c (pe_bltn (v := .ty "list") (by rfl) T.b_list bt_list rfl) (fun _ _ => .ty _)) (ma_cons (me_c (pe_bltn (v := .ty "tuple") (by rfl) T.b_tuple bt_tuple rfl) (fun _ _ => .ty _)) (ma_nil)))) (ma_nil)))) cs_isi))
theorem kneed_integers (T : TxB PWc.P K mg base) : GFn PWc.P PWc.w K mg base 2 T.fneed_integers.a T.fneed_integers.fd ["value"] gneed_integers := by
  refine gfn_of (k := 1) T.fneed_integers.F scneed_integers fun cdv A outer s H E hr hgd => ?_
  have scN := scneed_integers.nd
  have tk := takes_of (X := cxOf (CX PWc.P PWc.w) PWc.P PWc.w K mg base ["value", "score"] "need_integers" (defScope sneed_integers) T.fneed_integers.a cdv A outer s H E) (E := E) rfl rfl rfl rfl
  exact ms_cons (ms_if (PW.pt (mw_or (mt_not (mt_val (me_call (kis_sequence T) (hr.mono (by decide)) hgd (by rfl) T.fis_sequence.mgf T.fis_sequence.F.kp T.fis_sequence.b tk (ma_cons (me_var (pv 0)) (ma_nil))))) (mw_or1 (mt_not (mt_chain op_leA os_le op_leA os_le (me_int) (me_cb (pe_callB call_len (by rfl) T.b_len bt_len (ma_cons (me_var (pv 0)) (ma_nil))) cs_len) (me_const (by rfl) T.cMOST_THREADS)))))) (ms_cut) (ms_nil)) (ms_one (ms_if (mt_not (mt_val (me_cb (pe_callB (cr_all rfl) (by rfl) T.b_all bt_all (ma_cons (PEi (pe_lc (own := [("score", 1)]) rfl scN (mk_any (me_var (pv 0))) (blkOk_by (N := ["value", "score"]) (sc := defScope sneed_integers) (by decide +kernel)) (fun _ _ _ _ _ => pg_name (i := 1) scN rfl (by first | exact Or.inl rfl | exact Or.inr rfl)) (fun _ _ _ _ _ => mts_nil) (fun _ _ _ _ _ => me_and (me_cb (pe_callB call_isiA (by rfl) T.b_isinstance bt_isinstance (ma_cons (me_var (pv 1)) (ma_cons (me_c (pe_bltn (v := .ty "int") (by rfl) T.b_int bt_int rfl) (fun _ _ => .ty _)) (ma_nil)))) cs_isi) (me_one (me_not (me_cb (pe_callB call_isiA (by rfl) T.b_isinstance bt_isinstance (ma_cons (me_var (pv 1)) (ma_cons (me_c (pe_bltn (v := .ty "bool") (by rfl) T.b_bool bt_bool rfl) (fun _ _ => .ty _)) (ma_nil)))) cs_isi))))) (fun _ _ _ h => lc_readW (good_name (by decide)) (rg_name) h)) (ma_nil))) cs_all))) (ms_cut) (ms_nil)))
theorem kis_integer (T : TxB PWc.P K mg base) : GFn PWc.P PWc.w K mg base 1 T.fis_integer.a T.fis_integer.fd ["value", "low", "high"] gis_integer := by
  refine gfn_of (k := 0) T.fis_integer.F scis_integer fun cdv A outer s H E hr hgd => ?_
  have scN := scis_integer.nd
  have tk := takes_of (X := cxOf (CX PWc.P PWc.w) PWc.P PWc.w K mg base ["value", "low", "high"] "is_integer" (defScope sis_integer) T.fis_integer.a cdv A outer s H E) (E := E) rfl rfl rfl rfl
  exact ms_one (ms_ret (me_and (me_cb (pe_callB call_isiA (by rfl) T.b_isinstance bt_isinstance (ma_cons (me_var (pv 0)) (ma_cons (me_c (pe_bltn (v := .ty "int") (by rfl) T.b_int bt_int rfl) (fun _ _ => .ty _)) (ma_nil)))) cs_isi) (me_and (me_not (me_cb (pe_callB call_isiA (by rfl) T.b_isinstance bt_isinstance (ma_cons (me_var (pv 0)) (ma_cons (me_c (pe_bltn (v := .ty "bool") (by rfl) T.b_bool bt_bool rfl) (fun _ _ => .ty _)) (ma_nil)))) cs_isi)) (me_one (me_chain op_leA os_le op_leA os_le (me_var (pv 1)) (me_var (pv 0)) (me_var (pv 2)))))))
theorem kneed_range (T : TxB PWc.P K mg base) : GFn PWc.P PWc.w K mg base 2 T.fneed_range.a T.fneed_range.fd ["value", "high"] gneed_range := by
  refine gfn_of (k := 1) T.fneed_range.F scneed_range fun cdv A outer s H E hr hgd => ?_
  have scN := scneed_range.nd
  have tk := takes_of (X := cxOf (CX PWc.P PWc.w) PWc.P PWc.w K mg base ["value", "high", "score"] "need_range" (defScope sneed_range) T.fneed_range.a cdv A outer s H E) (E := E) rfl rfl rfl rfl
  exact ms_one (ms_if (mt_not (mt_val (me_cb (pe_callB (cr_all rfl) (by rfl) T.b_all bt_all (ma_cons (PEi (pe_lc (own := [("score", 2)]) rfl scN (mk_any (me_var (pv 0))) (blkOk_by (N := ["value", "high", "score"]) (sc := defScope sneed_range) (by decide +kernel)) (fun _ _ _ _ _ => pg_name (i := 2) scN rfl (by first | exact Or.inl rfl | exact Or.inr rfl)) (fun _ _ _ _ _ => mts_nil) (fun _ _ _ _ _ => me_call (kis_integer T) (hr.mono (by decide)) hgd (by rfl) T.fis_integer.mgf T.fis_integer.F.kp T.fis_integer.b takesW0 (ma_cons (me_var (pv 2)) (ma_cons (me_int) (ma_cons (me_var (pv 1)) (ma_nil)))))) (fun _ _ _ h => lc_readW (good_name (by decide)) (rg_name) h)) (ma_nil))) cs_all))) (ms_cut) (ms_nil))
theorem kScores____init__ (T : TxB PWc.P K mg base) {f : Addr} (O : OwnF K "__init__" "Scores.__init__" sScores____init__ ["self", "warps", "wefts"] f) : ∃ fd, GFn PWc.P PWc.w K mg base 3 f fd ["self", "warps", "wefts"] gScores____init__ ∧ Binds K fd ["self", "warps", "wefts"] [] := by
  obtain ⟨fd, F, hb⟩ := O
  refine ⟨fd, gfn_of (k := 2) F scScores____init__ fun cdv A outer s H E hr hgd => ?_, hb⟩
  have scN := scScores____init__.nd
  have tk := takes_of (X := cxOf (CX PWc.P PWc.w) PWc.P PWc.w K mg base ["self", "warps", "wefts", "total"] "Scores.__init__" (defScope sScores____init__) f cdv A outer s H E) (E := E) rfl rfl rfl rfl
  exact ms_cons (ms_expr (me_call (kneed_integers T) (hr.mono (by decide)) hgd (by rfl) T.fneed_integers.mgf T.fneed_integers.F.kp T.fneed_integers.b tk (ma_cons (me_var (pv 1)) (ma_nil)))) (ms_cons (ms_expr (me_call (kneed_integers T) (hr.mono (by decide)) hgd (by rfl) T.fneed_integers.mgf T.fneed_integers.F.kp T.fneed_integers.b tk (ma_cons (me_var (pv 2)) (ma_nil)))) (ms_cons (ms_expr (me_call (kneed_range T) (hr.mono (by decide)) hgd (by rfl) T.fneed_range.mgf T.fneed_range.F.kp T.fneed_range.b tk (ma_cons (me_var (pv 1)) (ma_cons (me_cb (pe_callB call_len (by rfl) T.b_len bt_len (ma_cons (me_var (pv 2)) (ma_nil))) cs_len) (ma_nil))))) (ms_cons (ms_expr (me_call (kneed_range T) (hr.mono (by decide)) hgd (by rfl) T.fneed_range.mgf T.fneed_range.F.kp T.fneed_range.b tk (ma_cons (me_var (pv 2)) (ma_cons (me_cb (pe_callB call_len (by rfl) T.b_len bt_len (ma_cons (me_var (pv 1)) (ma_nil))) cs_len) (ma_nil))))) (ms_cons (ms_ifNm (i := 3) scN rfl (by first | exact Or.inl rfl | exact Or.inr rfl) (op_neY hr.units) os_neX (me_op op_addA os_add (me_cb (pe_callB (cr_sumY rfl) (by rfl) T.b_sum bt_sum (ma_cons (me_var (pv 1)) (ma_nil))) cs_sumY) (me_cb (pe_callB (cr_sumY rfl) (by rfl) T.b_sum bt_sum (ma_cons (me_var (pv 2)) (ma_nil))) cs_sumY)) (me_op op_mul os_mulI (me_cb (pe_callB call_len (by rfl) T.b_len bt_len (ma_cons (me_var (pv 1)) (ma_nil))) cs_len) (me_cb (pe_callB call_len (by rfl) T.b_len bt_len (ma_cons (me_var (pv 2)) (ma_nil))) cs_len)) (ms_cut) (ms_nil)) (ms_one (ms_fld (allc (T.fl_Scores_kept_scores) (all0)) (me_var (pv 0)) (me_dict (pps_cons (me_str) (me_cb (pe_callTy call_list_of (by rfl) T.b_list bt_list (ma_cons (me_var (pv 1)) (ma_nil))) cs_list) (pps_cons (me_str) (me_cb (pe_callTy call_list_of (by rfl) T.b_list bt_list (ma_cons (me_var (pv 2)) (ma_nil))) cs_list) (pps_nil))) (mps_cons (mps_cons (mps_nil))) rfl rfl (fun z => by cases z) (by decide))))))))
theorem mkScores (T : TxB PWc.P K mg base) : MakK PWc.P PWc.w K mg base "Scores" gScores____init__ 3 := by
  obtain ⟨C, f, h1, h2, h3⟩ := T.mk_Scores
  obtain ⟨fd, F, hb⟩ := kScores____init__ (base := base) T h3
  exact ⟨C, f, fd, _, h1, T.gx _ _ h1, h2, F, hb⟩
theorem kneed_scores (T : TxB PWc.P K mg base) : GFn PWc.P PWc.w K mg base 1 T.fneed_scores.a T.fneed_scores.fd ["value"] gneed_scores := by
  refine gfn_of (k := 0) T.fneed_scores.F scneed_scores fun cdv A outer s H E hr hgd => ?_
  have scN := scneed_scores.nd
  have tk := takes_of (X := cxOf (CX PWc.P PWc.w) PWc.P PWc.w K mg base ["value"] "need_scores" (defScope sneed_scores) T.fneed_scores.a cdv A outer s H E) (E := E) rfl rfl rfl rfl
  exact ms_one (ms_if (mt_not (mt_val (me_iso (q := ⟨0, 0, 0, 0⟩) T.iso_Scores (by rfl) T.b_isinstance (by rfl) T.gx (me_var (pv 0))))) (ms_cut) (ms_nil))
theorem kScores__wefts (T : TxB PWc.P K mg base) {f : Addr} (O : OwnF K "wefts" "Scores.wefts" sScores__wefts ["self"] f) : ∃ fd, GFn PWc.P PWc.w K mg base 1 f fd ["self"] gScores__wefts ∧ Binds K fd ["self"] [] := by
  obtain ⟨fd, F, hb⟩ := O
  refine ⟨fd, gfn_of (k := 0) F scScores__wefts fun cdv A outer s H E hr hgd => ?_, hb⟩
  have scN := scScores__wefts.nd
  have tk := takes_of (X := cxOf (CX PWc.P PWc.w) PWc.P PWc.w K mg base ["self"] "Scores.wefts" (defScope sScores__wefts) f cdv A outer s H E) (E := E) rfl rfl rfl rfl
  exact ms_one (ms_ret (me_cb (pe_callTy call_list_of (by rfl) T.b_list bt_list (ma_cons (me_dget (u1 hr) (me_fld (allc (T.fl_Scores_kept_scores) (all0)) (me_var (pv 0))) (me_str) (fun _ _ => rfl)) (ma_nil))) cs_list))
theorem mScores__wefts (T : TxB PWc.P K mg base) {k : Nat} (hk : 1 ≤ k := by decide) : MthK PWc.P PWc.w K mg base "Scores" "wefts" gScores__wefts k := by
  obtain ⟨C, f, h1, h2, h3, h4⟩ := T.me_Scores_wefts
  obtain ⟨fd, F, hb⟩ := kScores__wefts (base := base) T h4
  exact ⟨C, f, fd, _, h1, h2, h3, F.mono hk, hb⟩
theorem kScores__warps (T : TxB PWc.P K mg base) {f : Addr} (O : OwnF K "warps" "Scores.warps" sScores__warps ["self"] f) : ∃ fd, GFn PWc.P PWc.w K mg base 1 f fd ["self"] gScores__warps ∧ Binds K fd ["self"] [] := by
  obtain ⟨fd, F, hb⟩ := O
  refine ⟨fd, gfn_of (k := 0) F scScores__warps fun cdv A outer s H E hr hgd => ?_, hb⟩
  have scN := scScores__warps.nd
  have tk := takes_of (X := cxOf (CX PWc.P PWc.w) PWc.P PWc.w K mg base ["self"] "Scores.warps" (defScope sScores__warps) f cdv A outer s H E) (E := E) rfl rfl rfl rfl
  exact ms_one (ms_ret (me_cb (pe_callTy call_list_of (by rfl) T.b_list bt_list (ma_cons (me_dget (u1 hr) (me_fld (allc (T.fl_Scores_kept_scores) (all0)) (me_var (pv 0))) (me_str) (fun _ _ => rfl)) (ma_nil))) cs_list))
theorem mScores__warps (T : TxB PWc.P K mg base) {k : Nat} (hk : 1 ≤ k := by decide) : MthK PWc.P PWc.w K mg base "Scores" "warps" gScores__warps k := by
  obtain ⟨C, f, h1, h2, h3, h4⟩ := T.me_Scores_warps
  obtain ⟨fd, F, hb⟩ := kScores__warps (base := base) T h4
  exact ⟨C, f, fd, _, h1, h2, h3, F.mono hk, hb⟩
theorem kTally____init__ (T : TxB PWc.P K mg base) {f : Addr} (O : OwnF K "__init__" "Tally.__init__" sTally____init__ ["self", "scores"] f) : ∃ fd, GFn PWc.P PWc.w K mg base 2 f fd ["self", "scores"] gTally____init__ ∧ Binds K fd ["self", "scores"] [] := by
  obtain ⟨fd, F, hb⟩ := O
  refine ⟨fd, gfn_of (k := 1) F scTally____init__ fun cdv A outer s H E hr hgd => ?_, hb⟩
  have scN := scTally____init__.nd
  have tk := takes_of (X := cxOf (CX PWc.P PWc.w) PWc.P PWc.w K mg base ["self", "scores", "count", "score"] "Tally.__init__" (defScope sTally____init__) f cdv A outer s H E) (E := E) rfl rfl rfl rfl
  exact ms_cons (ms_for (passes_of rfl) rfl (mi_tup (me_tup (ma_cons (me_cb (pe_callB call_len (by rfl) T.b_len bt_len (ma_cons ((me_meth0 (tbl := [("Scores", gScores__warps)]) (k := 1) (allc (mScores__warps T) (all0)) (hr.mono (by decide)) hgd tk (me_var (pv 1)))) (ma_nil))) cs_len) (ma_cons (me_cb (pe_callB call_len (by rfl) T.b_len bt_len (ma_cons ((me_meth0 (tbl := [("Scores", gScores__wefts)]) (k := 1) (allc (mScores__wefts T) (all0)) (hr.mono (by decide)) hgd tk (me_var (pv 1)))) (ma_nil))) cs_len) (ma_nil))))) (mg_name (i := 2) scN rfl (by first | exact Or.inl rfl | exact Or.inr rfl)) (ms_one (ms_if (mt_cmp op_gt os_cmpI (me_var (pv 2)) (me_const (by rfl) T.cMOST_NUMBERED) (nomark _)) (ms_cut) (ms_nil)))) (ms_cons (ms_fld (allc (T.fl_Tally_all_lacks) (all0)) (me_var (pv 0)) (me_cb (pe_callTy call_tuple_of (by rfl) T.b_tuple bt_tuple (ma_cons ((me_meth0 (tbl := [("Scores", gScores__warps)]) (k := 1) (allc (mScores__warps T) (all0)) (hr.mono (by decide)) hgd tk (me_var (pv 1)))) (ma_nil))) cs_tuple)) (ms_cons (ms_fld (allc (T.fl_Tally_row_ones) (all0)) (me_var (pv 0)) (PEi (pe_lc (own := [("score", 3)]) rfl scN (mi_lst ((me_meth0 (tbl := [("Scores", gScores__wefts)]) (k := 1) (allc (mScores__wefts T) (all0)) (hr.mono (by decide)) hgd tk (me_var (pv 1))))) (blkOk_by (N := ["self", "scores", "count", "score"]) (sc := defScope sTally____init__) (by decide +kernel)) (fun _ _ _ _ _ => pg_name (i := 3) scN rfl (by first | exact Or.inl rfl | exact Or.inr rfl)) (fun _ _ _ _ _ => mts_nil) (fun _ _ _ _ _ => me_op op_sub os_sub (me_cb (pe_callB call_len (by rfl) T.b_len bt_len (ma_cons ((me_meth0 (tbl := [("Scores", gScores__warps)]) (k := 1) (allc (mScores__warps T) (all0)) (hr.mono (by decide)) hgd takesW0 (me_var (pv 1)))) (ma_nil))) cs_len) (me_var (pv 3)))) (fun _ _ _ h => lc_read (good_name (by decide)) (rg_name) h))) (ms_one (ms_fld (allc (T.fl_Tally_known_ways) (all0)) (me_var (pv 0)) (me_dictN0 (by rfl))))))
theorem mkTally (T : TxB PWc.P K mg base) : MakK PWc.P PWc.w K mg base "Tally" gTally____init__ 2 := by
  obtain ⟨C, f, h1, h2, h3⟩ := T.mk_Tally
  obtain ⟨fd, F, hb⟩ := kTally____init__ (base := base) T h3
  exact ⟨C, f, fd, _, h1, T.gx _ _ h1, h2, F, hb⟩
theorem kTally__next_rows (T : TxB PWc.P K mg base) {f : Addr} (O : OwnF K "next_rows" "Tally.next_rows" sTally__next_rows ["self", "at", "lacks"] f) : ∃ fd, GFn PWc.P PWc.w K mg base 1 f fd ["self", "at", "lacks"] gTally__next_rows ∧ Binds K fd ["self", "at", "lacks"] [] := by
  obtain ⟨fd, F, hb⟩ := O
  refine ⟨fd, gfn_of (k := 0) F scTally__next_rows fun cdv A outer s H E hr hgd => ?_, hb⟩
  have scN := scTally__next_rows.nd
  have tk := takes_of (X := cxOf (CX PWc.P PWc.w) PWc.P PWc.w K mg base ["self", "at", "lacks", "found", "number", "width", "rest", "text", "later", "lack", "sign"] "Tally.next_rows" (defScope sTally__next_rows) f cdv A outer s H E) (E := E) rfl rfl rfl rfl
  exact ms_cons (ms_asg (me_tup (ma_cons (me_cb (pe_callB call_len (by rfl) T.b_len bt_len (ma_cons (me_var (pv 2)) (ma_nil))) cs_len) (ma_cons (me_op op_sub os_sub (me_op op_sub os_sub (me_cb (pe_callB call_len (by rfl) T.b_len bt_len (ma_cons (me_fld (allc (T.fl_Tally_row_ones) (all0)) (me_var (pv 0))) (ma_nil))) cs_len) (me_var (pv 1))) (me_int)) (ma_nil)))) (mg_tup rfl (mgs_cons (i := 5) scN rfl (by first | exact Or.inl rfl | exact Or.inr rfl) (mgs_cons (i := 6) scN rfl (by first | exact Or.inl rfl | exact Or.inr rfl) (mgs_nil))))) (ms_cons (ms_set (i := 3) scN rfl (by first | exact Or.inl rfl | exact Or.inr rfl) (me_lstM (ma_nil))) (ms_cons (ms_for (passes_of rfl) rfl (mi_r1 (pi_range1 (by rfl) T.b_range (ma_cons (me_op op_shl os_shlI (me_int) (me_var (pv 5))) (ma_nil)))) (mg_name (i := 4) scN rfl (by first | exact Or.inl rfl | exact Or.inr rfl)) (ms_cons (ms_set (i := 7) scN rfl (by first | exact Or.inl rfl | exact Or.inr rfl) (me_sliceY (me_js1 (me_fmt6 (me_var (pv 4)))) (mo_some (me_un un_neg us_neg (me_var (pv 5)))) (mo_none))) (ms_cons (ms_set (i := 8) scN rfl (by first | exact Or.inl rfl | exact Or.inr rfl) (me_cb (pe_callTy call_tuple_of (by rfl) T.b_tuple bt_tuple (ma_cons (PEi (pe_lc (own := [("lack", 9), ("sign", 10)]) rfl scN (mk_zip (pi_zipG (by rfl) T.b_zip (ma_cons (me_var (pv 2)) (ma_cons (me_var (pv 7)) (ma_nil))))) (blkOk_by (N := ["self", "at", "lacks", "found", "number", "width", "rest", "text", "later", "lack", "sign"]) (sc := defScope sTally__next_rows) (by decide +kernel)) (fun _ _ _ _ _ => pg_tup rfl (pgs_cons (pg_name (i := 9) scN rfl (by first | exact Or.inl rfl | exact Or.inr rfl)) (pgs_cons (pg_name (i := 10) scN rfl (by first | exact Or.inl rfl | exact Or.inr rfl)) pgs_nil))) (fun _ _ _ _ _ => mts_nil) (fun _ _ _ _ _ => me_op op_sub os_sub (me_var (pv 9)) (me_cb (pe_callTy call_intF (by rfl) T.b_int bt_int (ma_cons (me_cmp (op_eqY hr.units) os_eqX (me_var (pv 10)) (me_str) (nomark _)) (ma_nil))) cs_intF))) (fun _ _ _ h => lc_readW (good_names (by decide) (by decide)) (rg_names) h)) (ma_nil))) cs_tuple)) (ms_one (ms_if (PW.pt (mw_and (mt_cmp (op_eqY hr.units) os_eqX (me_m1 (pe_m1 PySem.F.slot_str_count PySem.F.type_str_count mt_count (me_var (pv 7)) (me_str)) m1_count) (me_ix ix_seq os_item (me_fld (allc (T.fl_Tally_row_ones) (all0)) (me_var (pv 0))) (me_var (pv 1)) (fun _ _ => rfl)) (nomark _)) (mw_and1 (mt_val (me_cb (pe_callB (cr_all rfl) (by rfl) T.b_all bt_all (ma_cons (PEi (pe_lc (own := [("lack", 9)]) rfl scN (mk_any (me_var (pv 8))) (blkOk_by (N := ["self", "at", "lacks", "found", "number", "width", "rest", "text", "later", "lack", "sign"]) (sc := defScope sTally__next_rows) (by decide +kernel)) (fun _ _ _ _ _ => pg_name (i := 9) scN rfl (by first | exact Or.inl rfl | exact Or.inr rfl)) (fun _ _ _ _ _ => mts_nil) (fun _ _ _ _ _ => me_chain op_leA os_le op_leA os_le (me_int) (me_var (pv 9)) (me_var (pv 6)))) (fun _ _ _ h => lc_readW (good_name (by decide)) (rg_name) h)) (ma_nil))) cs_all))))) (ms_one (ms_expr (me_bm (pe_bm PySem.F.plainAttrs_list PySem.F.slot_list_append PySem.F.type_list_append mt_append (me_var (pv 3)) (ma_cons (me_tup (ma_cons (me_var (pv 7)) (ma_cons (me_var (pv 8)) (ma_nil)))) (ma_nil))) meth_append))) (ms_nil)))))) (ms_one (ms_ret (me_frz (me_var (pv 3)))))))
theorem mTally__next_rows (T : TxB PWc.P K mg base) {k : Nat} (hk : 1 ≤ k := by decide) : MthK PWc.P PWc.w K mg base "Tally" "next_rows" gTally__next_rows k := by
  obtain ⟨C, f, h1, h2, h3, h4⟩ := T.me_Tally_next_rows
  obtain ⟨fd, F, hb⟩ := kTally__next_rows (base := base) T h4
  exact ⟨C, f, fd, _, h1, h2, h3, F.mono hk, hb⟩
theorem kTally__ways_r (T : TxB PWc.P K mg base) : ∀ (n : Nat) {f : Addr} (O : OwnF K "ways" "Tally.ways" sTally__ways ["self", "at", "lacks"] f), ∃ fd, GFn PWc.P PWc.w K mg base (2 + n) f fd ["self", "at", "lacks"] (gTally__ways_r n) ∧ Binds K fd ["self", "at", "lacks"] []
  | 0, f, O => by
    obtain ⟨fd, F, hb⟩ := O
    exact ⟨fd, gfn_none, hb⟩
  | n + 1, f, O => by
    have m_self : ∀ {k : Nat} (hk : 2 + n ≤ k), MthK PWc.P PWc.w K mg base "Tally" "ways" (gTally__ways_r n) k := fun hk => by
      obtain ⟨C, f, h1, h2, h3, h4⟩ := T.me_Tally_ways
      obtain ⟨fd, F, hb⟩ := kTally__ways_r T n h4
      exact ⟨C, f, fd, _, h1, h2, h3, F.mono hk, hb⟩
    obtain ⟨fd, F, hb⟩ := O
    refine ⟨fd, gfn_of (k := 2 + n) F scTally__ways fun cdv A outer s H E hr hgd => ?_, hb⟩
    have scN := scTally__ways.nd
    have tk := takes_of (X := cxOf (CX PWc.P PWc.w) PWc.P PWc.w K mg base ["self", "at", "lacks", "key", "text", "later"] "Tally.ways" (defScope sTally__ways) f cdv A outer s H E) (E := E) rfl rfl rfl rfl
    exact ms_cons (ms_set (i := 3) scN rfl (by first | exact Or.inl rfl | exact Or.inr rfl) (me_tup (ma_cons (me_var (pv 1)) (ma_cons (me_cb (pe_callTy call_tuple_of (by rfl) T.b_tuple bt_tuple (ma_cons (me_cb (pe_callB cr_sortedY (by rfl) T.b_sorted bt_sorted (ma_cons (me_var (pv 2)) (ma_nil))) cs_sortedY) (ma_nil))) cs_tuple) (ma_nil))))) (ms_cons (ms_if (mt_cmp (op_notInN (u64 hr)) os_inN (me_var (pv 3)) (me_fld (allc (T.fl_Tally_known_ways) (all0)) (me_var (pv 0))) (by with_unfolding_all rfl)) (ms_one (ms_if (mt_cmp (op_eqY hr.units) os_eqX (me_var (pv 1)) (me_cb (pe_callB call_len (by rfl) T.b_len bt_len (ma_cons (me_fld (allc (T.fl_Tally_row_ones) (all0)) (me_var (pv 0))) (ma_nil))) cs_len) (nomark _)) (ms_one (ms_asg (me_cb (pe_callTy call_intF (by rfl) T.b_int bt_int (ma_cons (me_not (me_cb (pe_callB (cr_anyT rfl) (by rfl) T.b_any bt_any (ma_cons (me_var (pv 2)) (ma_nil))) cs_anyT)) (ma_nil))) cs_intF) (mg_subN (pg_sub (me_fld (allc (T.fl_Tally_known_ways) (all0)) (me_var (pv 0))) (me_var (pv 3)) (set_N (u64 hr)))))) (ms_one (ms_asg (me_cb (pe_callB (cr_sumY rfl) (by rfl) T.b_sum bt_sum (ma_cons (PEi (pe_lc (own := [("text", 4), ("later", 5)]) rfl scN (mi_lst ((me_meth (tbl := [("Tally", gTally__next_rows)]) (k := 1) (allc (mTally__next_rows T) (all0)) (hr.mono (by omega)) hgd tk (me_var (pv 0)) (ma_cons (me_var (pv 1)) (ma_cons (me_ix ix_seq os_item (me_var (pv 3)) (me_int) (fun _ _ => rfl)) (ma_nil)))))) (blkOk_by (N := ["self", "at", "lacks", "key", "text", "later"]) (sc := defScope sTally__ways) (by decide +kernel)) (fun _ _ _ _ _ => pg_tup rfl (pgs_cons (pg_name (i := 4) scN rfl (by first | exact Or.inl rfl | exact Or.inr rfl)) (pgs_cons (pg_name (i := 5) scN rfl (by first | exact Or.inl rfl | exact Or.inr rfl)) pgs_nil))) (fun _ _ _ _ _ => mts_nil) (fun _ _ _ _ _ => (me_meth (tbl := [("Tally", gTally__ways_r n)]) (k := 2 + n) (allc (m_self (Nat.le_refl _)) (all0)) (hr.mono (by omega)) hgd takesW0 (me_var (pv 0)) (ma_cons (me_op op_addA os_add (me_var (pv 1)) (me_int)) (ma_cons (me_var (pv 5)) (ma_nil)))))) (fun _ _ _ h => lc_read (good_names (by decide) (by decide)) (rg_names) h)) (ma_nil))) cs_sumY) (mg_subN (pg_sub (me_fld (allc (T.fl_Tally_known_ways) (all0)) (me_var (pv 0))) (me_var (pv 3)) (set_N (u64 hr)))))))) (ms_nil)) (ms_one (ms_ret (me_getN (u64 hr) (me_fld (allc (T.fl_Tally_known_ways) (all0)) (me_var (pv 0))) (me_var (pv 3)) (fun _ _ => rfl)))))
theorem kTally__ways (T : TxB PWc.P K mg base) {f : Addr} (O : OwnF K "ways" "Tally.ways" sTally__ways ["self", "at", "lacks"] f) : ∃ fd, GFn PWc.P PWc.w K mg base 14 f fd ["self", "at", "lacks"] gTally__ways ∧ Binds K fd ["self", "at", "lacks"] [] := kTally__ways_r T 12 O
theorem mTally__ways (T : TxB PWc.P K mg base) {k : Nat} (hk : 14 ≤ k := by decide) : MthK PWc.P PWc.w K mg base "Tally" "ways" gTally__ways k := by
  obtain ⟨C, f, h1, h2, h3, h4⟩ := T.me_Tally_ways
  obtain ⟨fd, F, hb⟩ := kTally__ways (base := base) T h4
  exact ⟨C, f, fd, _, h1, h2, h3, F.mono hk, hb⟩
theorem kTally__many (T : TxB PWc.P K mg base) {f : Addr} (O : OwnF K "many" "Tally.many" sTally__many ["self"] f) : ∃ fd, GFn PWc.P PWc.w K mg base 15 f fd ["self"] gTally__many ∧ Binds K fd ["self"] [] := by
  obtain ⟨fd, F, hb⟩ := O
  refine ⟨fd, gfn_of (k := 14) F scTally__many fun cdv A outer s H E hr hgd => ?_, hb⟩
  have scN := scTally__many.nd
  have tk := takes_of (X := cxOf (CX PWc.P PWc.w) PWc.P PWc.w K mg base ["self"] "Tally.many" (defScope sTally__many) f cdv A outer s H E) (E := E) rfl rfl rfl rfl
  exact ms_one (ms_ret ((me_meth (tbl := [("Tally", gTally__ways)]) (k := 14) (allc (mTally__ways T) (all0)) (hr.mono (by decide)) hgd tk (me_var (pv 0)) (ma_cons (me_int) (ma_cons (me_fld (allc (T.fl_Tally_all_lacks) (all0)) (me_var (pv 0))) (ma_nil))))))
theorem mTally__many (T : TxB PWc.P K mg base) {k : Nat} (hk : 15 ≤ k := by decide) : MthK PWc.P PWc.w K mg base "Tally" "many" gTally__many k := by
  obtain ⟨C, f, h1, h2, h3, h4⟩ := T.me_Tally_many
  obtain ⟨fd, F, hb⟩ := kTally__many (base := base) T h4
  exact ⟨C, f, fd, _, h1, h2, h3, F.mono hk, hb⟩
theorem kcount_cloths (T : TxB PWc.P K mg base) : GFn PWc.P PWc.w K mg base 16 T.fcount_cloths.a T.fcount_cloths.fd ["scores"] gcount_cloths := by
  refine gfn_of (k := 15) T.fcount_cloths.F sccount_cloths fun cdv A outer s H E hr hgd => ?_
  have scN := sccount_cloths.nd
  have tk := takes_of (X := cxOf (CX PWc.P PWc.w) PWc.P PWc.w K mg base ["scores"] "count_cloths" (defScope scount_cloths) T.fcount_cloths.a cdv A outer s H E) (E := E) rfl rfl rfl rfl
  exact ms_cons (ms_expr (me_call (kneed_scores T) (hr.mono (by decide)) hgd (by rfl) T.fneed_scores.mgf T.fneed_scores.F.kp T.fneed_scores.b tk (ma_cons (me_var (pv 0)) (ma_nil)))) (ms_one (ms_ret ((me_meth0 (tbl := [("Tally", gTally__many)]) (k := 15) (allc (mTally__many T) (all0)) (hr.mono (by decide)) hgd tk (me_frzI ((me_make (mkTally T) (hr.mono (by decide)) hgd (by rfl) tk (ma_cons (me_var (pv 0)) (ma_nil)))))))))
theorem klaw (T : TxB PWc.P K mg base) : GFn PWc.P PWc.w K mg base 17 T.flaw.a T.flaw.fd ["_law_script"] glaw := by
  refine gfn_of (k := 16) T.flaw.F sclaw fun cdv A outer s H E hr hgd => ?_
  have scN := sclaw.nd
  have tk := takes_of (X := cxOf (CX PWc.P PWc.w) PWc.P PWc.w K mg base ["_law_script", "_law_k", "_law_box_here", "_law_rows_here", "_law_turn", "_law_warps", "_law_wefts", "_law_lists", "_law_due", "_law_mixed_here", "_law_one", "_law_side"] "law" (defScope slaw) T.flaw.a cdv A outer s H E) (E := E) rfl rfl rfl rfl
  exact ms_cons (ms_for (passes_of rfl) rfl (mi_r1 (pi_range1 (by rfl) T.b_range (ma_cons (me_cb (pe_callB (call_max2 rfl) (by rfl) T.b_max bt_max (ma_cons (me_int) (ma_cons (me_cb (pe_callB (call_min2 rfl) (by rfl) T.b_min bt_min (ma_cons (me_int) (ma_cons (me_cb (pe_callB call_len (by rfl) T.b_len bt_len (ma_cons (me_var (pv 0)) (ma_nil))) cs_len) (ma_nil)))) cs_min2) (ma_nil)))) cs_max2) (ma_nil)))) (mg_name (i := 1) scN rfl (by first | exact Or.inl rfl | exact Or.inr rfl)) (ms_cons (ms_set (i := 2) scN rfl (by first | exact Or.inl rfl | exact Or.inr rfl) (me_call (k_law_box T) (hr.mono (by decide)) hgd (by rfl) T.f_law_box.mgf T.f_law_box.F.kp T.f_law_box.b tk (ma_cons (me_call (k_law_cell T) (hr.mono (by decide)) hgd (by rfl) T.f_law_cell.mgf T.f_law_cell.F.kp T.f_law_cell.b tk (ma_cons (me_var (pv 0)) (ma_cons (me_var (pv 1)) (ma_nil)))) (ma_nil)))) (ms_cons (ms_asg (me_if (mt_cmp (op_neY hr.units) os_neX (me_var (pv 1)) (me_int) (nomark _)) (PEi (pe_lc (own := [("_law_side", 11)]) rfl scN (mi_r1 (pi_range1 (by rfl) T.b_range (ma_cons (me_int) (ma_nil)))) (blkOk_by (N := ["_law_script", "_law_k", "_law_box_here", "_law_rows_here", "_law_turn", "_law_warps", "_law_wefts", "_law_lists", "_law_due", "_law_mixed_here", "_law_one", "_law_side"]) (sc := defScope slaw) (by decide +kernel)) (fun _ _ _ _ _ => pg_name (i := 11) scN rfl (by first | exact Or.inl rfl | exact Or.inr rfl)) (fun _ _ _ _ _ => mts_nil) (fun _ _ _ _ _ => me_op op_addA os_add (me_int) (me_call (k_law_take T) (hr.mono (by decide)) hgd (by rfl) T.f_law_take.mgf T.f_law_take.F.kp T.f_law_take.b takesW0 (ma_cons (me_var (pv 2)) (ma_cons (me_int) (ma_nil)))))) (fun _ _ _ h => lc_read (good_name (by decide)) (rg_name) h)) (me_lst (ma_cons (me_int) (ma_cons (me_int) (ma_nil))))) (mg_tupL rfl (mgs_cons (i := 5) scN rfl (by first | exact Or.inl rfl | exact Or.inr rfl) (mgs_cons (i := 6) scN rfl (by first | exact Or.inl rfl | exact Or.inr rfl) (mgs_nil))))) (ms_cons (ms_set (i := 3) scN rfl (by first | exact Or.inl rfl | exact Or.inr rfl) (me_call (k_law_rows T) (hr.mono (by decide)) hgd (by rfl) T.f_law_rows.mgf T.f_law_rows.F.kp T.f_law_rows.b tk (ma_cons (me_var (pv 2)) (ma_cons (me_var (pv 5)) (ma_cons (me_var (pv 6)) (ma_nil)))))) (ms_one (ms_for (passes_of rfl) rfl (mi_r1 (pi_range1 (by rfl) T.b_range (ma_cons (me_int) (ma_nil)))) (mg_name (i := 4) scN rfl (by first | exact Or.inl rfl | exact Or.inr rfl)) (ms_cons (ms_set (i := 7) scN rfl (by first | exact Or.inl rfl | exact Or.inr rfl) (me_if (mt_cmp (op_eqY hr.units) os_eqX (me_var (pv 4)) (me_int) (nomark _)) (me_call (k_law_scores T) (hr.mono (by decide)) hgd (by rfl) T.f_law_scores.mgf T.f_law_scores.F.kp T.f_law_scores.b tk (ma_cons (me_var (pv 3)) (ma_nil))) (me_call (k_law_moved T) (hr.mono (by decide)) hgd (by rfl) T.f_law_moved.mgf T.f_law_moved.F.kp T.f_law_moved.b tk (ma_cons (me_var (pv 2)) (ma_cons (me_call (k_law_scores T) (hr.mono (by decide)) hgd (by rfl) T.f_law_scores.mgf T.f_law_scores.F.kp T.f_law_scores.b tk (ma_cons (me_var (pv 3)) (ma_nil))) (ma_nil)))))) (ms_cons (ms_set (i := 8) scN rfl (by first | exact Or.inl rfl | exact Or.inr rfl) (me_call (k_law_count T) (hr.mono (by decide)) hgd (by rfl) T.f_law_count.mgf T.f_law_count.F.kp T.f_law_count.b tk (ma_cons (me_var (pv 7)) (ma_nil)))) (ms_cons (ms_set (i := 9) scN rfl (by first | exact Or.inl rfl | exact Or.inr rfl) (me_call (k_law_mixed T) (hr.mono (by decide)) hgd (by rfl) T.f_law_mixed.mgf T.f_law_mixed.F.kp T.f_law_mixed.b tk (ma_cons (me_var (pv 2)) (ma_cons (me_ix ix_seq os_item (me_var (pv 7)) (me_int) (fun _ _ => rfl)) (ma_nil))))) (ms_one (ms_for (passes_of rfl) rfl (mi_lst (me_lst (ma_cons (me_frzI ((me_make (mkScores T) (hr.mono (by decide)) hgd (by rfl) tk (ma_cons (me_ix ix_seq os_item (me_var (pv 7)) (me_int) (fun _ _ => rfl)) (ma_cons (me_ix ix_seq os_item (me_var (pv 7)) (me_int) (fun _ _ => rfl)) (ma_nil)))))) (ma_cons (me_frzI ((me_make (mkScores T) (hr.mono (by decide)) hgd (by rfl) tk (ma_cons (me_cb (pe_callTy call_tuple_of (by rfl) T.b_tuple bt_tuple (ma_cons (me_var (pv 9)) (ma_nil))) cs_tuple) (ma_cons (me_call (k_law_mixed T) (hr.mono (by decide)) hgd (by rfl) T.f_law_mixed.mgf T.f_law_mixed.F.kp T.f_law_mixed.b tk (ma_cons (me_var (pv 2)) (ma_cons (me_ix ix_seq os_item (me_var (pv 7)) (me_int) (fun _ _ => rfl)) (ma_nil)))) (ma_nil)))))) (ma_nil))))) (mg_name (i := 10) scN rfl (by first | exact Or.inl rfl | exact Or.inr rfl)) (ms_one (ms_if (PW.pt (mw_or (mt_cmp (op_neY hr.units) os_neX (me_cb (pe_callB (call_reprX hgd (u100 hr)) (by rfl) T.b_repr bt_repr (ma_cons (me_call (kcount_cloths T) (hr.mono (by decide)) hgd (by rfl) T.fcount_cloths.mgf T.fcount_cloths.F.kp T.fcount_cloths.b tk (ma_cons (me_var (pv 10)) (ma_nil))) (ma_nil))) cs_reprX) (me_cb (pe_callB (call_reprX hgd (u100 hr)) (by rfl) T.b_repr bt_repr (ma_cons (me_var (pv 8)) (ma_nil))) cs_reprX) (nomark _)) (mw_or1 (mt_cmp (op_neY hr.units) os_neX (me_cb (pe_callB (call_reprX hgd (u100 hr)) (by rfl) T.b_repr bt_repr (ma_cons (me_call (kcount_cloths T) (hr.mono (by decide)) hgd (by rfl) T.fcount_cloths.mgf T.fcount_cloths.F.kp T.fcount_cloths.b tk (ma_cons (me_var (pv 10)) (ma_nil))) (ma_nil))) cs_reprX) (me_cb (pe_callB (call_reprX hgd (u100 hr)) (by rfl) T.b_repr bt_repr (ma_cons (me_var (pv 8)) (ma_nil))) cs_reprX) (nomark _))))) (ms_one (ms_ret (me_bl))) (ms_nil)))))))))))))) (ms_one (ms_ret (me_bl)))
end
theorem law_fin {h : Heap} {K : PySem.W.Frag} {mg : Str → Option Value} {fa : Addr} (X : K.In h) (G : h.Ns mainGlobals mg) (hmg : mg "law" = some (.ref fa))
    (z_all : PySem.W.nsIn K mainGlobals "all" = some none)
    (z_any : PySem.W.nsIn K mainGlobals "any" = some none)
    (z_bool : PySem.W.nsIn K mainGlobals "bool" = some none)
    (z_int : PySem.W.nsIn K mainGlobals "int" = some none)
    (z_isinstance : PySem.W.nsIn K mainGlobals "isinstance" = some none)
    (z_len : PySem.W.nsIn K mainGlobals "len" = some none)
    (z_list : PySem.W.nsIn K mainGlobals "list" = some none)
    (z_max : PySem.W.nsIn K mainGlobals "max" = some none)
    (z_min : PySem.W.nsIn K mainGlobals "min" = some none)
    (z_range : PySem.W.nsIn K mainGlobals "range" = some none)
    (z_repr : PySem.W.nsIn K mainGlobals "repr" = some none)
    (z_sorted : PySem.W.nsIn K mainGlobals "sorted" = some none)
    (z_sum : PySem.W.nsIn K mainGlobals "sum" = some none)
    (z_tuple : PySem.W.nsIn K mainGlobals "tuple" = some none)
    (z_zip : PySem.W.nsIn K mainGlobals "zip" = some none)
    {t_MOST_NUMBERED : Tok}
    (a_MOST_NUMBERED : PySem.W.nsIn K mainGlobals "MOST_NUMBERED" = some (some (.int 6 t_MOST_NUMBERED)))
    {t_MOST_THREADS : Tok}
    (a_MOST_THREADS : PySem.W.nsIn K mainGlobals "MOST_THREADS" = some (some (.int 8 t_MOST_THREADS)))
    {AScores : Addr}
    (caScores : PySem.W.nsIn K mainGlobals "Scores" = some (some (.ref AScores)))
    (cpScores : PySem.W.plainGet K AScores Str.empty = true)
    (cdScores : PySem.W.hasDictIn K AScores = true)
    (coScores : PySem.W.plainOver K AScores = true)
    (csScores : PySem.W.findIn K (.ref AScores) "__setattr__" = some (some (.builtin "object.__setattr__")))
    {ATally : Addr}
    (caTally : PySem.W.nsIn K mainGlobals "Tally" = some (some (.ref ATally)))
    (cpTally : PySem.W.plainGet K ATally Str.empty = true)
    (cdTally : PySem.W.hasDictIn K ATally = true)
    (coTally : PySem.W.plainOver K ATally = true)
    (csTally : PySem.W.findIn K (.ref ATally) "__setattr__" = some (some (.builtin "object.__setattr__")))
    (fn_Scores_kept_scores : PySem.W.findIn K (.ref AScores) "kept_scores" = some none)
    (fn_Tally_all_lacks : PySem.W.findIn K (.ref ATally) "all_lacks" = some none)
    (fn_Tally_known_ways : PySem.W.findIn K (.ref ATally) "known_ways" = some none)
    (fn_Tally_row_ones : PySem.W.findIn K (.ref ATally) "row_ones" = some none)
    (isp : PySem.W.specialIn K (.builtin "object.__class__") "__get__" = some (some (.builtin "getset_descriptor.__get__")))
    (ist : PySem.W.takesIn K (.builtin "object.__class__") = some true)
    (iscScores : PySem.W.findIn K (.ref AScores) "__class__" = some (some (.builtin "object.__class__")))
    (isoScores : PySem.W.mroIn K AScores (.type "object") = some true)
    (iscTally : PySem.W.findIn K (.ref ATally) "__class__" = some (some (.builtin "object.__class__")))
    (isoTally : PySem.W.mroIn K ATally (.type "object") = some true)
    (isiScores : PySem.W.isClsIn K AScores = true)
    (isyScores : PySem.W.typeIn K (.ref AScores) = some (.type "type"))
    (isbScores_NoneType : PySem.W.subIn K (.type "NoneType") (.ref AScores) = some false)
    (isbScores_bool : PySem.W.subIn K (.type "bool") (.ref AScores) = some false)
    (isbScores_int : PySem.W.subIn K (.type "int") (.ref AScores) = some false)
    (isbScores_str : PySem.W.subIn K (.type "str") (.ref AScores) = some false)
    (isbScores_list : PySem.W.subIn K (.type "list") (.ref AScores) = some false)
    (isbScores_tuple : PySem.W.subIn K (.type "tuple") (.ref AScores) = some false)
    (isbScores_dict : PySem.W.subIn K (.type "dict") (.ref AScores) = some false)
    (isnScores_Tally : (Value.ref ATally == Value.ref AScores) = false)
    (isvScores_Tally : PySem.W.subIn K (.ref ATally) (.ref AScores) = some false)
    {fScores____init__ : Addr}
    (kiScores : PySem.W.makesIn K AScores = true)
    (kfScores : PySem.W.findIn K (.ref AScores) "__init__" = some (some (.ref fScores____init__)))
    (knScores : PySem.W.isFn K (.ref fScores____init__) = true)
    (kkScores : PySem.W.keepIn K (.ref AScores) = true)
    {ocScores____init__ : Value} {odScores____init__ anScores____init__ : Option Addr} {slScores____init__ : Array (Option Value)} {kVScores____init__ dcScores____init__ pmScores____init__ cdScores____init__ ctScores____init__ : Value}
    (lScores____init__ : K.lookup fScores____init__ = some ⟨ocScores____init__, odScores____init__, .func (PySem.W.fnOf "__init__" "Scores.__init__" (defArgs sScores____init__) (defBody sScores____init__) (defScope sScores____init__) .none kVScores____init__ dcScores____init__ pmScores____init__ anScores____init__ cdScores____init__ ctScores____init__), slScores____init__⟩)
    (cScores____init__ : PySem.W.codeIn K cdScores____init__ "Scores.__init__" = true)
    (kScores____init__ : PySem.W.keepIn K (.ref fScores____init__) = true)
    {fTally____init__ : Addr}
    (kiTally : PySem.W.makesIn K ATally = true)
    (kfTally : PySem.W.findIn K (.ref ATally) "__init__" = some (some (.ref fTally____init__)))
    (knTally : PySem.W.isFn K (.ref fTally____init__) = true)
    (kkTally : PySem.W.keepIn K (.ref ATally) = true)
    {ocTally____init__ : Value} {odTally____init__ anTally____init__ : Option Addr} {slTally____init__ : Array (Option Value)} {kVTally____init__ dcTally____init__ pmTally____init__ cdTally____init__ ctTally____init__ : Value}
    (lTally____init__ : K.lookup fTally____init__ = some ⟨ocTally____init__, odTally____init__, .func (PySem.W.fnOf "__init__" "Tally.__init__" (defArgs sTally____init__) (defBody sTally____init__) (defScope sTally____init__) .none kVTally____init__ dcTally____init__ pmTally____init__ anTally____init__ cdTally____init__ ctTally____init__), slTally____init__⟩)
    (cTally____init__ : PySem.W.codeIn K cdTally____init__ "Tally.__init__" = true)
    (kTally____init__ : PySem.W.keepIn K (.ref fTally____init__) = true)
    {fScores__warps : Addr}
    (mfScores__warps : PySem.W.findIn K (.ref AScores) "warps" = some (some (.ref fScores__warps)))
    (mnScores__warps : PySem.W.isFn K (.ref fScores__warps) = true)
    {ocScores__warps : Value} {odScores__warps anScores__warps : Option Addr} {slScores__warps : Array (Option Value)} {kVScores__warps dcScores__warps pmScores__warps cdScores__warps ctScores__warps : Value}
    (lScores__warps : K.lookup fScores__warps = some ⟨ocScores__warps, odScores__warps, .func (PySem.W.fnOf "warps" "Scores.warps" (defArgs sScores__warps) (defBody sScores__warps) (defScope sScores__warps) .none kVScores__warps dcScores__warps pmScores__warps anScores__warps cdScores__warps ctScores__warps), slScores__warps⟩)
    (cScores__warps : PySem.W.codeIn K cdScores__warps "Scores.warps" = true)
    (kScores__warps : PySem.W.keepIn K (.ref fScores__warps) = true)
    {fScores__wefts : Addr}
    (mfScores__wefts : PySem.W.findIn K (.ref AScores) "wefts" = some (some (.ref fScores__wefts)))
    (mnScores__wefts : PySem.W.isFn K (.ref fScores__wefts) = true)
    {ocScores__wefts : Value} {odScores__wefts anScores__wefts : Option Addr} {slScores__wefts : Array (Option Value)} {kVScores__wefts dcScores__wefts pmScores__wefts cdScores__wefts ctScores__wefts : Value}
    (lScores__wefts : K.lookup fScores__wefts = some ⟨ocScores__wefts, odScores__wefts, .func (PySem.W.fnOf "wefts" "Scores.wefts" (defArgs sScores__wefts) (defBody sScores__wefts) (defScope sScores__wefts) .none kVScores__wefts dcScores__wefts pmScores__wefts anScores__wefts cdScores__wefts ctScores__wefts), slScores__wefts⟩)
    (cScores__wefts : PySem.W.codeIn K cdScores__wefts "Scores.wefts" = true)
    (kScores__wefts : PySem.W.keepIn K (.ref fScores__wefts) = true)
    {fTally__many : Addr}
    (mfTally__many : PySem.W.findIn K (.ref ATally) "many" = some (some (.ref fTally__many)))
    (mnTally__many : PySem.W.isFn K (.ref fTally__many) = true)
    {ocTally__many : Value} {odTally__many anTally__many : Option Addr} {slTally__many : Array (Option Value)} {kVTally__many dcTally__many pmTally__many cdTally__many ctTally__many : Value}
    (lTally__many : K.lookup fTally__many = some ⟨ocTally__many, odTally__many, .func (PySem.W.fnOf "many" "Tally.many" (defArgs sTally__many) (defBody sTally__many) (defScope sTally__many) .none kVTally__many dcTally__many pmTally__many anTally__many cdTally__many ctTally__many), slTally__many⟩)
    (cTally__many : PySem.W.codeIn K cdTally__many "Tally.many" = true)
    (kTally__many : PySem.W.keepIn K (.ref fTally__many) = true)
    {fTally__next_rows : Addr}
    (mfTally__next_rows : PySem.W.findIn K (.ref ATally) "next_rows" = some (some (.ref fTally__next_rows)))
    (mnTally__next_rows : PySem.W.isFn K (.ref fTally__next_rows) = true)
    {ocTally__next_rows : Value} {odTally__next_rows anTally__next_rows : Option Addr} {slTally__next_rows : Array (Option Value)} {kVTally__next_rows dcTally__next_rows pmTally__next_rows cdTally__next_rows ctTally__next_rows : Value}
    (lTally__next_rows : K.lookup fTally__next_rows = some ⟨ocTally__next_rows, odTally__next_rows, .func (PySem.W.fnOf "next_rows" "Tally.next_rows" (defArgs sTally__next_rows) (defBody sTally__next_rows) (defScope sTally__next_rows) .none kVTally__next_rows dcTally__next_rows pmTally__next_rows anTally__next_rows cdTally__next_rows ctTally__next_rows), slTally__next_rows⟩)
    (cTally__next_rows : PySem.W.codeIn K cdTally__next_rows "Tally.next_rows" = true)
    (kTally__next_rows : PySem.W.keepIn K (.ref fTally__next_rows) = true)
    {fTally__ways : Addr}
    (mfTally__ways : PySem.W.findIn K (.ref ATally) "ways" = some (some (.ref fTally__ways)))
    (mnTally__ways : PySem.W.isFn K (.ref fTally__ways) = true)
    {ocTally__ways : Value} {odTally__ways anTally__ways : Option Addr} {slTally__ways : Array (Option Value)} {kVTally__ways dcTally__ways pmTally__ways cdTally__ways ctTally__ways : Value}
    (lTally__ways : K.lookup fTally__ways = some ⟨ocTally__ways, odTally__ways, .func (PySem.W.fnOf "ways" "Tally.ways" (defArgs sTally__ways) (defBody sTally__ways) (defScope sTally__ways) .none kVTally__ways dcTally__ways pmTally__ways anTally__ways cdTally__ways ctTally__ways), slTally__ways⟩)
    (cTally__ways : PySem.W.codeIn K cdTally__ways "Tally.ways" = true)
    (kTally__ways : PySem.W.keepIn K (.ref fTally__ways) = true)
    {f_law_box : Addr} {oc_law_box : Value} {od_law_box an_law_box : Option Addr} {sl_law_box : Array (Option Value)} {kV_law_box dc_law_box pm_law_box cd_law_box ct_law_box : Value}
    (a_law_box : PySem.W.nsIn K mainGlobals "_law_box" = some (some (.ref f_law_box)))
    (l_law_box : K.lookup f_law_box = some ⟨oc_law_box, od_law_box, .func (PySem.W.fnOf "_law_box" "_law_box" (defArgs s_law_box) (defBody s_law_box) (defScope s_law_box) .none kV_law_box dc_law_box pm_law_box an_law_box cd_law_box ct_law_box), sl_law_box⟩)
    (c_law_box : PySem.W.codeIn K cd_law_box "_law_box" = true)
    (k_law_box : PySem.W.keepIn K (.ref f_law_box) = true)
    {f_law_cell : Addr} {oc_law_cell : Value} {od_law_cell an_law_cell : Option Addr} {sl_law_cell : Array (Option Value)} {kV_law_cell dc_law_cell pm_law_cell cd_law_cell ct_law_cell : Value}
    (a_law_cell : PySem.W.nsIn K mainGlobals "_law_cell" = some (some (.ref f_law_cell)))
    (l_law_cell : K.lookup f_law_cell = some ⟨oc_law_cell, od_law_cell, .func (PySem.W.fnOf "_law_cell" "_law_cell" (defArgs s_law_cell) (defBody s_law_cell) (defScope s_law_cell) .none kV_law_cell dc_law_cell pm_law_cell an_law_cell cd_law_cell ct_law_cell), sl_law_cell⟩)
    (c_law_cell : PySem.W.codeIn K cd_law_cell "_law_cell" = true)
    (k_law_cell : PySem.W.keepIn K (.ref f_law_cell) = true)
    {f_law_take : Addr} {oc_law_take : Value} {od_law_take an_law_take : Option Addr} {sl_law_take : Array (Option Value)} {kV_law_take dc_law_take pm_law_take cd_law_take ct_law_take : Value}
    (a_law_take : PySem.W.nsIn K mainGlobals "_law_take" = some (some (.ref f_law_take)))
    (l_law_take : K.lookup f_law_take = some ⟨oc_law_take, od_law_take, .func (PySem.W.fnOf "_law_take" "_law_take" (defArgs s_law_take) (defBody s_law_take) (defScope s_law_take) .none kV_law_take dc_law_take pm_law_take an_law_take cd_law_take ct_law_take), sl_law_take⟩)
    (c_law_take : PySem.W.codeIn K cd_law_take "_law_take" = true)
    (k_law_take : PySem.W.keepIn K (.ref f_law_take) = true)
    {f_law_rows : Addr} {oc_law_rows : Value} {od_law_rows an_law_rows : Option Addr} {sl_law_rows : Array (Option Value)} {kV_law_rows dc_law_rows pm_law_rows cd_law_rows ct_law_rows : Value}
    (a_law_rows : PySem.W.nsIn K mainGlobals "_law_rows" = some (some (.ref f_law_rows)))
    (l_law_rows : K.lookup f_law_rows = some ⟨oc_law_rows, od_law_rows, .func (PySem.W.fnOf "_law_rows" "_law_rows" (defArgs s_law_rows) (defBody s_law_rows) (defScope s_law_rows) .none kV_law_rows dc_law_rows pm_law_rows an_law_rows cd_law_rows ct_law_rows), sl_law_rows⟩)
    (c_law_rows : PySem.W.codeIn K cd_law_rows "_law_rows" = true)
    (k_law_rows : PySem.W.keepIn K (.ref f_law_rows) = true)
    {f_law_scores : Addr} {oc_law_scores : Value} {od_law_scores an_law_scores : Option Addr} {sl_law_scores : Array (Option Value)} {kV_law_scores dc_law_scores pm_law_scores cd_law_scores ct_law_scores : Value}
    (a_law_scores : PySem.W.nsIn K mainGlobals "_law_scores" = some (some (.ref f_law_scores)))
    (l_law_scores : K.lookup f_law_scores = some ⟨oc_law_scores, od_law_scores, .func (PySem.W.fnOf "_law_scores" "_law_scores" (defArgs s_law_scores) (defBody s_law_scores) (defScope s_law_scores) .none kV_law_scores dc_law_scores pm_law_scores an_law_scores cd_law_scores ct_law_scores), sl_law_scores⟩)
    (c_law_scores : PySem.W.codeIn K cd_law_scores "_law_scores" = true)
    (k_law_scores : PySem.W.keepIn K (.ref f_law_scores) = true)
    {f_law_moved : Addr} {oc_law_moved : Value} {od_law_moved an_law_moved : Option Addr} {sl_law_moved : Array (Option Value)} {kV_law_moved dc_law_moved pm_law_moved cd_law_moved ct_law_moved : Value}
    (a_law_moved : PySem.W.nsIn K mainGlobals "_law_moved" = some (some (.ref f_law_moved)))
    (l_law_moved : K.lookup f_law_moved = some ⟨oc_law_moved, od_law_moved, .func (PySem.W.fnOf "_law_moved" "_law_moved" (defArgs s_law_moved) (defBody s_law_moved) (defScope s_law_moved) .none kV_law_moved dc_law_moved pm_law_moved an_law_moved cd_law_moved ct_law_moved), sl_law_moved⟩)
    (c_law_moved : PySem.W.codeIn K cd_law_moved "_law_moved" = true)
    (k_law_moved : PySem.W.keepIn K (.ref f_law_moved) = true)
    {f_law_texts : Addr} {oc_law_texts : Value} {od_law_texts an_law_texts : Option Addr} {sl_law_texts : Array (Option Value)} {kV_law_texts dc_law_texts pm_law_texts cd_law_texts ct_law_texts : Value}
    (a_law_texts : PySem.W.nsIn K mainGlobals "_law_texts" = some (some (.ref f_law_texts)))
    (l_law_texts : K.lookup f_law_texts = some ⟨oc_law_texts, od_law_texts, .func (PySem.W.fnOf "_law_texts" "_law_texts" (defArgs s_law_texts) (defBody s_law_texts) (defScope s_law_texts) .none kV_law_texts dc_law_texts pm_law_texts an_law_texts cd_law_texts ct_law_texts), sl_law_texts⟩)
    (c_law_texts : PySem.W.codeIn K cd_law_texts "_law_texts" = true)
    (k_law_texts : PySem.W.keepIn K (.ref f_law_texts) = true)
    {f_law_count : Addr} {oc_law_count : Value} {od_law_count an_law_count : Option Addr} {sl_law_count : Array (Option Value)} {kV_law_count dc_law_count pm_law_count cd_law_count ct_law_count : Value}
    (a_law_count : PySem.W.nsIn K mainGlobals "_law_count" = some (some (.ref f_law_count)))
    (l_law_count : K.lookup f_law_count = some ⟨oc_law_count, od_law_count, .func (PySem.W.fnOf "_law_count" "_law_count" (defArgs s_law_count) (defBody s_law_count) (defScope s_law_count) .none kV_law_count dc_law_count pm_law_count an_law_count cd_law_count ct_law_count), sl_law_count⟩)
    (c_law_count : PySem.W.codeIn K cd_law_count "_law_count" = true)
    (k_law_count : PySem.W.keepIn K (.ref f_law_count) = true)
    {f_law_mixed : Addr} {oc_law_mixed : Value} {od_law_mixed an_law_mixed : Option Addr} {sl_law_mixed : Array (Option Value)} {kV_law_mixed dc_law_mixed pm_law_mixed cd_law_mixed ct_law_mixed : Value}
    (a_law_mixed : PySem.W.nsIn K mainGlobals "_law_mixed" = some (some (.ref f_law_mixed)))
    (l_law_mixed : K.lookup f_law_mixed = some ⟨oc_law_mixed, od_law_mixed, .func (PySem.W.fnOf "_law_mixed" "_law_mixed" (defArgs s_law_mixed) (defBody s_law_mixed) (defScope s_law_mixed) .none kV_law_mixed dc_law_mixed pm_law_mixed an_law_mixed cd_law_mixed ct_law_mixed), sl_law_mixed⟩)
    (c_law_mixed : PySem.W.codeIn K cd_law_mixed "_law_mixed" = true)
    (k_law_mixed : PySem.W.keepIn K (.ref f_law_mixed) = true)
    {fis_sequence : Addr} {ocis_sequence : Value} {odis_sequence anis_sequence : Option Addr} {slis_sequence : Array (Option Value)} {kVis_sequence dcis_sequence pmis_sequence cdis_sequence ctis_sequence : Value}
    (ais_sequence : PySem.W.nsIn K mainGlobals "is_sequence" = some (some (.ref fis_sequence)))
    (lis_sequence : K.lookup fis_sequence = some ⟨ocis_sequence, odis_sequence, .func (PySem.W.fnOf "is_sequence" "is_sequence" (defArgs sis_sequence) (defBody sis_sequence) (defScope sis_sequence) .none kVis_sequence dcis_sequence pmis_sequence anis_sequence cdis_sequence ctis_sequence), slis_sequence⟩)
    (cis_sequence : PySem.W.codeIn K cdis_sequence "is_sequence" = true)
    (kis_sequence : PySem.W.keepIn K (.ref fis_sequence) = true)
    {fneed_integers : Addr} {ocneed_integers : Value} {odneed_integers anneed_integers : Option Addr} {slneed_integers : Array (Option Value)} {kVneed_integers dcneed_integers pmneed_integers cdneed_integers ctneed_integers : Value}
    (aneed_integers : PySem.W.nsIn K mainGlobals "need_integers" = some (some (.ref fneed_integers)))
    (lneed_integers : K.lookup fneed_integers = some ⟨ocneed_integers, odneed_integers, .func (PySem.W.fnOf "need_integers" "need_integers" (defArgs sneed_integers) (defBody sneed_integers) (defScope sneed_integers) .none kVneed_integers dcneed_integers pmneed_integers anneed_integers cdneed_integers ctneed_integers), slneed_integers⟩)
    (cneed_integers : PySem.W.codeIn K cdneed_integers "need_integers" = true)
    (kneed_integers : PySem.W.keepIn K (.ref fneed_integers) = true)
    {fis_integer : Addr} {ocis_integer : Value} {odis_integer anis_integer : Option Addr} {slis_integer : Array (Option Value)} {kVis_integer dcis_integer pmis_integer cdis_integer ctis_integer : Value}
    (ais_integer : PySem.W.nsIn K mainGlobals "is_integer" = some (some (.ref fis_integer)))
    (lis_integer : K.lookup fis_integer = some ⟨ocis_integer, odis_integer, .func (PySem.W.fnOf "is_integer" "is_integer" (defArgs sis_integer) (defBody sis_integer) (defScope sis_integer) .none kVis_integer dcis_integer pmis_integer anis_integer cdis_integer ctis_integer), slis_integer⟩)
    (cis_integer : PySem.W.codeIn K cdis_integer "is_integer" = true)
    (kis_integer : PySem.W.keepIn K (.ref fis_integer) = true)
    {fneed_range : Addr} {ocneed_range : Value} {odneed_range anneed_range : Option Addr} {slneed_range : Array (Option Value)} {kVneed_range dcneed_range pmneed_range cdneed_range ctneed_range : Value}
    (aneed_range : PySem.W.nsIn K mainGlobals "need_range" = some (some (.ref fneed_range)))
    (lneed_range : K.lookup fneed_range = some ⟨ocneed_range, odneed_range, .func (PySem.W.fnOf "need_range" "need_range" (defArgs sneed_range) (defBody sneed_range) (defScope sneed_range) .none kVneed_range dcneed_range pmneed_range anneed_range cdneed_range ctneed_range), slneed_range⟩)
    (cneed_range : PySem.W.codeIn K cdneed_range "need_range" = true)
    (kneed_range : PySem.W.keepIn K (.ref fneed_range) = true)
    {fneed_scores : Addr} {ocneed_scores : Value} {odneed_scores anneed_scores : Option Addr} {slneed_scores : Array (Option Value)} {kVneed_scores dcneed_scores pmneed_scores cdneed_scores ctneed_scores : Value}
    (aneed_scores : PySem.W.nsIn K mainGlobals "need_scores" = some (some (.ref fneed_scores)))
    (lneed_scores : K.lookup fneed_scores = some ⟨ocneed_scores, odneed_scores, .func (PySem.W.fnOf "need_scores" "need_scores" (defArgs sneed_scores) (defBody sneed_scores) (defScope sneed_scores) .none kVneed_scores dcneed_scores pmneed_scores anneed_scores cdneed_scores ctneed_scores), slneed_scores⟩)
    (cneed_scores : PySem.W.codeIn K cdneed_scores "need_scores" = true)
    (kneed_scores : PySem.W.keepIn K (.ref fneed_scores) = true)
    {fcount_cloths : Addr} {occount_cloths : Value} {odcount_cloths ancount_cloths : Option Addr} {slcount_cloths : Array (Option Value)} {kVcount_cloths dccount_cloths pmcount_cloths cdcount_cloths ctcount_cloths : Value}
    (acount_cloths : PySem.W.nsIn K mainGlobals "count_cloths" = some (some (.ref fcount_cloths)))
    (lcount_cloths : K.lookup fcount_cloths = some ⟨occount_cloths, odcount_cloths, .func (PySem.W.fnOf "count_cloths" "count_cloths" (defArgs scount_cloths) (defBody scount_cloths) (defScope scount_cloths) .none kVcount_cloths dccount_cloths pmcount_cloths ancount_cloths cdcount_cloths ctcount_cloths), slcount_cloths⟩)
    (ccount_cloths : PySem.W.codeIn K cdcount_cloths "count_cloths" = true)
    (kcount_cloths : PySem.W.keepIn K (.ref fcount_cloths) = true)
    {flaw : Addr} {oclaw : Value} {odlaw anlaw : Option Addr} {sllaw : Array (Option Value)} {kVlaw dclaw pmlaw cdlaw ctlaw : Value}
    (alaw : PySem.W.nsIn K mainGlobals "law" = some (some (.ref flaw)))
    (llaw : K.lookup flaw = some ⟨oclaw, odlaw, .func (PySem.W.fnOf "law" "law" (defArgs slaw) (defBody slaw) (defScope slaw) .none kVlaw dclaw pmlaw anlaw cdlaw ctlaw), sllaw⟩)
    (claw : PySem.W.codeIn K cdlaw "law" = true)
    (klaw : PySem.W.keepIn K (.ref flaw) = true) :
    ∃ fd : FuncData, (∀ (s : Shared) (u : Value), BindsTo s fd ⟨[u], []⟩ [("_law_script", u)]) ∧ ∀ base : Heap, K.In base → base.Ns mainGlobals mg → (∀ p ∈ allL, GxR.TabB base mg p.1 p.2) → GFn PWc.P PWc.w K mg base 17 fa fd ["_law_script"] glaw := by
  have T : Txt PWc.P K mg := ⟨PySem.W.mg_none_of X G z_all,
   PySem.W.mg_none_of X G z_any,
   PySem.W.mg_none_of X G z_bool,
   PySem.W.mg_none_of X G z_int,
   PySem.W.mg_none_of X G z_isinstance,
   PySem.W.mg_none_of X G z_len,
   PySem.W.mg_none_of X G z_list,
   PySem.W.mg_none_of X G z_max,
   PySem.W.mg_none_of X G z_min,
   PySem.W.mg_none_of X G z_range,
   PySem.W.mg_none_of X G z_repr,
   PySem.W.mg_none_of X G z_sorted,
   PySem.W.mg_none_of X G z_sum,
   PySem.W.mg_none_of X G z_tuple,
   PySem.W.mg_none_of X G z_zip,
   isc_int (PySem.W.mg_of X G a_MOST_NUMBERED),
   isc_int (PySem.W.mg_of X G a_MOST_THREADS),
   fun _ _ h => PySem.W.mg_of X G h,
   ⟨AScores, .inl caScores, ⟨cpScores, cdScores, coScores, csScores⟩, fn_Scores_kept_scores⟩,
   ⟨ATally, .inl caTally, ⟨cpTally, cdTally, coTally, csTally⟩, fn_Tally_all_lacks⟩,
   ⟨ATally, .inl caTally, ⟨cpTally, cdTally, coTally, csTally⟩, fn_Tally_known_ways⟩,
   ⟨ATally, .inl caTally, ⟨cpTally, cdTally, coTally, csTally⟩, fn_Tally_row_ones⟩,
   ⟨AScores, caScores, (allc ⟨AScores, .inl caScores, ⟨cpScores, cdScores, coScores, csScores⟩, iscScores, isp, ist, isoScores, kit_self⟩ (allc ⟨ATally, .inl caTally, ⟨cpTally, cdTally, coTally, csTally⟩, iscTally, isp, ist, isoTally, kit_mk isiScores isyScores isnScores_Tally isvScores_Tally⟩ (all0))), all7 (kit_mk isiScores isyScores rfl isbScores_NoneType) (kit_mk isiScores isyScores rfl isbScores_bool) (kit_mk isiScores isyScores rfl isbScores_int) (kit_mk isiScores isyScores rfl isbScores_str) (kit_mk isiScores isyScores rfl isbScores_list) (kit_mk isiScores isyScores rfl isbScores_tuple) (kit_mk isiScores isyScores rfl isbScores_dict)⟩,
   ⟨AScores, fScores____init__, caScores, ⟨kiScores, kfScores, knScores, kkScores⟩, ⟨_, fun_mk (st := sScores____init__) lScores____init__ cScores____init__ kScores____init__, (fun_mk (st := sScores____init__) lScores____init__ cScores____init__ kScores____init__).binds fun _ _ _ _ _ _ us hl => match us, hl with | [_, _, _], _ => rfl⟩⟩,
   ⟨ATally, fTally____init__, caTally, ⟨kiTally, kfTally, knTally, kkTally⟩, ⟨_, fun_mk (st := sTally____init__) lTally____init__ cTally____init__ kTally____init__, (fun_mk (st := sTally____init__) lTally____init__ cTally____init__ kTally____init__).binds fun _ _ _ _ _ _ us hl => match us, hl with | [_, _], _ => rfl⟩⟩,
   ⟨AScores, fScores__warps, .inl caScores, ⟨cpScores, cdScores, coScores, csScores⟩, ⟨mfScores__warps, mnScores__warps, kScores__warps⟩, ⟨_, fun_mk (st := sScores__warps) lScores__warps cScores__warps kScores__warps, (fun_mk (st := sScores__warps) lScores__warps cScores__warps kScores__warps).binds fun _ _ _ _ _ _ us hl => match us, hl with | [_], _ => rfl⟩⟩,
   ⟨AScores, fScores__wefts, .inl caScores, ⟨cpScores, cdScores, coScores, csScores⟩, ⟨mfScores__wefts, mnScores__wefts, kScores__wefts⟩, ⟨_, fun_mk (st := sScores__wefts) lScores__wefts cScores__wefts kScores__wefts, (fun_mk (st := sScores__wefts) lScores__wefts cScores__wefts kScores__wefts).binds fun _ _ _ _ _ _ us hl => match us, hl with | [_], _ => rfl⟩⟩,
   ⟨ATally, fTally__many, .inl caTally, ⟨cpTally, cdTally, coTally, csTally⟩, ⟨mfTally__many, mnTally__many, kTally__many⟩, ⟨_, fun_mk (st := sTally__many) lTally__many cTally__many kTally__many, (fun_mk (st := sTally__many) lTally__many cTally__many kTally__many).binds fun _ _ _ _ _ _ us hl => match us, hl with | [_], _ => rfl⟩⟩,
   ⟨ATally, fTally__next_rows, .inl caTally, ⟨cpTally, cdTally, coTally, csTally⟩, ⟨mfTally__next_rows, mnTally__next_rows, kTally__next_rows⟩, ⟨_, fun_mk (st := sTally__next_rows) lTally__next_rows cTally__next_rows kTally__next_rows, (fun_mk (st := sTally__next_rows) lTally__next_rows cTally__next_rows kTally__next_rows).binds fun _ _ _ _ _ _ us hl => match us, hl with | [_, _, _], _ => rfl⟩⟩,
   ⟨ATally, fTally__ways, .inl caTally, ⟨cpTally, cdTally, coTally, csTally⟩, ⟨mfTally__ways, mnTally__ways, kTally__ways⟩, ⟨_, fun_mk (st := sTally__ways) lTally__ways cTally__ways kTally__ways, (fun_mk (st := sTally__ways) lTally__ways cTally__ways kTally__ways).binds fun _ _ _ _ _ _ us hl => match us, hl with | [_, _, _], _ => rfl⟩⟩,
   ⟨f_law_box, _, PySem.W.mg_of X G a_law_box, fun_mk (st := s_law_box) l_law_box c_law_box k_law_box, (fun_mk (st := s_law_box) l_law_box c_law_box k_law_box).binds fun _ _ _ _ _ _ us hl => match us, hl with | [_], _ => rfl⟩,
   ⟨f_law_cell, _, PySem.W.mg_of X G a_law_cell, fun_mk (st := s_law_cell) l_law_cell c_law_cell k_law_cell, (fun_mk (st := s_law_cell) l_law_cell c_law_cell k_law_cell).binds fun _ _ _ _ _ _ us hl => match us, hl with | [_, _], _ => rfl⟩,
   ⟨f_law_take, _, PySem.W.mg_of X G a_law_take, fun_mk (st := s_law_take) l_law_take c_law_take k_law_take, (fun_mk (st := s_law_take) l_law_take c_law_take k_law_take).binds fun _ _ _ _ _ _ us hl => match us, hl with | [_, _], _ => rfl⟩,
   ⟨f_law_rows, _, PySem.W.mg_of X G a_law_rows, fun_mk (st := s_law_rows) l_law_rows c_law_rows k_law_rows, (fun_mk (st := s_law_rows) l_law_rows c_law_rows k_law_rows).binds fun _ _ _ _ _ _ us hl => match us, hl with | [_, _, _], _ => rfl⟩,
   ⟨f_law_scores, _, PySem.W.mg_of X G a_law_scores, fun_mk (st := s_law_scores) l_law_scores c_law_scores k_law_scores, (fun_mk (st := s_law_scores) l_law_scores c_law_scores k_law_scores).binds fun _ _ _ _ _ _ us hl => match us, hl with | [_], _ => rfl⟩,
   ⟨f_law_moved, _, PySem.W.mg_of X G a_law_moved, fun_mk (st := s_law_moved) l_law_moved c_law_moved k_law_moved, (fun_mk (st := s_law_moved) l_law_moved c_law_moved k_law_moved).binds fun _ _ _ _ _ _ us hl => match us, hl with | [_, _], _ => rfl⟩,
   ⟨f_law_texts, _, PySem.W.mg_of X G a_law_texts, fun_mk (st := s_law_texts) l_law_texts c_law_texts k_law_texts, (fun_mk (st := s_law_texts) l_law_texts c_law_texts k_law_texts).binds fun _ _ _ _ _ _ us hl => match us, hl with | [_], _ => rfl⟩,
   ⟨f_law_count, _, PySem.W.mg_of X G a_law_count, fun_mk (st := s_law_count) l_law_count c_law_count k_law_count, (fun_mk (st := s_law_count) l_law_count c_law_count k_law_count).binds fun _ _ _ _ _ _ us hl => match us, hl with | [_], _ => rfl⟩,
   ⟨f_law_mixed, _, PySem.W.mg_of X G a_law_mixed, fun_mk (st := s_law_mixed) l_law_mixed c_law_mixed k_law_mixed, (fun_mk (st := s_law_mixed) l_law_mixed c_law_mixed k_law_mixed).binds fun _ _ _ _ _ _ us hl => match us, hl with | [_, _], _ => rfl⟩,
   ⟨fis_sequence, _, PySem.W.mg_of X G ais_sequence, fun_mk (st := sis_sequence) lis_sequence cis_sequence kis_sequence, (fun_mk (st := sis_sequence) lis_sequence cis_sequence kis_sequence).binds fun _ _ _ _ _ _ us hl => match us, hl with | [_], _ => rfl⟩,
   ⟨fneed_integers, _, PySem.W.mg_of X G aneed_integers, fun_mk (st := sneed_integers) lneed_integers cneed_integers kneed_integers, (fun_mk (st := sneed_integers) lneed_integers cneed_integers kneed_integers).binds fun _ _ _ _ _ _ us hl => match us, hl with | [_], _ => rfl⟩,
   ⟨fis_integer, _, PySem.W.mg_of X G ais_integer, fun_mk (st := sis_integer) lis_integer cis_integer kis_integer, (fun_mk (st := sis_integer) lis_integer cis_integer kis_integer).binds fun _ _ _ _ _ _ us hl => match us, hl with | [_, _, _], _ => rfl⟩,
   ⟨fneed_range, _, PySem.W.mg_of X G aneed_range, fun_mk (st := sneed_range) lneed_range cneed_range kneed_range, (fun_mk (st := sneed_range) lneed_range cneed_range kneed_range).binds fun _ _ _ _ _ _ us hl => match us, hl with | [_, _], _ => rfl⟩,
   ⟨fneed_scores, _, PySem.W.mg_of X G aneed_scores, fun_mk (st := sneed_scores) lneed_scores cneed_scores kneed_scores, (fun_mk (st := sneed_scores) lneed_scores cneed_scores kneed_scores).binds fun _ _ _ _ _ _ us hl => match us, hl with | [_], _ => rfl⟩,
   ⟨fcount_cloths, _, PySem.W.mg_of X G acount_cloths, fun_mk (st := scount_cloths) lcount_cloths ccount_cloths kcount_cloths, (fun_mk (st := scount_cloths) lcount_cloths ccount_cloths kcount_cloths).binds fun _ _ _ _ _ _ us hl => match us, hl with | [_], _ => rfl⟩,
   ⟨flaw, _, PySem.W.mg_of X G alaw, fun_mk (st := slaw) llaw claw klaw, (fun_mk (st := slaw) llaw claw klaw).binds fun _ _ _ _ _ _ us hl => match us, hl with | [_], _ => rfl⟩⟩
  cases hmg.symm.trans T.flaw.mgf
  refine ⟨T.flaw.fd, fun s u => ?_, fun base _ _ tb => L2.Lw.klaw ⟨T, tb⟩⟩
  obtain ⟨_, _, _, _, _, _, _, _, _, e, _, _⟩ := T.flaw.F.ex
  rw [e]
  exact .of_eq rfl
end L2.Lw

namespace L2.Lw
open PySem PySem.Spec PyProof.Rows L2 L2.Mi
variable [pwI : PWc]
local macro_rules | `(tactic| walk_at "ok0") => `(tactic| first
  | with_reducible refine os_seq ?_ | with_reducible refine os_set ?_ | with_reducible refine os_ret ?_ | with_reducible refine os_asg ?_ | with_reducible refine os_par ?_ | with_reducible refine os_for ?_
  | with_reducible refine os_expr ?_ | with_reducible refine os_nil ?_ | with_reducible refine os_retn ?_ | with_reducible refine os_brk ?_ | with_reducible refine os_cnt ?_
  | with_reducible refine ok_op ?_ | (with_reducible refine ok_var ?_ ?_; (focus rfl)) | with_reducible refine ok_c ?_ | with_reducible refine ok_un ?_ | with_reducible refine ok_cb ?_ | with_reducible refine ok_anil ?_ | with_reducible refine ok_acons ?_
  | with_reducible refine ok_lst ?_ | with_reducible refine ok_tup ?_ | with_reducible refine ok_lstM ?_ | with_reducible refine ok_dict1 ?_
  | with_reducible refine ok_and ?_ | with_reducible refine ok_or ?_ | with_reducible refine ok_not ?_ | with_reducible refine ok_chain ?_ | with_reducible refine ok_t ?_ | with_reducible refine ok_tnot ?_ | with_reducible refine ok_tand ?_
  | with_reducible refine ok_tor ?_ | with_reducible refine ok_if ?_ | with_reducible refine ok_onone ?_ | with_reducible refine ok_osome ?_ | with_reducible refine ok_slice ?_ | with_reducible refine ok_m1 ?_
  | with_reducible refine ok_bm ?_ | with_reducible refine ok_gs ?_ | with_reducible refine ok_cbd ?_ | with_reducible refine ok_cbk ?_ | with_reducible refine os_ifNm ?_ | with_reducible refine ok_frz ?_ | with_reducible refine ok_itup ?_ | with_reducible refine ok_istr ?_ | with_reducible refine ok_r1 ?_ | with_reducible refine ok_r2 ?_ | with_reducible refine ok_il ?_ | with_reducible refine ok_gn ?_ | with_reducible refine ok_lc ?_
  | refine And.intro (Nat.le_of_ble_eq_true rfl) ?_ | refine Exists.intro _ (And.intro rfl ?_) | refine And.intro (fun _ => ?_) (fun hk => Bool.noConfusion hk) | refine And.intro (fun hk => Bool.noConfusion hk) (fun _ => ?_)
  | ((fail_if_success (with_reducible refine Ok.fun ?_ ?_)); refine ok_ret ?_))
local macro_rules | `(tactic| walk_at "ok1") => `(tactic| first | with_reducible refine os_if ?_ | with_reducible refine os_fcons ?_ | with_reducible refine os_fnil ?_ | walk_at "ok0")
local macro_rules | `(tactic| walk_at "okn") => `(tactic| repeat (walk_at "ok0"))
local macro_rules | `(tactic| walk_at "ok") => `(tactic| repeat (walk_at "ok1"))
local macro_rules | `(tactic| walk_at "nolp") => `(tactic| (fail_if_success (with_reducible refine at_lc ?_); fail_if_success (with_reducible refine at_lcW ?_); fail_if_success (with_reducible refine at_for ?_); fail_if_success (with_reducible refine at_forW ?_); fail_if_success (with_reducible refine at_mul ?_); fail_if_success (with_reducible refine at_mod ?_); fail_if_success (with_reducible refine at_div ?_); fail_if_success (with_reducible refine at_pow ?_)))
local macro_rules | `(tactic| walk_at "ok3") => `(tactic| first
  | with_reducible refine os_seq ?_ | with_reducible refine os_set ?_ | with_reducible refine os_ret ?_ | with_reducible refine os_asg ?_ | with_reducible refine os_par ?_ 
  | with_reducible refine os_expr ?_ | with_reducible refine os_nil ?_ | with_reducible refine os_retn ?_ | with_reducible refine os_brk ?_ | with_reducible refine os_cnt ?_
  | with_reducible refine ok_op ?_ | (with_reducible refine ok_var ?_ ?_; (focus rfl)) | with_reducible refine ok_c ?_ | with_reducible refine ok_un ?_ | with_reducible refine ok_cb ?_ | with_reducible refine ok_anil ?_ | with_reducible refine ok_acons ?_
  | with_reducible refine ok_lst ?_ | with_reducible refine ok_tup ?_ | with_reducible refine ok_lstM ?_ | with_reducible refine ok_dict1 ?_
  | with_reducible refine ok_and ?_ | with_reducible refine ok_or ?_ | with_reducible refine ok_not ?_ | with_reducible refine ok_chain ?_ | with_reducible refine ok_t ?_ | with_reducible refine ok_tnot ?_ | with_reducible refine ok_tand ?_
  | with_reducible refine ok_tor ?_ | with_reducible refine ok_if ?_ | with_reducible refine ok_onone ?_ | with_reducible refine ok_osome ?_ | with_reducible refine ok_slice ?_ | with_reducible refine ok_m1 ?_
  | with_reducible refine ok_bm ?_ | with_reducible refine ok_gs ?_ | with_reducible refine ok_cbd ?_ | with_reducible refine ok_cbk ?_ | with_reducible refine os_ifNm ?_ | with_reducible refine ok_frz ?_ | with_reducible refine ok_gn ?_ 
  | refine And.intro (Nat.le_of_ble_eq_true rfl) ?_ | (walk_at "nolp"; refine Exists.intro _ (And.intro rfl ?_)) | refine And.intro (fun _ => ?_) (fun hk => Bool.noConfusion hk) | refine And.intro (fun hk => Bool.noConfusion hk) (fun _ => ?_)
  | (walk_at "nolp"; (fail_if_success (with_reducible refine Ok.fun ?_ ?_)); refine ok_ret ?_))
local macro_rules | `(tactic| walk_at "okm") => `(tactic| repeat (first | with_reducible refine os_if ?_ | walk_at "ok3"))

theorem ok_eq {α : Type} {r : Mi.R α} {x : α} {c : Cs} (h : Ok r fun d c' => d = x ∧ c' = c) : r = .ok x c := by
  obtain ⟨d, c', e, rfl, rfl⟩ := h
  exact e
structure ElV (x : D) (c : Cs) : Prop where
  ex : ∃ t, tyD x c = some t ∧ (t = "str" → ∃ s, x = .str s ∧ s.length ≤ 5000)
structure SeqV (v : D) (c : Cs) (xs : List D) : Prop where
  sq : seqOf v c = some xs
  ty : tyD v c = some "list" ∨ tyD v c = some "tuple"
  ln : xs.length ≤ 10000
  el : ∀ x ∈ xs, ElV x c
  nr : ∀ ys, v ≠ .ro ys
theorem len_seq {v : D} {c : Cs} {xs : List D} (h : seqOf v c = some xs) : lenD [v] c = .ok (.int xs.length) c := by
  cases v with
  | lst ys => cases h; rfl
  | tup ys => cases h; rfl
  | ro ys => cases h; rfl
  | ref k =>
    have h : (match c[k]? with
      | some (.lst xs) => some xs
      | _ => none) = some xs := h
    cases q : c[k]? with
    | none => rw [q] at h; cases h
    | some y =>
      rw [q] at h
      cases y with
      | lst ys => cases h; simp [lenD, lenC, q]
      | _ => cases h
  | _ => cases h
theorem item_seq {v : D} {c : Cs} {xs : List D} {i : Nat} {x : D} (h : seqOf v c = some xs) (hx : xs[i]? = some x) : itemD v (.int (i : Nat)) c = .ok x c := by
  have hl := (List.getElem?_eq_some_iff.mp hx).1
  have e : ∀ ys : List D, ys = xs → Mi.itL ys (i : Nat) c = .ok x c := fun ys e => by subst e; simp [Mi.itL, atI, ixN, hl, hx]; exact (List.getElem?_eq_some_iff.mp hx).2
  cases v with
  | lst ys => cases h; exact e _ rfl
  | tup ys => cases h; exact e _ rfl
  | ro ys => cases h; exact e _ rfl
  | ref k =>
    have h : (match c[k]? with
      | some (.lst xs) => some xs
      | _ => none) = some xs := h
    cases q : c[k]? with
    | none => rw [q] at h; cases h
    | some y =>
      rw [q] at h
      cases y with
      | lst ys =>
        cases h
        simp only [itemD, q]
        exact e _ rfl
      | _ => cases h
  | _ => cases h
theorem isi_seq {x : D} {c : Cs} {t : String} (h : tyD x c = some t) : isiD [x, .tup [.ty "list", .ty "tuple"]] c = .ok (.bl (t == "list" || t == "tuple")) c := by
  have hm := tyD_mem h
  have e : isiD [x, .tup [.ty "list", .ty "tuple"]] c = .ok (.bl (isiAny t ["list", "tuple"])) c := by simp [isiD, h, clsL, tyNames]
  rw [e]
  simp only [tyNames, List.mem_cons, List.not_mem_nil, or_false] at hm
  rcases hm with rfl | rfl | rfl | rfl | rfl | rfl | rfl <;> rfl
def bitB (k : Nat) : Bool := k == 48 || k == 49
def rowB (n : Int) (d : D) : Bool := match d with
  | .str s => decide ((s.length : Int) = n) && s.cps.toList.all bitB
  | _ => false
theorem bls_map {α : Type} (f : α → Bool) : ∀ xs : List α, blsOf (xs.map fun x => D.bl (f x)) = some (xs.map f)
  | [] => rfl
  | x :: xs => by simp [blsOf, bls_map f xs]
theorem all_bls {α : Type} (f : α → Bool) (xs : List α) (c : Cs) : allD [.lst (xs.map fun x => D.bl (f x))] c = .ok (.bl (xs.all f)) c := by
  have e : allD [.lst (xs.map fun x => D.bl (f x))] c = .ok (.bl ((xs.map f).all id)) c := by simp [allD, on1, allP, bls_map]
  rw [e, List.all_map]
  rfl
theorem filter_yes {α : Type} (xs : List α) : xs.filter (fun _ => true) = xs := List.filter_eq_self.mpr fun _ _ => rfl
def isRows (xs : List D) : Bool := decide (1 ≤ xs.length) && decide (xs.length ≤ 8) && (match xs with
  | .str s :: _ => decide (1 ≤ s.length) && decide (s.length ≤ 8) && xs.all (rowB s.length)
  | _ => false)

theorem is_sequence_eq {v : D} {c : Cs} {t : String} (h : tyD v c = some t) : gis_sequence [v] c = .ok (.bl (t == "list" || t == "tuple")) c := by
  refine ok_eq (Ok.fun rfl ?_)
  unfold cis_sequence
  walk_at "ok"
  refine Ok.of (isi_seq h) ?_
  exact ⟨rfl, rfl⟩
theorem SeqV.tt {v : D} {c : Cs} {xs : List D} (h : SeqV v c xs) : ∃ t, tyD v c = some t ∧ (t == "list" || t == "tuple") = true := by
  rcases h.ty with e | e
  · exact ⟨_, e, rfl⟩
  · exact ⟨_, e, rfl⟩
def flat (ys : List Str) : List Nat := (ys.map fun y => y.cps.toList).flatten
theorem len_cps (s : Str) : s.cps.toList.length = s.length := Array.length_toList
theorem isRows_mk {y0 : Str} {yr : List Str} (h1 : (y0 :: yr).length ≤ 8) (h2 : ∀ y ∈ y0 :: yr, y.length = y0.length ∧ y.cps.toList.all bitB = true) (h3 : 1 ≤ y0.length) (h4 : y0.length ≤ 8) : isRows ((y0 :: yr).map D.str) = true := by
  have e1 : decide (1 ≤ ((y0 :: yr).map D.str).length) = true := by simp
  have e2 : decide (((y0 :: yr).map D.str).length ≤ 8) = true := decide_eq_true (by rw [List.length_map]; exact h1)
  have e5 : ((y0 :: yr).map D.str).all (rowB y0.length) = true := by
    refine List.all_eq_true.mpr fun x hx => ?_
    obtain ⟨y, hy, rfl⟩ := List.mem_map.mp hx
    obtain ⟨a, b⟩ := h2 y hy
    show (decide ((y.length : Int) = y0.length) && y.cps.toList.all bitB) = true
    rw [b, decide_eq_true (by rw [a])]
    rfl
  show (decide (1 ≤ ((y0 :: yr).map D.str).length) && decide (((y0 :: yr).map D.str).length ≤ 8) && (decide (1 ≤ y0.length) && decide (y0.length ≤ 8) && ((y0 :: yr).map D.str).all (rowB y0.length))) = true
  rw [e1, e2, e5, decide_eq_true h3, decide_eq_true h4]
  rfl

theorem tyD_app {x : D} {c : Cs} {t : String} (h : tyD x c = some t) (y : Cs) : tyD x (c ++ y) = some t := by
  cases x with
  | ref k =>
    simp only [tyD] at h ⊢
    cases q : c[k]? with
    | none => rw [q] at h; cases h
    | some z =>
      rw [List.getElem?_append_left (List.getElem?_eq_some_iff.mp q).1, q]
      rw [q] at h
      exact h
  | _ => exact h
theorem SeqV.app {v : D} {c : Cs} {xs : List D} (h : SeqV v c xs) (y : Cs) : SeqV v (c ++ y) xs := by
  refine ⟨?_, h.ty.imp (tyD_app · y) (tyD_app · y), h.ln, fun x hx => ?_, h.nr⟩
  · have hq := h.sq
    cases v with
    | ref k =>
      simp only [seqOf] at hq ⊢
      cases q : c[k]? with
      | none => rw [q] at hq; cases hq
      | some z =>
        rw [List.getElem?_append_left (List.getElem?_eq_some_iff.mp q).1, q]
        rw [q] at hq
        exact hq
    | _ => exact hq
  · obtain ⟨t, ht, hs⟩ := (h.el x hx).ex
    exact ⟨t, tyD_app ht y, hs⟩
theorem cell_last {c : Cs} (x : Cell) : (c ++ [x])[c.length]? = some x := by rw [List.getElem?_append_right (Nat.le_refl _), Nat.sub_self]; rfl
theorem set_last {c : Cs} (x y : Cell) : (c ++ [x]).set c.length y = c ++ [y] := by
  induction c with
  | nil => rfl
  | cons a c ih => simp [ih]
/-! ### the draws -/
theorem take_big (c : Cs) (k : Nat) (a b z many : Int) (hc : c[k]? = some (.lst [.int a, .int b, .int z])) (ha : 0 < a) (hm : 0 < many) (hm2 : many ≤ 1000000) :
    g_law_take [.ref k, .int many] c = .ok (.int (a.fmod many)) (c.set k (.lst [.int (a.fdiv many), .int b, .int z])) := by
  have h1 : many ≠ 0 := by omega
  have h2 : many.natAbs < 1073741824 := by omega
  simp [g_law_take, mFun, c_law_take, sSeq, sIf, mT, mOp, mVar, mC, itemD, hc, Mi.itL, atI, ixN, gtD, cmpI, ha, sSet, modI, divI, intC, CNz, CDivN, sRet, sAsg, gS, putD, h1, h2]
theorem take_hash (c : Cs) (k : Nat) (a b z many : Int) (hc : c[k]? = some (.lst [.int a, .int b, .int z])) (ha : ¬ 0 < a) (hm : 0 < many) (hm2 : many ≤ 1000000) (hb : 0 ≤ b) (hb2 : b < 2147483629) (hz : 0 ≤ z) (hz2 : z ≤ 1000000) :
    ∃ d : Int, 0 ≤ d ∧ d < many ∧ g_law_take [.ref k, .int many] c = .ok (.int d) (c.set k (.lst [.int a, .int b, .int (z + 1)])) := by
  have h1 : many ≠ 0 := by omega
  have hs : ∀ x, (c.set k x)[k]? = some x := fun x => by rw [List.getElem?_set_self (List.getElem?_eq_some_iff.mp hc).1]
  have h3 : (b + 6551 * (z + 1) + 181).natAbs < 18446744073709551616 := by omega
  refine ⟨(((((b + 6551 * (z + 1) + 181) ^ 5).fmod 2147483647 + 104729 * (z + 1)) ^ 3).fmod 2147483587).fdiv 16 |>.fmod many, Int.fmod_nonneg_of_pos _ hm, Int.fmod_lt_of_pos _ hm, ?_⟩
  have h5 : 0 ≤ ((b + 6551 * (z + 1) + 181) ^ 5).fmod 2147483647 := Int.fmod_nonneg_of_pos _ (by decide)
  have h6 : ((b + 6551 * (z + 1) + 181) ^ 5).fmod 2147483647 < 2147483647 := Int.fmod_lt_of_pos _ (by decide)
  generalize e : ((b + 6551 * (z + 1) + 181) ^ 5).fmod 2147483647 = y at h5 h6 ⊢
  have h4 : (y + 104729 * (z + 1)).natAbs < 18446744073709551616 := by omega
  simp [g_law_take, mFun, c_law_take, sSeq, sIf, mT, mOp, mVar, mC, itemD, hc, Mi.itL, atI, ixN, gtD, cmpI, ha, sSet, modI, divI, intC, CNz, CDivN, sRet, sAsg, gS, putD, h1, addD, mulI, powI, CMul, CPow, h3, h4, e, sNil, hs, -List.getElem?_set_self]
/-- a draw changes the box alone -/
theorem take_ok {c : Cs} {k : Nat} {n many : Int} {Q : D → Cs → Prop} (h : Bx c k n) (hn : n ≤ 1000000) (hm : 0 < many) (hm2 : many ≤ 1000000)
    (q : ∀ (i : Int) (c' : Cs), 0 ≤ i → i < many → Bx c' k (n + 1) → c'.length = c.length → (∀ j, j ≠ k → c'[j]? = c[j]?) → Q (.int i) c') : Ok (g_law_take [.ref k, .int many] c) Q := by
  obtain ⟨a, b, z, hc, ha, hb, hb2, hz, hz2⟩ := h
  have hk := (List.getElem?_eq_some_iff.mp hc).1
  have fin : ∀ x : Cell, (c.set k x).length = c.length ∧ ∀ j, j ≠ k → (c.set k x)[j]? = c[j]? := fun x => ⟨by simp, fun j hj => by rw [List.getElem?_set_ne (Ne.symm hj)]⟩
  by_cases h0 : 0 < a
  · exact ⟨_, _, take_big c k a b z many hc h0 hm hm2, q _ _ (Int.fmod_nonneg_of_pos _ hm) (Int.fmod_lt_of_pos _ hm) ⟨a.fdiv many, b, z, by rw [List.getElem?_set_self hk], by rw [Int.fdiv_eq_ediv_of_nonneg _ (Int.le_of_lt hm)]; exact Int.ediv_nonneg ha (Int.le_of_lt hm), hb, hb2, hz, by omega⟩ (fin _).1 (fin _).2⟩
  · obtain ⟨d, hd, hd2, e⟩ := take_hash c k a b z many hc h0 hm hm2 hb hb2 hz (by omega)
    exact ⟨_, _, e, q _ _ hd hd2 ⟨a, b, z + 1, by rw [List.getElem?_set_self hk], ha, hb, hb2, by omega, by omega⟩ (fin _).1 (fin _).2⟩
theorem bx_mono {c : Cs} {k : Nat} {n n' : Int} (h : Bx c k n) (hn : n ≤ n') : Bx c k n' := by
  obtain ⟨a, b, z, hc, ha, hb, hb2, hz, hz2⟩ := h
  exact ⟨a, b, z, hc, ha, hb, hb2, hz, by omega⟩
theorem cell_ok {ns : List Int} {i : Nat} {c : Cs} {Q : D → Cs → Prop} (hl : ns.length ≤ 63) (hi : i ≤ 1000) (q : ∀ v : Int, Q (.int v) c) : Ok (g_law_cell [.ro (ns.map D.int), .int i] c) Q := by
  refine Ok.fun rfl ?_
  refine os_seq (os_if (ok_t (ok_op (ok_var rfl (ok_cb (ok_acons (ok_var rfl (ok_anil ⟨_, _, rfl, ⟨_, _, rfl, ⟨_, rfl, fun h => ?_, fun h => ?_⟩⟩⟩))))))))
  · refine os_ret (ok_op (ok_var rfl (ok_var rfl ?_)))
    have hi : i < ns.length := by simpa using h
    refine ⟨.int ns[i], c, ?_, q _⟩
    simp [itemD, Mi.itL, atI, ixN, hi]
  · refine os_nil (os_ret (ok_op (ok_op (ok_c (ok_var rfl ?_)))))
    exact ok_intC (Or.inl ⟨by decide, by decide⟩) (ok_c ⟨_, _, rfl, q _⟩)
theorem box_ok {v : Int} {c : Cs} {Q : D → Cs → Prop} (q : ∀ c', Bx c' c.length 0 → c'.length = c.length + 1 → (∀ j, j ≠ c.length → c'[j]? = c[j]?) → Q (.ref c.length) c') : Ok (g_law_box [.int v] c) Q := by
  refine Ok.fun rfl ?_
  refine os_ret (ok_lstM (ok_acons (ok_cb (ok_acons (ok_c (ok_acons (ok_op (ok_var rfl (ok_op (ok_c (ok_c ?_)))) ) ) ) ) ) ) )
  refine ok_intC ⟨by decide, by decide, by decide⟩ ⟨_, _, rfl, ok_anil ⟨_, _, rfl, ok_acons (ok_op (ok_var rfl (ok_c (ok_intC (show (2147483629 : Int) ≠ 0 by decide) (ok_acons (ok_c (ok_anil ⟨Nat.le_of_ble_eq_true rfl, ?_⟩)))))))⟩⟩
  refine q _ ⟨_, _, _, by rw [List.getElem?_append_right (Nat.le_refl _), Nat.sub_self]; rfl, ?_, Int.fmod_nonneg_of_pos _ (by decide), Int.fmod_lt_of_pos _ (by decide), Int.le_refl _, Int.le_refl _⟩ (by simp) fun j hj => ?_
  · dsimp only
    split <;> omega
  · rcases Nat.lt_or_ge j c.length with h | h
    · rw [List.getElem?_append_left h]
    · rw [List.getElem?_eq_none (by simp; omega), List.getElem?_eq_none (by omega)]

def bitS (s : Str) : Prop := s.cps.toList.all bitB = true
def Rows (rs : List D) : Prop := ∃ y0 yr, rs = (y0 :: yr).map D.str ∧ (y0 :: yr).length ≤ 8 ∧ (∀ y ∈ y0 :: yr, y.length = y0.length ∧ bitS y) ∧ 1 ≤ y0.length ∧ y0.length ≤ 8
theorem Rows.is {rs : List D} (h : Rows rs) : isRows rs = true := by
  obtain ⟨y0, yr, rfl, h1, h2, h3, h4⟩ := h
  exact isRows_mk h1 h2 h3 h4
def FRB (d : D) : Bool := match toPyC 17 [] d with
  | some p => bP p && decide (wP p ≤ 20000) && decide (p.depth ≤ 10)
  | none => false
def top0 : D → Bool
  | .non => true
  | .bl _ => true
  | .int _ => true
  | .str _ => true
  | .tup _ => true
  | _ => false
def PV (v : D) (c : Cs) : Prop := (FRB v = true ∧ (top0 v = true ∨ ∃ xs, v = .lst xs ∧ Rows xs)) ∨ (∃ k xs, v = .ref k ∧ c[k]? = some (.lst xs) ∧ xs.length ≤ 100 ∧ ∀ x ∈ xs, FRB x = true) ∨
  ∃ k kvs, v = .ref k ∧ c[k]? = some (.dct kvs) ∧ (kvs = [] ∨ kvs = [(.inr "a", .int 1)])
theorem frb_of {d : D} (h : FRB d = true) : ∃ p, toPyC 17 [] d = some p ∧ bP p = true ∧ wP p ≤ 20000 ∧ p.depth ≤ 10 := by
  unfold FRB at h
  cases q : toPyC 17 [] d with
  | none => rw [q] at h; cases h
  | some p =>
    rw [q] at h
    simp only [Bool.and_eq_true, decide_eq_true_eq] at h
    exact ⟨p, rfl, h.1.1, h.1.2, h.2⟩
theorem PV.app {v : D} {c : Cs} (h : PV v c) (y : Cs) : PV v (c ++ y) := by
  rcases h with h | ⟨k, xs, rfl, hk, r⟩ | ⟨k, kvs, rfl, hk, r⟩
  · exact .inl h
  · exact .inr (.inl ⟨k, xs, rfl, by rw [List.getElem?_append_left (List.getElem?_eq_some_iff.mp hk).1]; exact hk, r⟩)
  · exact .inr (.inr ⟨k, kvs, rfl, by rw [List.getElem?_append_left (List.getElem?_eq_some_iff.mp hk).1]; exact hk, r⟩)
theorem PV.at {v : D} {c c' : Cs} (h : PV v c) (e : ∀ k, v = .ref k → c'[k]? = c[k]?) : PV v c' := by
  rcases h with h | ⟨k, xs, rfl, hk, r⟩ | ⟨k, kvs, rfl, hk, r⟩
  · exact .inl h
  · exact .inr (.inl ⟨k, xs, rfl, by rw [e k rfl]; exact hk, r⟩)
  · exact .inr (.inr ⟨k, kvs, rfl, by rw [e k rfl]; exact hk, r⟩)
theorem PV.lt {v : D} {c : Cs} (h : PV v c) : ∀ j, v = .ref j → j < c.length := fun j e => by
  rcases h with ⟨hf, _⟩ | ⟨k', xs, e', hk, _⟩ | ⟨k', kvs, e', hk, _⟩
  · subst e
    obtain ⟨p, hp, _⟩ := frb_of hf
    cases hp
  · rw [e] at e'; cases e'
    exact (List.getElem?_eq_some_iff.mp hk).1
  · rw [e] at e'; cases e'
    exact (List.getElem?_eq_some_iff.mp hk).1
theorem PV.keep {v : D} {c c' : Cs} {kb : Nat} (h : PV v c) (hv : v ≠ .ref kb) (f : ∀ j, j ≠ kb → j < c.length → c'[j]? = c[j]?) : PV v c' :=
  h.at fun k e => f k (fun ek => hv (by rw [e, ek])) (h.lt k e)
/-! ### values of threads.py -/
theorem ty_ref {k : Nat} {c : Cs} {t : String} (h : tyD (.ref k) c = some t) : t = "list" ∨ t = "dict" := by
  unfold tyD at h
  cases q : c[k]? with
  | none => simp only [q] at h; cases h
  | some x =>
    simp only [q] at h
    cases x with
    | lst xs => cases h; exact .inl rfl
    | dct xs => cases h; exact .inr rfl
    | frz d => cases d <;> first | (cases h; exact .inl rfl) | cases h
    | _ => cases h
def isInt (d : D) (lo hi : Int) : Bool := match d with
  | .int i => decide (lo ≤ i) && decide (i ≤ hi)
  | _ => false
theorem is_integer_eq {d : D} {lo hi : Int} {c : Cs} (h : (tyD d c).isSome = true) : gis_integer [d, .int lo, .int hi] c = .ok (.bl (isInt d lo hi)) c := by
  obtain ⟨t, ht⟩ := Option.isSome_iff_exists.mp h
  have hm := tyD_mem ht
  have e1 : isiD [d, .ty "int"] c = .ok (.bl (isT t "int")) c := by simp [isiD, ht, tyNames]
  have e2 : isiD [d, .ty "bool"] c = .ok (.bl (isT t "bool")) c := by simp [isiD, ht, tyNames]
  have non : isT t "int" = false → isInt d lo hi = false → gis_integer [d, .int lo, .int hi] c = .ok (.bl (isInt d lo hi)) c := fun h1 h2 => by
    rw [h2]
    simp [gis_integer, mFun, cis_integer, sRet, mAnd, mCB, aCons, aNil, mVar, mC, e1, h1]
  cases d with
  | int i =>
    cases ht
    by_cases h1 : lo ≤ i
    · by_cases h2 : i ≤ hi
      · simp [gis_integer, mFun, cis_integer, sRet, mAnd, mNot, mCB, aCons, aNil, mVar, mC, isiD, tyD, isT, tyNames, mChain, leD, isInt, h1, h2]
      · simp [gis_integer, mFun, cis_integer, sRet, mAnd, mNot, mCB, aCons, aNil, mVar, mC, isiD, tyD, isT, tyNames, mChain, leD, isInt, h1, h2]
    · simp [gis_integer, mFun, cis_integer, sRet, mAnd, mNot, mCB, aCons, aNil, mVar, mC, isiD, tyD, isT, tyNames, mChain, leD, isInt, h1]
  | bl b =>
    cases ht
    simp [gis_integer, mFun, cis_integer, sRet, mAnd, mNot, mCB, aCons, aNil, mVar, mC, isiD, tyD, isT, tyNames, isInt]
  | ref k => rcases ty_ref ht with rfl | rfl <;> exact non rfl rfl
  | obj => cases ht
  | adr => cases ht
  | ty => cases ht
  | gh => cases ht
  | _ => cases ht; exact non rfl rfl
/-- a value as the laws draw it -/
def Val (d : D) (c : Cs) : Prop := match d with
  | .tup xs => ∀ x ∈ xs, (tyD x c).isSome = true
  | .ref k => (∃ xs, c[k]? = some (.lst xs)) ∨ ∃ kvs, c[k]? = some (.dct kvs)
  | .ro _ => False
  | d => (tyD d c).isSome = true
/-! ### cloths -/
structure RwS (ys : List Str) (w : Nat) : Prop where
  n1 : 1 ≤ ys.length
  n8 : ys.length ≤ 8
  w1 : 1 ≤ w
  w8 : w ≤ 8
  len : ∀ y ∈ ys, y.length = w
  bit : ∀ y ∈ ys, bitS y
theorem Rows.rws {rs : List D} (h : Rows rs) : ∃ ys w, rs = ys.map D.str ∧ RwS ys w := by
  obtain ⟨y0, yr, e, h1, h2, h3, h4⟩ := h
  exact ⟨y0 :: yr, y0.length, e, by simp, h1, h3, h4, fun y hy => (h2 y hy).1, fun y hy => (h2 y hy).2⟩
theorem RwS.rows {ys : List Str} {w : Nat} (h : RwS ys w) : Rows (ys.map D.str) := by
  cases ys with
  | nil => exact absurd h.n1 (by simp)
  | cons y0 yr =>
    have e := h.len y0 List.mem_cons_self
    exact ⟨y0, yr, rfl, h.n8, fun y hy => ⟨by rw [h.len y hy, e], h.bit y hy⟩, by rw [e]; exact h.w1, by rw [e]; exact h.w8⟩
theorem RwS.is {ys : List Str} {w : Nat} (h : RwS ys w) : isRows (ys.map D.str) = true := h.rows.is
theorem RwS.head {ys : List Str} {w : Nat} (h : RwS ys w) : ∃ y0 yr, ys = y0 :: yr ∧ y0.length = w := by
  cases ys with
  | nil => exact absurd h.n1 (by simp)
  | cons y0 yr => exact ⟨y0, yr, rfl, h.len y0 List.mem_cons_self⟩
def clD (ys : List Str) : List (Str × D) := [("kept_rows", .lst (ys.map D.str))]
def clo (ys : List Str) : D := .obj "Cloth" (clD ys)
def IsCl (x : D) (c : Cs) (ys : List Str) : Prop := insOf x c = some (("Cloth" : Str), clD ys)
theorem clo_is (ys : List Str) (c : Cs) : IsCl (clo ys) c ys := rfl
theorem IsCl.ext {x : D} {c c' : Cs} {ys : List Str} (h : IsCl x c ys) (p : Pfx c c') : IsCl x c' ys := by
  unfold IsCl at h ⊢
  cases x with
  | ref k =>
    unfold insOf at h ⊢
    cases q : c[k]? with
    | none => simp only [q] at h; cases h
    | some z => simp only [q] at h; simp only [p.get q]; exact h
  | _ => exact h
theorem lk_kept (ys : List Str) : (clD ys).lookup ("kept_rows" : Str) = some (D.lst (ys.map D.str)) := by
  simp [clD, List.lookup]
theorem ok_kept {o : ME} {l : Ls} {c : Cs} {Q : D → Cs → Prop} (h : Ok (o l c) fun x c1 => ∃ ys, IsCl x c1 ys ∧ Q (.lst (ys.map D.str)) c1) : Ok (mFld ["Cloth"] "kept_rows" o l c) Q :=
  ok_fld (h.mono fun x c1 ⟨ys, h1, q⟩ => ⟨_, _, h1, lk_kept ys, q⟩)
theorem lk_ne {ys : List Str} {mm : Str} (h : (mm == ("kept_rows" : Str)) = false) : (clD ys).lookup mm = none := by
  simp [clD, List.lookup, h]
theorem ok_clmeth {g : List D → Cs → R D} {mm : Str} {o : ME} {t : MA} {l : Ls} {c : Cs} {Q : D → Cs → Prop} (hm : (mm == ("kept_rows" : Str)) = false) (h : Ok (o l c) fun x c1 => (∃ ys, IsCl x c1 ys) ∧ Ok (t l c1) fun xs c2 => Ok (g (x :: xs) c2) Q) : Ok (mMeth [("Cloth", g)] mm o t l c) Q :=
  ok_meth (h.mono fun x c1 ⟨⟨ys, h1⟩, q⟩ => ⟨⟨_, h1, lk_ne hm⟩, q⟩)
/-! ### slices -/
theorem app_list (s t : Str) : (s ++ t).cps.toList = s.cps.toList ++ t.cps.toList := Array.toList_append
theorem bitS_app {s t : Str} (h : bitS s) (g : bitS t) : bitS (s ++ t) := by
  unfold bitS at h g ⊢
  rw [app_list, List.all_append, h, g]
  rfl
theorem bit_one {k : Nat} (h : bitB k = true) : bitS ⟨#[k]⟩ := by
  show [k].all bitB = true
  simp [h]
/-- the box may change, else the cells only grow -/
def Gr (kb : Nat) (c c' : Cs) : Prop := c.length ≤ c'.length ∧ ∀ j, j ≠ kb → j < c.length → c'[j]? = c[j]?
theorem Gr.refl (kb : Nat) (c : Cs) : Gr kb c c := ⟨Nat.le_refl _, fun _ _ _ => rfl⟩
theorem Gr.trans {kb : Nat} {a b c : Cs} (h : Gr kb a b) (g : Gr kb b c) : Gr kb a c := ⟨Nat.le_trans h.1 g.1, fun j hj hl => by rw [g.2 j hj (Nat.lt_of_lt_of_le hl h.1), h.2 j hj hl]⟩
theorem Gr.of {kb : Nat} {a b : Cs} (h : Pfx a b) : Gr kb a b := ⟨h.len, fun _ _ hl => h.at hl⟩
theorem Gr.app {kb : Nat} {a b : Cs} (h : Gr kb a b) (x : Cs) : Gr kb a (b ++ x) := h.trans (.of (Pfx.one b x))
theorem Gr.get {kb : Nat} {c c' : Cs} {k : Nat} {x : Cell} (h : Gr kb c c') (hk : k ≠ kb) (e : c[k]? = some x) : c'[k]? = some x := by
  rw [h.2 k hk (List.getElem?_eq_some_iff.mp e).1]
  exact e
theorem Gr.set {kb : Nat} {a b : Cs} (h : Gr kb a b) {k : Nat} (hk : a.length ≤ k) (x : Cell) : Gr kb a (b.set k x) := ⟨by rw [List.length_set]; exact h.1, fun j hj hl => by rw [List.getElem?_set_ne (by omega)]; exact h.2 j hj hl⟩
theorem Gr.take {kb : Nat} {c c' : Cs} (hl : c'.length = c.length) (f : ∀ j, j ≠ kb → c'[j]? = c[j]?) : Gr kb c c' := ⟨by omega, fun j hj _ => f j hj⟩
/-- a draw -/
theorem take_gr {c : Cs} {k : Nat} {n many : Int} {Q : D → Cs → Prop} (h : Bx c k n) (hn : n ≤ 1000000) (hm : 0 < many) (hm2 : many ≤ 1000000)
    (q : ∀ (i : Int) (c' : Cs), 0 ≤ i → i < many → Bx c' k (n + 1) → Gr k c c' → c'.length = c.length → Q (.int i) c') : Ok (g_law_take [.ref k, .int many] c) Q :=
  take_ok h hn hm hm2 fun i c' h0 h1 b l f => q i c' h0 h1 b (.take l f) l

/-! ### turning, in plain lists -/
def tR (j : Nat) (r : List Nat) (ps : List (Nat × Nat)) : List Nat := r.mapIdx fun i k => if (i, j) ∈ ps then exch k else k
theorem tR_len (j : Nat) (r : List Nat) (ps : List (Nat × Nat)) : (tR j r ps).length = r.length := by simp [tR]
def mkS (ks : List Nat) : Str := ⟨ks.toArray⟩
theorem mkS_cps (ks : List Nat) : (mkS ks).cps.toList = ks := by simp [mkS]
theorem mkS_of (s : Str) : mkS s.cps.toList = s := by simp [mkS]
theorem exch_bit {k : Nat} (h : bitB k = true) : bitB (exch k) = true ∧ exch k = if k = 49 then 48 else 49 := by
  have : k = 48 ∨ k = 49 := by simpa [bitB] using h
  rcases this with rfl | rfl <;> decide
theorem tR_bits {j : Nat} {r : List Nat} {ps : List (Nat × Nat)} (h : r.all bitB = true) : (tR j r ps).all bitB = true := by
  refine List.all_eq_true.mpr fun k hk => ?_
  obtain ⟨i, hi, e⟩ := List.mem_mapIdx.mp hk
  have hb := List.all_eq_true.mp h r[i] (List.getElem_mem hi)
  rw [← e]
  split
  · exact (exch_bit hb).1
  · exact hb
/-- the rows, turned -/
def tS (ys : List Str) (ps : List (Nat × Nat)) : List Str := ys.mapIdx fun j y => mkS (tR j y.cps.toList ps)
theorem tS_len (ys : List Str) (ps : List (Nat × Nat)) : (tS ys ps).length = ys.length := by simp [tS]
theorem RwS.turn {ys : List Str} {w : Nat} (h : RwS ys w) (ps : List (Nat × Nat)) : RwS (tS ys ps) w := by
  have hm : ∀ z ∈ tS ys ps, ∃ j, ∃ y ∈ ys, z = mkS (tR j y.cps.toList ps) := fun z hz => by
    obtain ⟨j, hj, e⟩ := List.mem_mapIdx.mp hz
    exact ⟨j, ys[j], List.getElem_mem hj, e.symm⟩
  refine ⟨by rw [tS_len]; exact h.n1, by rw [tS_len]; exact h.n8, h.w1, h.w8, fun z hz => ?_, fun z hz => ?_⟩
  · obtain ⟨j, y, hy, rfl⟩ := hm z hz
    rw [← len_cps, mkS_cps, tR_len, len_cps]
    exact h.len y hy
  · obtain ⟨j, y, hy, rfl⟩ := hm z hz
    unfold bitS
    rw [mkS_cps]
    exact tR_bits (h.bit y hy)
/-! ### crossings -/
theorem item_str_at {y : Str} {i : Nat} {c : Cs} (hz : y.length ≤ 100) (hi : i < y.cps.toList.length) : itemD (.str y) (.int (i : Nat)) c = .ok (.str ⟨#[y.cps.toList.getD i 0]⟩) c := by
  have hsz : sizeLine = 16777216 := sizeLine_eq
  show fits y.length _ = _
  unfold fits
  rw [if_pos (by omega), atI_nat (List.getElem?_eq_getElem hi), List.getD_eq_getElem?_getD, List.getElem?_eq_getElem hi]
  rfl
def VT (v : D) (c : Cs) : Prop := (∃ xs, SeqV v c xs) ∨ ∃ t, tyD v c = some t ∧ (t == "list" || t == "tuple") = false
theorem non_seq {v : D} {c : Cs} {t : String} (h : tyD v c = some t) (hn : (t == "list" || t == "tuple") = false) : seqOf v c = none := by
  cases v with
  | lst xs => cases h; cases hn
  | tup xs => cases h; cases hn
  | ro xs => cases h; cases hn
  | ref k =>
    simp only [tyD] at h
    simp only [seqOf]
    cases q : c[k]? with
    | none => rfl
    | some y =>
      rw [q] at h
      cases y with
      | lst xs => cases h; cases hn
      | _ => rfl
  | _ => rfl
/-! ### threads -/
abbrev Th := Bool × Nat
def kdS (b : Bool) : Str := if b = true then "weft" else "warp"
def thD (t : Th) : D := .tup [.str (kdS t.1), .int t.2]
def inB2 (w h : Nat) (t : Th) : Prop := t.2 < (if t.1 = true then h else w)
def thP (t : Th) : PyData := .tuple [.str (kdS t.1), .int t.2]
/-! ### threads and who lies over whom -/
theorem nW : ¬ (("warp" : Str) = "weft") := by decide +kernel
def thL (w g : Nat) : List Th := (List.range w).map (fun i => (false, i)) ++ (List.range g).map fun i => (true, i)
theorem thL_mem {w g : Nat} {t : Th} : t ∈ thL w g ↔ inB2 w g t := by
  obtain ⟨b, n⟩ := t
  unfold thL inB2
  cases b <;> simp
theorem thL_len (w g : Nat) : (thL w g).length = w + g := by simp [thL]
def sgn1 (ys : List Str) (i j : Nat) : Bool := decide ((ys.getD j "").cps.toList.getD i 0 = 49)
def ovr (ys : List Str) (a b : Th) : Bool := if a.1 = false then sgn1 ys a.2 b.2 else !sgn1 ys b.2 a.2
def crT (a b : Th) : Nat × Nat := if a.1 = false then (a.2, b.2) else (b.2, a.2)
theorem keys_ne : ¬ (("warp" : Str) = "weft") := by decide +kernel
theorem kept_make (x y : D) (l : Ls) (c : Cs) (f : MD) (h : f l c = .ok [(.str "warp", x), (.str "weft", y)] c) : mDict f l c = .ok (.ref c.length) (c ++ [.dct [(.inr "warp", x), (.inr "weft", y)]]) := by
  unfold mDict
  rw [h]
  have e : mergeKD [] [((.inr "warp" : Key), x), (.inr "weft", y)] = [(.inr "warp", x), (.inr "weft", y)] := by
    unfold mergeKD
    simp [putKD]
    exact keys_ne
  simp only [Mi.R.bind_ok, keyed, e]
  rfl

theorem kinds_ne : ¬ ((Sum.inr ("warp" : Str) : Key) = Sum.inr ("weft" : Str)) := fun e => nW (Sum.inr.inj e)
theorem dget_warp {k : Nat} {c : Cs} {x y : D} (hk : c[k]? = some (.dct [(.inr "warp", x), (.inr "weft", y)])) : dgetI (.ref k) (.str "warp") c = .ok x c := by
  have e : Mi.dctOf (.ref k) c = some [(.inr "warp", x), (.inr "weft", y)] := by simp [Mi.dctOf, hk]
  have g : getK [((.inr "warp" : Key), x), (.inr "weft", y)] (.inr "warp") = some x := by
    unfold getK
    rw [List.find?_cons]
    simp
  unfold dgetI
  rw [e]
  simp only [Mi.keyOf, g]
theorem dget_weft {k : Nat} {c : Cs} {x y : D} (hk : c[k]? = some (.dct [(.inr "warp", x), (.inr "weft", y)])) : dgetI (.ref k) (.str "weft") c = .ok y c := by
  have e : Mi.dctOf (.ref k) c = some [(.inr "warp", x), (.inr "weft", y)] := by simp [Mi.dctOf, hk]
  have g : getK [((.inr "warp" : Key), x), (.inr "weft", y)] (.inr "weft") = some y := by
    unfold getK
    rw [List.find?_cons]
    simp only [kinds_ne, decide_false]
    rw [List.find?_cons]
    simp
  unfold dgetI
  rw [e]
  simp only [Mi.keyOf, g]
theorem dget_kd {k : Nat} {c : Cs} {x y : D} (b : Bool) (hk : c[k]? = some (.dct [(.inr "warp", x), (.inr "weft", y)])) : dgetI (.ref k) (.str (kdS b)) c = .ok (if b = true then y else x) c := by
  cases b
  · exact dget_warp hk
  · exact dget_weft hk
/-! ### exchanged signs, in plain lists -/
def ngS (ys : List Str) : List Str := ys.map fun y => mkS (y.cps.toList.map exch)
theorem ng_len (ys : List Str) : (ngS ys).length = ys.length := by simp [ngS]
theorem map_exch_bits {ks : List Nat} (h : ks.all bitB = true) : (ks.map exch).all bitB = true := by
  refine List.all_eq_true.mpr fun k hk => ?_
  obtain ⟨x, hx, rfl⟩ := List.mem_map.mp hk
  exact (exch_bit (List.all_eq_true.mp h x hx)).1
theorem RwS.ng {ys : List Str} {w : Nat} (h : RwS ys w) : RwS (ngS ys) w := by
  refine ⟨by rw [ng_len]; exact h.n1, by rw [ng_len]; exact h.n8, h.w1, h.w8, fun z hz => ?_, fun z hz => ?_⟩
  · obtain ⟨y, hy, rfl⟩ := List.mem_map.mp hz
    rw [← len_cps, mkS_cps, List.length_map, len_cps]
    exact h.len y hy
  · obtain ⟨y, hy, rfl⟩ := List.mem_map.mp hz
    unfold bitS
    rw [mkS_cps]
    exact map_exch_bits (h.bit y hy)
/-! ### columns -/
def colL (ys : List Str) (i : Nat) : List Nat := ys.map fun y => y.cps.toList.getD i 0
theorem col_len (ys : List Str) (i : Nat) : (colL ys i).length = ys.length := by simp [colL]
theorem RwS.getD {ys : List Str} {w i : Nat} (h : RwS ys w) (hi : i < w) {y : Str} (hy : y ∈ ys) : ∃ hl : i < y.cps.toList.length, y.cps.toList.getD i 0 = y.cps.toList[i] ∧ bitB (y.cps.toList[i]) = true := by
  have hl : i < y.cps.toList.length := by rw [len_cps, h.len y hy]; exact hi
  exact ⟨hl, by rw [List.getD_eq_getElem?_getD, List.getElem?_eq_getElem hl]; rfl, List.all_eq_true.mp (h.bit y hy) _ (List.getElem_mem hl)⟩
theorem RwS.col_bits {ys : List Str} {w i : Nat} (h : RwS ys w) (hi : i < w) : (colL ys i).all bitB = true := by
  refine List.all_eq_true.mpr fun k hk => ?_
  obtain ⟨y, hy, rfl⟩ := List.mem_map.mp hk
  obtain ⟨hl, e, b⟩ := h.getD hi hy
  rw [e]; exact b
def tpS (ys : List Str) (w : Nat) : List Str := (List.range w).map fun i => mkS ((colL ys i).map exch)
theorem tp_rws {ys : List Str} {w : Nat} (h : RwS ys w) : RwS (tpS ys w) ys.length := by
  refine ⟨by simp [tpS]; exact h.w1, by simp [tpS]; exact h.w8, h.n1, h.n8, fun z hz => ?_, fun z hz => ?_⟩
  · obtain ⟨i, hi, rfl⟩ := List.mem_map.mp hz
    rw [← len_cps, mkS_cps, List.length_map, col_len]
  · obtain ⟨i, hi, rfl⟩ := List.mem_map.mp hz
    unfold bitS
    rw [mkS_cps]
    exact map_exch_bits (h.col_bits (List.mem_range.mp hi))
namespace Tu1
/-! ### crossings, asked -/
def ItC (x : D) (c : Cs) : Prop := (tyD x c).isSome = true ∧ ∀ ys, x = .tup ys → ∀ y ∈ ys, (tyD y c).isSome = true
/-! ### what is told of a list of crossings -/
inductive Vk where
  | lst
  | cr (x : D)
  | tw (x : D)
  | good (ps : List (Nat × Nat))
def crE (x : D) : Ex := ⟨"InvalidCrossing", [("value", x)]⟩
def twE (x : D) : Ex := ⟨"Duplicate", [("value", x)]⟩
def lsE (x : D) : Ex := ⟨"InvalidList", [("value", x)]⟩
def Vk.ex (v : D) : Vk → Ex
  | .lst => lsE v
  | .cr x => crE x
  | .tw x => twE x
  | .good _ => lsE v
def VT (v : D) (c : Cs) : Prop := (∃ xs, SeqV v c xs) ∨ ∃ t, tyD v c = some t ∧ (t == "list" || t == "tuple") = false
theorem non_seq {v : D} {c : Cs} {t : String} (h : tyD v c = some t) (hn : (t == "list" || t == "tuple") = false) : seqOf v c = none := by
  cases v with
  | lst xs => cases h; cases hn
  | tup xs => cases h; cases hn
  | ro xs => cases h; cases hn
  | ref k =>
    simp only [tyD] at h
    simp only [seqOf]
    cases q : c[k]? with
    | none => rfl
    | some y =>
      rw [q] at h
      cases y with
      | lst xs => cases h; cases hn
      | _ => rfl
  | _ => rfl
theorem pfx_of {c c' : Cs} (h1 : c.length ≤ c'.length) (h2 : ∀ k, k < c.length → c'[k]? = c[k]?) : Pfx c c' := by
  refine ⟨c'.drop c.length, List.ext_getElem? fun k => ?_⟩
  rcases Nat.lt_or_ge k c.length with h | h
  · rw [h2 k h, List.getElem?_append_left h]
  · rw [List.getElem?_append_right h, List.getElem?_drop]
    congr 1
    omega
end Tu1

namespace Pa1
/-! ### what is told of a list of threads -/
def ItC (x : D) (c : Cs) : Prop := (tyD x c).isSome = true ∧ (∀ ys, x = .tup ys → ∀ y ∈ ys, (tyD y c).isSome = true) ∧ Val x c
theorem ItC.val {x : D} {c : Cs} (h : ItC x c) : Val x c := h.2.2
inductive Vk where
  | lst
  | cr (x : D)
  | tw (x : D)
  | good (ps : List Th)
def crE (x : D) : Ex := ⟨"InvalidThread", [("value", x)]⟩
def twE (x : D) : Ex := ⟨"Duplicate", [("value", x)]⟩
def lsE (x : D) : Ex := ⟨"InvalidList", [("value", x)]⟩
def Vk.ex (v : D) : Vk → Ex
  | .lst => lsE v
  | .cr x => crE x
  | .tw x => twE x
  | .good _ => lsE v
def both (ps : List Th) : Bool := (ps.any fun t => t.1 == false) && ps.any fun t => t.1 == true
def Vk.fin : Vk → Vk
  | .good ps => if both ps = true then .good ps else .lst
  | r => r
/-! ### the part -/
def wN (b : Bool) (n : Nat) (ts : List Th) : List Nat := (List.range n).filter fun i => decide ((b, i) ∈ ts)
theorem wN_mem {b : Bool} {n i : Nat} {ts : List Th} : i ∈ wN b n ts ↔ i < n ∧ (b, i) ∈ ts := by simp [wN]
theorem any_map {b : Bool} {n : Nat} {ts : List Th} (hr : ∀ t ∈ ts, t.1 = b → t.2 < n) : (wN b n ts).isEmpty = !(ts.any fun t => t.1 == b) := by
  rw [Bool.eq_iff_iff]
  simp only [List.isEmpty_iff, Bool.not_eq_true', List.any_eq_false]
  constructor
  · intro h t ht e
    have e := eq_of_beq e
    have : t.2 ∈ wN b n ts := wN_mem.mpr ⟨hr t ht e, by rw [← e]; exact ht⟩
    rw [h] at this
    exact absurd this List.not_mem_nil
  · intro h
    refine List.eq_nil_iff_forall_not_mem.mpr fun i hi => ?_
    exact h _ (wN_mem.mp hi).2 (by simp)
end Pa1

/-! ### the methods, where they answer -/
def tyT : D → Bool
  | .non => true
  | .bl _ => true
  | .int _ => true
  | .str _ => true
  | .lst _ => true
  | .tup _ => true
  | .dct _ => true
  | _ => false
/-! ### two cloths together -/
/-! ### a thread removed -/
/-! ### a thread inserted -/
theorem sl_str {s : Str} {a b : Option Int} {c : Cs} (h : s.length ≤ 100) : sliceY (.str s) a b c = .ok (.str (cutS s a b)) c := by
  have hz : sizeLine = 16777216 := sizeLine_eq
  exact if_pos (show s.length ≤ sizeLine by omega)

namespace Tu1
end Tu1

section
variable {f g : MS} {a b : ME} {l l2 : Ls} {c c2 : Cs} {x : Ex} {d : D}
theorem sq_nx (h : f l c = .go (.nx l2) c2) : sSeq f g l c = g l2 c2 := by unfold sSeq; rw [h]; rfl
theorem se_ok (h : a l c = .ok d c2) : sExpr a l c = .go (.nx l) c2 := by unfold sExpr; rw [h]; rfl
theorem ifNm_n {i : Nat} {h : D → D → Cs → Mi.R D} {y : D} (ha : a l c = .ok d c) (hb : b (l.set i (some d)) c = .ok y c) (hh : h d y c = .ok (.bl false) c) (hf : g (l.set i (some d)) c = .go (.nx l2) c2) : sIfNm i h a b f g l c = .go (.nx l2) c2 := by
  unfold sIfNm
  rw [ha]
  simp only [Mi.R.seq, hb, hh, hf]
end



theorem pfx_of {c c' : Cs} (h1 : c.length ≤ c'.length) (h2 : ∀ k, k < c.length → c'[k]? = c[k]?) : Pfx c c' := by
  refine ⟨c'.drop c.length, List.ext_getElem? fun k => ?_⟩
  rcases Nat.lt_or_ge k c.length with h | h
  · rw [h2 k h, List.getElem?_append_left h]
  · rw [List.getElem?_append_right h, List.getElem?_drop]
    congr 1
    omega
theorem bx_pfx {c c' : Cs} {k : Nat} {n : Int} (h : Bx c k n) (p : Pfx c c') : Bx c' k n := by
  obtain ⟨y, rfl⟩ := p
  exact bx_app h y
/-! ### lists of whole numbers -/

def isI (d : D) : Bool := match d with | .int _ => true | _ => false
theorem isi_int {x : D} {c : Cs} {t : String} (h : tyD x c = some t) : isiD [x, .ty "int"] c = .ok (.bl (isT t "int")) c := by simp [isiD, h, tyNames]
theorem isi_bool {x : D} {c : Cs} {t : String} (h : tyD x c = some t) : isiD [x, .ty "bool"] c = .ok (.bl (isT t "bool")) c := by simp [isiD, h, tyNames]
theorem isI_ty {x : D} {c : Cs} {t : String} (h : tyD x c = some t) : (isT t "int" && !isT t "bool") = isI x := by
  unfold tyD at h
  split at h <;> first
    | (cases h; rfl)
    | (split at h <;> first | (cases h; rfl) | cases h)
    | cases h
def ilX (xs : List D) : Bool := decide (1 ≤ xs.length) && decide (xs.length ≤ 8) && xs.all isI
def ilB (v : D) (c : Cs) : Bool := match seqOf v c with
  | some xs => ilX xs
  | none => false
theorem VT.app {v : D} {c : Cs} (h : VT v c) (y : Cs) : VT v (c ++ y) := h.imp (fun ⟨xs, h⟩ => ⟨xs, h.app y⟩) fun ⟨t, h, hn⟩ => ⟨t, tyD_app h y, hn⟩
theorem filter_nil {α : Type} {p : α → Bool} : ∀ xs : List α, (xs.filter fun x => !p x).isEmpty = xs.all p
  | [] => rfl
  | x :: xs => by
    rw [List.filter_cons, List.all_cons, ← filter_nil xs]
    cases p x <;> rfl
def invS (v : D) : Ex := ⟨"InvalidScores", [("value", v)]⟩
def ilR (v : D) (c : Cs) (b : Bool) : Mi.R D := if b = true then .ok .non c else .stuck
theorem sq_s {f g : MS} {l : Ls} {c : Cs} (h : f l c = .stuck) : sSeq f g l c = .stuck := by unfold sSeq; rw [h]; rfl
theorem ifNm_s {i : Nat} {h : D → D → Cs → Mi.R D} {a b : ME} {f g : MS} {l : Ls} {c : Cs} {d y : D} (ha : a l c = .ok d c) (hb : b (l.set i (some d)) c = .ok y c) (hh : h d y c = .ok (.bl true) c) (hf : f (l.set i (some d)) c = .stuck) : sIfNm i h a b f g l c = .stuck := by
  unfold sIfNm
  rw [ha]
  simp only [Mi.R.seq, hb, hh, hf]
theorem need_integers_eq {v : D} {c : Cs} (h : VT v c) : gneed_integers [v] c = ilR v c (ilB v c) := by
  rcases h with ⟨xs, h⟩ | ⟨t, ht, hn⟩
  · obtain ⟨t, ht, htt⟩ := h.tt
    have e : ilB v c = ilX xs := by unfold ilB; rw [h.sq]
    rw [e]
    obtain ⟨w, hw1, hw2⟩ := wAny_seq h.sq
    have hl := h.ln
    have e1 : gis_sequence [v] c = .ok (.bl true) c := by rw [is_sequence_eq ht, htt]
    have e2 := len_seq h.sq
    have e3 : mLcW (kAny (mVar 0)) [1] (gN 1) (tYesM) (mAnd (mCB isiD (aCons (mVar 1) (aCons (mC (.ty "int")) (aNil)))) (mNot (mCB isiD (aCons (mVar 1) (aCons (mC (.ty "bool")) (aNil)))))) [some v, none] c = .ok (.lst (xs.map fun x => .bl (isI x))) c := by
      have := lcW_pure (it := kAny (mVar 0)) (js := [1]) (g := gN 1) (t := tYesM) (e := mAnd (mCB isiD (aCons (mVar 1) (aCons (mC (.ty "int")) (aNil)))) (mNot (mCB isiD (aCons (mVar 1) (aCons (mC (.ty "bool")) (aNil)))))) (l := [some v, none]) (w := w) (xs := xs) (P := fun _ => true) (F := fun x => .bl (isI x)) (lt := fun x => (wipeL [some v, none] [1]).set 1 (some x)) hw1 hw2 (by omega) (fun y hy => ⟨rfl, rfl, fun _ => ?_⟩)
      · rw [filter_yes] at this; exact this
      · obtain ⟨t2, ht2, _⟩ := (h.el y hy).ex
        rw [← isI_ty ht2]
        refine ok_eq ?_
        walk_at "okm"
        refine Ok.of (isi_int ht2) ⟨_, rfl, fun q => ?_, fun q => ?_⟩
        · walk_at "okm"
          refine Ok.of (isi_bool ht2) ⟨_, rfl, ?_, rfl⟩
          rw [q]; rfl
        · refine ⟨?_, rfl⟩
          rw [q]; rfl
    have e4 := all_bls isI xs c
    have q1 : (1 ≤ (xs.length : Int)) ↔ 1 ≤ xs.length := by omega
    have q2 : ((xs.length : Int) ≤ 8) ↔ xs.length ≤ 8 := by omega
    generalize hC : mLcW (kAny (mVar 0)) [1] (gN 1) (tYesM) (mAnd (mCB isiD (aCons (mVar 1) (aCons (mC (.ty "int")) (aNil)))) (mNot (mCB isiD (aCons (mVar 1) (aCons (mC (.ty "bool")) (aNil)))))) = C at e3
    unfold gneed_integers mFun cneed_integers
    rw [hC]
    generalize gis_sequence = F at e1 ⊢
    by_cases h1 : 1 ≤ xs.length
    · by_cases h2 : xs.length ≤ 8
      · cases h3 : xs.all isI with
        | true => simp [sSeq, sIf, tOrM, tNotM, mT, mCB, aCons, aNil, mVar, mC, mChain, mOp, leD, cmpI, sCut, sNil, e1, e2, e3, e4, q1, q2, h1, h2, h3, ilR, ilX]
        | false => simp [sSeq, sIf, tOrM, tNotM, mT, mCB, aCons, aNil, mVar, mC, mChain, mOp, leD, cmpI, sCut, sNil, e1, e2, e3, e4, q1, q2, h1, h2, h3, ilR, ilX, invS]
      · simp [sSeq, sIf, tOrM, tNotM, mT, mCB, aCons, aNil, mVar, mC, mChain, mOp, leD, cmpI, sCut, sNil, e1, e2, e3, e4, q1, q2, h1, h2, ilR, ilX, invS]
    · simp [sSeq, sIf, tOrM, tNotM, mT, mCB, aCons, aNil, mVar, mC, mChain, mOp, leD, cmpI, sCut, sNil, e1, e2, e3, e4, q1, q2, h1, ilR, ilX, invS]
  · have e : ilB v c = false := by unfold ilB; rw [non_seq ht hn]
    rw [e]
    have e1 : gis_sequence [v] c = .ok (.bl false) c := by rw [is_sequence_eq ht, hn]
    unfold gneed_integers mFun cneed_integers
    generalize gis_sequence = F at e1 ⊢
    simp [sSeq, sIf, tOrM, tNotM, mT, mCB, aCons, aNil, mVar, mC, sCut, sNil, e1, ilR, invS]

structure VI (v : D) (c : Cs) (is : List Int) : Prop where
  sv : SeqV v c (is.map D.int)
  lo : 1 ≤ is.length
  hi : is.length ≤ 8
theorem isI_map : ∀ {xs : List D}, xs.all isI = true → ∃ is : List Int, xs = is.map D.int
  | [], _ => ⟨[], rfl⟩
  | x :: xs, h => by
    obtain ⟨h1, h2⟩ := Bool.and_eq_true_iff.mp (show (isI x && xs.all isI) = true from h)
    obtain ⟨is, rfl⟩ := isI_map h2
    cases x with
    | int i => exact ⟨i :: is, rfl⟩
    | _ => cases h1
theorem ilB_ints {v : D} {c : Cs} (h : VT v c) (hb : ilB v c = true) : ∃ is, VI v c is := by
  rcases h with ⟨xs, h⟩ | ⟨t, ht, hn⟩
  · unfold ilB at hb
    rw [h.sq] at hb
    simp only [ilX, Bool.and_eq_true, decide_eq_true_eq] at hb
    obtain ⟨is, rfl⟩ := isI_map hb.2
    rw [List.length_map] at hb
    exact ⟨is, h, hb.1.1, hb.1.2⟩
  · unfold ilB at hb; rw [non_seq ht hn] at hb; cases hb
theorem VI.app {v : D} {c : Cs} {is : List Int} (h : VI v c is) (y : Cs) : VI v (c ++ y) is := ⟨h.sv.app y, h.lo, h.hi⟩
theorem VI.len {v : D} {c : Cs} {is : List Int} (h : VI v c is) : lenD [v] c = .ok (.int is.length) c := by
  rw [len_seq h.sv.sq, List.length_map]
def intsV (v : D) (c : Cs) : List Int := match seqOf v c with
  | some xs => (intsOf xs).getD []
  | none => []
theorem VI.ints {v : D} {c : Cs} {is : List Int} (h : VI v c is) : intsV v c = is := by
  unfold intsV
  rw [h.sv.sq]
  simp only [intsOf_map, Option.getD_some]
def rgB (is : List Int) (n : Nat) : Bool := is.all fun i => decide (0 ≤ i) && decide (i ≤ (n : Int))
theorem need_range_eq {v : D} {c : Cs} {is : List Int} (h : VI v c is) (n : Nat) : gneed_range [v, .int n] c = ilR v c (rgB is n) := by
  have hz : sizeLine = 16777216 := sizeLine_eq
  obtain ⟨w, hw1, hw2⟩ := wAny_seq h.sv.sq
  have hl := h.hi
  have e3 : mLcW (kAny (mVar 0)) [2] (gN 2) (tYesM) (mCB gis_integer (aCons (mVar 2) (aCons (mC (.int 0)) (aCons (mVar 1) (aNil))))) [some v, some (.int n), none] c = .ok (.lst ((is.map D.int).map fun x => .bl (isInt x 0 n))) c := by
    have := lcW_pure (it := kAny (mVar 0)) (js := [2]) (g := gN 2) (t := tYesM) (e := mCB gis_integer (aCons (mVar 2) (aCons (mC (.int 0)) (aCons (mVar 1) (aNil))))) (l := [some v, some (.int n), none]) (w := w) (xs := is.map D.int) (P := fun _ => true) (F := fun x => .bl (isInt x 0 n)) (lt := fun x => (wipeL [some v, some (.int n), none] [2]).set 2 (some x)) hw1 hw2 (by rw [List.length_map]; omega) (fun y hy => ⟨rfl, rfl, fun _ => ?_⟩)
    · rw [filter_yes] at this; exact this
    · obtain ⟨i, _, rfl⟩ := List.mem_map.mp hy
      exact ok_eq (ok_cb (ok_acons (ok_var rfl (ok_acons (ok_c (ok_acons (ok_var rfl (ok_anil (Ok.of (is_integer_eq rfl) ⟨rfl, rfl⟩)))))))))
  have e4 := all_bls (fun x => isInt x 0 n) (is.map D.int) c
  have e5 : (is.map D.int).all (fun x => isInt x 0 n) = rgB is n := by rw [List.all_map]; rfl
  rw [e5] at e4
  generalize (is.map D.int).map (fun x => D.bl (isInt x 0 n)) = zs at e3 e4
  generalize hC : mLcW (kAny (mVar 0)) [2] (gN 2) (tYesM) (mCB gis_integer (aCons (mVar 2) (aCons (mC (.int 0)) (aCons (mVar 1) (aNil))))) = C at e3
  unfold gneed_range mFun cneed_range
  rw [hC]
  cases h3 : rgB is n with
  | true => rw [h3] at e4; simp [sIf, tNotM, mT, mCB, aCons, aNil, mVar, mC, sCut, sNil, e3, e4, ilR]
  | false => rw [h3] at e4; simp [sIf, tNotM, mT, mCB, aCons, aNil, mVar, mC, sCut, sNil, e3, e4, ilR, invS]
theorem onInts_seq {v : D} {c : Cs} {is : List Int} {f : List Int → Option Int} {k : Int} (h : SeqV v c (is.map D.int)) (e : f is = some k) : on1 (onIntsY f) [v] c = .ok (.int k) c := by
  have hq := h.sq
  have go : ∀ xs, xs = is.map D.int → (match intsOf xs with
    | some ns => match f ns with
      | some k => (.ok (.int k) c : Mi.R D)
      | none => .stuck
    | none => .stuck) = .ok (.int k) c := fun xs hx => by subst hx; rw [intsOf_map]; simp only [e]
  cases v with
  | lst xs => cases hq; exact go _ rfl
  | tup xs => cases hq; exact go _ rfl
  | ro xs => exact absurd rfl (h.nr xs)
  | ref j =>
    have hq : (match c[j]? with
      | some (.lst xs) => some xs
      | _ => none) = some (is.map D.int) := hq
    have l : lstC (.ref j) c = some (is.map D.int) := by
      cases q : c[j]? with
      | none => rw [q] at hq; cases hq
      | some y =>
        rw [q] at hq
        cases y with
        | lst zs => cases hq; simp [lstC, q]
        | _ => cases hq
    show (match lstC (.ref j) c with
      | some ds => match intsOf ds with
        | some ns => match f ns with
          | some k => (.ok (.int k) c : Mi.R D)
          | none => .stuck
        | none => .stuck
      | none => .stuck) = _
    rw [l]
    exact go _ rfl
  | _ => cases hq
theorem VI.sum {v : D} {c : Cs} {is : List Int} (h : VI v c is) : sumY [v] c = .ok (.int is.sum) c := onInts_seq h.sv rfl
theorem VI.list {v : D} {c : Cs} {is : List Int} (h : VI v c is) : listD [v] c = .ok (.lst (is.map D.int)) c := by simp [listD, on1, listP, h.sv.sq]
inductive Vd where
  | sc (v : D)
  | tot (t : Int)
  | fine
def verd (v w : D) (c : Cs) : Vd :=
  if ilB v c = false then .sc v else if ilB w c = false then .sc w
  else if rgB (intsV v c) (intsV w c).length = false then .sc v
  else if rgB (intsV w c) (intsV v c).length = false then .sc w
  else if (intsV v c).sum + (intsV w c).sum = ((intsV v c).length : Int) * (intsV w c).length then .fine else .tot ((intsV v c).sum + (intsV w c).sum)
def keptS (is js : List Int) : Cell := .dct [(.inr "warp", .lst (is.map D.int)), (.inr "weft", .lst (js.map D.int))]
def Vd.init (v w : D) (k : Nat) (c : Cs) : Vd → Mi.R D
  | .sc v => .stuck
  | .tot t => .stuck
  | .fine => .ok .non ((c ++ [keptS (intsV v c) (intsV w c)]).set k (.ins "Scores" [("kept_scores", .ref c.length)]))
theorem mul_len (a b : Nat) (ha : a ≤ 8) (hb : b ≤ 8) (c : Cs) : mulI (.int a) (.int b) c = .ok (.int ((a : Int) * b)) c := by
  have h : CMul (a : Int) (b : Int) := Or.inl ⟨by omega, by omega⟩
  simp [mulI, intC, h]
theorem mul_at {a b : ME} {x y z : D} {l : Ls} {c : Cs} {g : D → D → Cs → Mi.R D} (h1 : a l c = .ok x c) (h2 : b l c = .ok y c) (h : g x y c = .ok z c) : mOp g a b l c = .ok z c := by
  unfold mOp
  rw [h1]
  simp only [Mi.R.bind_ok, h2, h]
theorem init_eq {v w : D} {k : Nat} {c : Cs} (hv : VT v c) (hw : VT w c) (hk : c[k]? = some (.ins "Scores" [])) : gScores____init__ [.ref k, v, w] c = (verd v w c).init v w k c := by
  have n1 := need_integers_eq hv
  have n2 := need_integers_eq hw
  unfold gScores____init__ mFun cScores____init__
  cases h1 : ilB v c with
  | false =>
    rw [h1] at n1
    generalize gneed_integers = F at n1 n2 ⊢
    simp [sSeq, sExpr, mCB, aCons, aNil, mVar, n1, ilR, verd, h1, Vd.init, invS]
  | true =>
    cases h2 : ilB w c with
    | false =>
      rw [h1] at n1
      rw [h2] at n2
      generalize gneed_integers = F at n1 n2 ⊢
      simp [sSeq, sExpr, mCB, aCons, aNil, mVar, n1, n2, ilR, verd, h1, h2, Vd.init, invS]
    | true =>
      obtain ⟨is, I⟩ := ilB_ints hv h1
      obtain ⟨js, J⟩ := ilB_ints hw h2
      have r1 := need_range_eq I js.length
      have r2 := need_range_eq J is.length
      have l1 := I.len
      have l2 := J.len
      rw [h1] at n1
      rw [h2] at n2
      cases h3 : rgB is js.length with
      | false =>
        rw [h3] at r1
        generalize gneed_integers = F at n1 n2 ⊢
        generalize gneed_range = G at r1 r2 ⊢
        simp [sSeq, sExpr, mCB, aCons, aNil, mVar, n1, n2, l1, l2, r1, ilR, verd, h1, h2, I.ints, J.ints, h3, Vd.init, invS]
      | true =>
        cases h4 : rgB js is.length with
        | false =>
          rw [h3] at r1
          rw [h4] at r2
          generalize gneed_integers = F at n1 n2 ⊢
          generalize gneed_range = G at r1 r2 ⊢
          simp [sSeq, sExpr, mCB, aCons, aNil, mVar, n1, n2, l1, l2, r1, r2, ilR, verd, h1, h2, I.ints, J.ints, h3, h4, Vd.init, invS]
        | true =>
          rw [h3] at r1
          rw [h4] at r2
          have s1 := I.sum
          have s2 := J.sum
          have m1 := mul_len is.length js.length I.hi J.hi c
          have t1 := I.list
          have t2 := J.list
          generalize gneed_integers = F at n1 n2 ⊢
          generalize gneed_range = G at r1 r2 ⊢
          have a1 : addD (.int is.sum) (.int js.sum) c = .ok (.int (is.sum + js.sum)) c := rfl
          have x1 : ∀ a b : Int, neX (.int a) (.int b) c = .ok (.bl (!decide (a = b))) c := fun _ _ => rfl
          have k2 : (c ++ [keptS is js])[k]? = some (.ins "Scores" []) := by rw [List.getElem?_append_left (List.getElem?_eq_some_iff.mp hk).1]; exact hk
          have kd : mDict (dCons (mC (.str "warp")) (mCB listD (aCons (mVar 1) (aNil))) (dCons (mC (.str "weft")) (mCB listD (aCons (mVar 2) (aNil))) (dNil))) [some (.ref k), some v, some w, some (.int (is.sum + js.sum))] c = .ok (.ref c.length) (c ++ [keptS is js]) := by
            have e1 : (dCons (mC (.str "warp")) (mCB listD (aCons (mVar 1) (aNil))) (dCons (mC (.str "weft")) (mCB listD (aCons (mVar 2) (aNil))) (dNil))) [some (.ref k), some v, some w, some (.int (is.sum + js.sum))] c = .ok [(.str "warp", .lst (is.map D.int)), (.str "weft", .lst (js.map D.int))] c := by
              simp [dCons, dNil, mC, mCB, aCons, aNil, mVar, t1, t2]
            exact kept_make _ _ _ _ _ e1
          have f1 : ∀ o1 o2 : Option D, mCB F (aCons (mVar 1) aNil) [some (.ref k), some v, o1, o2] c = .ok .non c := fun _ _ => by simp [mCB, aCons, aNil, mVar, n1, ilR]
          have f2 : ∀ o1 o2 : Option D, mCB F (aCons (mVar 2) aNil) [some (.ref k), o1, some w, o2] c = .ok .non c := fun _ _ => by simp [mCB, aCons, aNil, mVar, n2, ilR]
          have f3 : mCB G (aCons (mVar 1) (aCons (mCB lenD (aCons (mVar 2) aNil)) aNil)) [some (.ref k), some v, some w, none] c = .ok .non c := by simp [mCB, aCons, aNil, mVar, r1, l2, ilR]
          have f4 : mCB G (aCons (mVar 2) (aCons (mCB lenD (aCons (mVar 1) aNil)) aNil)) [some (.ref k), some v, some w, none] c = .ok .non c := by simp [mCB, aCons, aNil, mVar, r2, l1, ilR]
          have f5 : mOp addD (mCB sumY (aCons (mVar 1) (aNil))) (mCB sumY (aCons (mVar 2) (aNil))) [some (.ref k), some v, some w, none] c = .ok (.int (is.sum + js.sum)) c := by simp [mOp, mCB, aCons, aNil, mVar, s1, s2, a1]
          have f6 : ∀ o, mOp mulI (mCB lenD (aCons (mVar 1) (aNil))) (mCB lenD (aCons (mVar 2) (aNil))) [some (.ref k), some v, some w, o] c = .ok (.int ((is.length : Int) * js.length)) c := fun _ => mul_at (by simp [mCB, aCons, aNil, mVar, l1]) (by simp [mCB, aCons, aNil, mVar, l2]) m1
          have eV : verd v w c = if is.sum + js.sum = (is.length : Int) * js.length then .fine else .tot (is.sum + js.sum) := by
            unfold verd
            rw [h1, h2, I.ints, J.ints, h3, h4]
            rfl
          rw [eV]
          show (match (sSeq _ _ [some (.ref k), some v, some w, none] c) with
            | .go (.rt d) c' => (.ok d c' : Mi.R D)
            | .go (.nx _) c' => .ok .non c'
            | .exc x _ c' => .exc x c'
            | _ => .stuck) = _
          rw [sq_nx (se_ok (f1 _ _)), sq_nx (se_ok (f2 _ _)), sq_nx (se_ok f3), sq_nx (se_ok f4)]
          by_cases h5 : is.sum + js.sum = (is.length : Int) * js.length
          · have q : sFldM ["Scores"] "kept_scores" (mVar 0) (mDict (dCons (mC (.str "warp")) (mCB listD (aCons (mVar 1) (aNil))) (dCons (mC (.str "weft")) (mCB listD (aCons (mVar 2) (aNil))) (dNil)))) [some (.ref k), some v, some w, some (.int (is.sum + js.sum))] c = .go (.nx [some (.ref k), some v, some w, some (.int (is.sum + js.sum))]) ((c ++ [keptS is js]).set k (.ins "Scores" [("kept_scores", .ref c.length)])) := by
              unfold sFldM
              rw [kd]
              simp [mVar, Mi.R.seq, fldS, k2, putFD]
            rw [sq_nx (ifNm_n (g := sNil) (l2 := [some (.ref k), some v, some w, some (.int (is.sum + js.sum))]) f5 (f6 _) (by rw [x1, decide_eq_true h5]; rfl) rfl), if_pos h5, q]
            rw [Vd.init, I.ints, J.ints]
          · rw [sq_s (ifNm_s (f := sCut) f5 (f6 _) (by rw [x1, decide_eq_false h5]; rfl) rfl), if_neg h5]
            rfl

section
variable {l : Ls} {c : Cs} {g : MG} {t : MT} {e : ME} {Q : D → Cs → Prop}
end
/-- scores as they are drawn -/
def Sc (is : List Int) : Prop := 1 ≤ is.length ∧ is.length ≤ 8 ∧ ∀ i ∈ is, 0 ≤ i ∧ i ≤ 8
theorem cnt_le (k : Nat) : ∀ l : List Nat, 0 ≤ PyProof.Rows.cnt k l ∧ PyProof.Rows.cnt k l ≤ l.length
  | [] => by simp [PyProof.Rows.cnt_nil]
  | x :: l => by
    have := cnt_le k l
    rw [PyProof.Rows.cnt_cons, List.length_cons]
    split <;> omega
/-- the two lists -/
def Two (a b : Nat) (c : Cs) : Prop := ∀ j, j = a ∨ j = b → ∃ zs : List Int, c[j]? = some (.lst (zs.map D.int)) ∧ Sc zs
theorem Two.gr {a b k : Nat} {c c' : Cs} (h : Two a b c) (g : Gr k c c') (ha : a ≠ k) (hb : b ≠ k) : Two a b c' := fun j hj => by
  obtain ⟨zs, h1, h2⟩ := h j hj
  exact ⟨zs, g.get (by rcases hj with rfl | rfl <;> assumption) h1, h2⟩
theorem Two.set {a b j : Nat} {c : Cs} (h : Two a b c) (hj : j = a ∨ j = b) {zs : List Int} (hz : Sc zs) : Two a b (c.set j (.lst (zs.map D.int))) := fun i hi => by
  by_cases e : i = j
  · subst e
    obtain ⟨_, h1, _⟩ := h i hi
    exact ⟨zs, by rw [List.getElem?_set_self (List.getElem?_eq_some_iff.mp h1).1], hz⟩
  · obtain ⟨ws, h1, h2⟩ := h i hi
    exact ⟨ws, by rw [List.getElem?_set_ne (fun h => e h.symm)]; exact h1, h2⟩
theorem len_ref {j : Nat} {c : Cs} {zs : List Int} (h : c[j]? = some (.lst (zs.map D.int))) : lenD [.ref j] c = .ok (.int zs.length) c := by
  simp [lenD, lenC, h]
theorem item_ref {j : Nat} {c : Cs} {zs : List Int} (h : c[j]? = some (.lst (zs.map D.int))) {i : Nat} (hi : i < zs.length) : itemD (.ref j) (.int (i : Nat)) c = .ok (.int zs[i]) c := by
  simp [itemD, h, Mi.itL, atI, ixN, hi]
theorem put_ref {j : Nat} {c : Cs} {zs : List Int} (h : c[j]? = some (.lst (zs.map D.int))) {i : Nat} (hi : i < zs.length) (z : Int) : putD (.ref j) (.int (i : Nat)) (.int z) c = .ok () (c.set j (.lst ((zs.set i z).map D.int))) := by
  simp [putD, h, ixN, hi, List.map_set]
theorem Sc.set {zs : List Int} (h : Sc zs) (i : Nat) {z : Int} (h0 : 0 ≤ z) (h8 : z ≤ 8) : Sc (zs.set i z) := by
  obtain ⟨h1, h2, h3⟩ := h
  refine ⟨by simpa using h1, by simpa using h2, fun y hy => ?_⟩
  rcases List.mem_or_eq_of_mem_set hy with hy | rfl
  · exact h3 y hy
  · exact ⟨h0, h8⟩

theorem eq_one (k : Nat) (c : Cs) : eqX (.str ⟨#[k]⟩) (.str "1") c = .ok (.bl (decide (k = 49))) c := by
  show Mi.R.ok (D.bl ((⟨#[k]⟩ : Str) == "1")) c = _
  by_cases h : k = 49
  · subst h; rfl
  · have : ((⟨#[k]⟩ : Str) == "1") = false := beq_eq_false_iff_ne.mpr fun e => h (by
      have := congrArg (fun s : Str => s.cps.toList) e
      have e1 : ("1" : Str).cps.toList = [49] := by decide +kernel
      simp only [e1] at this
      simpa using this)
    rw [this, decide_eq_false h]
theorem ne_ints (a b : Int) (c : Cs) : neX (.int a) (.int b) c = .ok (.bl (!decide (a = b))) c := by
  show Mi.R.ok (D.bl (!(a == b))) c = _
  by_cases h : a = b
  · subst h; simp
  · rw [decide_eq_false h, beq_eq_false_iff_ne.mpr h]
theorem eq_ints (a b : Int) (c : Cs) : eqX (.int a) (.int b) c = .ok (.bl (decide (a = b))) c := by
  show Mi.R.ok (D.bl (a == b)) c = _
  by_cases h : a = b
  · subst h; simp
  · rw [decide_eq_false h, beq_eq_false_iff_ne.mpr h]
theorem RwS.item0 {ys : List Str} {w : Nat} (h : RwS ys w) (c : Cs) : ∃ y0, itemD (.lst (ys.map D.str)) (.int 0) c = .ok (.str y0) c ∧ lenD [.str y0] c = .ok (.int w) c ∧ y0 ∈ ys := by
  obtain ⟨y0, yr, hys, hy0⟩ := h.head
  have hz : sizeLine = 16777216 := sizeLine_eq
  have hw := h.w8
  refine ⟨y0, item_seq (xs := ys.map D.str) (i := 0) rfl (by rw [hys]; rfl), ?_, by rw [hys]; simp⟩
  obtain ⟨d, c', e, rfl, rfl⟩ := ok_len_str (s := y0) (c := c) (Q := fun d c' => d = .int (w : Nat) ∧ c' = c) (by omega) ⟨by rw [hy0], rfl⟩
  exact e
/-! ### loops over ranges, by the number of the turn -/
theorem wlenV {ys : List Str} {w i : Nat} {l : Ls} {c : Cs} (hr : RwS ys w) (h1 : l[i]? = some (some (.lst (ys.map D.str)))) : (mCB lenD (aCons (mOp itemD (mVar i) (mC (.int 0))) (aNil))) l c = .ok (.int (w : Int)) c := by
  obtain ⟨y0, e1, e2, _⟩ := hr.item0 c
  exact Ok.eq (ok_cb (ok_acons (ok_op (ok_var h1 (ok_c (Ok.of e1 (ok_anil (Ok.of e2 ⟨rfl, rfl⟩))))))))
/-! ### squares -/
structure Sq where
  a : Nat
  b : Nat
  t : Nat
  o : Nat
def SqOk (w g : Nat) (q : Sq) : Prop := q.a < q.b ∧ q.b < w ∧ q.t < q.o ∧ q.o < g
def SqL (w g : Nat) (L : List Sq) : Prop := ∀ q ∈ L, SqOk w g q
/-! ### scores in order: plain -/
def keyLe : Int × Nat → Int × Nat → Bool := fun p q => decide (p.1 ≤ q.1)
def prI (l : List Int) : List (Int × Nat) := l.zip (List.range l.length)
def ordI (l : List Int) : List (Int × Nat) := (prI l).mergeSort keyLe
theorem prI_snd (l : List Int) : (prI l).map Prod.snd = List.range l.length := List.map_snd_zip (by simp)
/-! ### the two conditions are one -/
/-! ### the lists that are drawn -/
structure SLq (is js : List Int) : Prop where
  i1 : 1 ≤ is.length
  i8 : is.length ≤ 8
  j1 : 1 ≤ js.length
  j8 : js.length ≤ 8
  ib : ∀ x ∈ is, 0 ≤ x ∧ x ≤ js.length
  jb : ∀ x ∈ js, 0 ≤ x ∧ x ≤ is.length
  tot : is.sum + js.sum = (is.length : Int) * js.length
def oneB (y : Str) (i : Nat) : Int := if y.cps.toList.getD i 0 = 49 then 1 else 0
def colN (ys : List Str) (i : Nat) : Nat := ys.countP fun y => decide (y.cps.toList.getD i 0 = 49)
theorem sum_add2 {α : Type} (f g : α → Int) : ∀ l : List α, (l.map fun x => f x + g x).sum = (l.map f).sum + (l.map g).sum
  | [] => rfl
  | x :: l => by
    simp only [List.map_cons, List.sum_cons, sum_add2 f g l]
    omega
theorem sum_const {α : Type} (k : Int) : ∀ l : List α, (l.map fun _ => k).sum = l.length * k
  | [] => by simp
  | x :: l => by
    simp only [List.map_cons, List.sum_cons, sum_const k l, List.length_cons]
    rw [show ((l.length + 1 : Nat) : Int) = (l.length : Int) + 1 by omega, Int.add_mul, Int.one_mul]
    omega
theorem row_tot : ∀ l : List Nat, l.all bitB = true → ((List.range l.length).map fun i => if l.getD i 0 = 49 then (1 : Int) else 0).sum + PyProof.Rows.cnt 48 l = l.length
  | [], _ => by simp [PyProof.Rows.cnt_nil]
  | x :: l, h => by
    rw [List.all_cons, Bool.and_eq_true] at h
    have ih := row_tot l h.2
    have hb : x = 48 ∨ x = 49 := by simpa [bitB] using h.1
    rw [List.length_cons, List.range_succ_eq_map, List.map_cons, List.map_map, List.sum_cons, PyProof.Rows.cnt_cons]
    have e : ((fun i => if (x :: l).getD i 0 = 49 then (1 : Int) else 0) ∘ Nat.succ) = fun i => if l.getD i 0 = 49 then (1 : Int) else 0 := by
      funext i
      simp
    rw [e]
    generalize ((List.range l.length).map fun i => if l.getD i 0 = 49 then (1 : Int) else 0).sum = S at ih ⊢
    show (if x = 49 then (1 : Int) else 0) + S + ((if x = 48 then 1 else 0) + PyProof.Rows.cnt 48 l) = ((l.length + 1 : Nat) : Int)
    rcases hb with rfl | rfl <;> simp <;> omega
theorem col_sum (w : Nat) : ∀ ys : List Str, ((List.range w).map fun i => (colN ys i : Int)).sum = (ys.map fun y => ((List.range w).map fun i => oneB y i).sum).sum
  | [] => by
    have : (fun i => (colN [] i : Int)) = fun _ : Nat => (0 : Int) := rfl
    rw [this, sum_const]
    simp
  | y :: ys => by
    have e : (fun i => (colN (y :: ys) i : Int)) = fun i => oneB y i + (colN ys i : Int) := by
      funext i
      unfold colN oneB
      rw [List.countP_cons]
      by_cases h : y.cps.toList.getD i 0 = 49
      · rw [if_pos (decide_eq_true h), if_pos h]; omega
      · rw [if_neg (by simpa using h), if_neg h]; omega
    rw [e, sum_add2, col_sum w ys, List.map_cons, List.sum_cons]
theorem row_two {y : Str} {w : Nat} (hl : y.length = w) (hb : bitS y) : ((List.range w).map fun i => oneB y i).sum + Txt.count y "0" = w := by
  have h := row_tot y.cps.toList hb
  rw [len_cps, hl] at h
  rw [show ("0" : Str) = ⟨#[48]⟩ by decide +kernel, PyProof.Rows.count_cnt]
  exact h
theorem lists_SL {ys : List Str} {w : Nat} (hr : RwS ys w) : SLq ((List.range w).map fun i => (colN ys i : Int)) (ys.map fun y => Txt.count y "0") := by
  have n8 := hr.n8
  have w8 := hr.w8
  refine ⟨by simpa using hr.w1, by simpa using hr.w8, by simpa using hr.n1, by simpa using hr.n8, fun x hx => ?_, fun x hx => ?_, ?_⟩
  · obtain ⟨i, _, rfl⟩ := List.mem_map.mp hx
    have h : colN ys i ≤ ys.length := List.countP_le_length
    rw [List.length_map]
    omega
  · obtain ⟨y, hy, rfl⟩ := List.mem_map.mp hx
    have h1 := cnt_le 48 y.cps.toList
    have e : y.cps.toList.length = y.length := len_cps y
    have h2 := hr.len y hy
    rw [List.length_map, List.length_range, show ("0" : Str) = ⟨#[48]⟩ by decide +kernel, PyProof.Rows.count_cnt]
    omega
  · rw [col_sum, ← sum_add2, List.length_map, List.length_range, List.length_map]
    have e : (ys.map fun y => ((List.range w).map fun i => oneB y i).sum + Txt.count y "0") = ys.map fun _ => (w : Int) := List.map_congr_left fun y hy => row_two (hr.len y hy) (hr.bit y hy)
    rw [e, sum_const, Int.mul_comm]
/-! ### the lists are changed, the total stays -/
structure ST (T : Bool → List Int) (d : Int) : Prop where
  l1 : ∀ b, 1 ≤ (T b).length
  l8 : ∀ b, (T b).length ≤ 8
  bd : ∀ b, ∀ x ∈ T b, 0 ≤ x ∧ x ≤ (T (!b)).length
  tot : (T false).sum + (T true).sum + d = ((T false).length : Int) * (T true).length
def updT (T : Bool → List Int) (b : Bool) (zs : List Int) : Bool → List Int := fun x => if x = b then zs else T x
theorem sum_set : ∀ (l : List Int) (i : Nat) (z : Int) (h : i < l.length), (l.set i z).sum = l.sum - l[i] + z
  | [], i, z, h => absurd h (by simp)
  | x :: l, 0, z, h => by simp only [List.set_cons_zero, List.sum_cons, List.getElem_cons_zero]; omega
  | x :: l, i + 1, z, h => by
    have := sum_set l i z (by simpa using h)
    simp only [List.set_cons_succ, List.sum_cons, List.getElem_cons_succ]
    omega
theorem ST.set {T : Bool → List Int} {d : Int} (h : ST T d) (b : Bool) {i : Nat} (hi : i < (T b).length) {z : Int} (h0 : 0 ≤ z) (h8 : z ≤ (T (!b)).length) : ST (updT T b ((T b).set i z)) (d + (T b)[i] - z) := by
  have hl : ∀ x, (updT T b ((T b).set i z) x).length = (T x).length := fun x => by
    unfold updT
    split
    · rename_i e; rw [e, List.length_set]
    · rfl
  refine ⟨fun x => by rw [hl]; exact h.l1 x, fun x => by rw [hl]; exact h.l8 x, fun x y hy => ?_, ?_⟩
  · rw [hl]
    unfold updT at hy
    split at hy
    · rename_i e
      subst e
      rcases List.mem_or_eq_of_mem_set hy with hy | rfl
      · exact h.bd _ y hy
      · exact ⟨h0, h8⟩
    · exact h.bd x y hy
  · rw [hl, hl, ← h.tot]
    have e := sum_set (T b) i z hi
    cases b
    · have e1 : updT T false ((T false).set i z) false = (T false).set i z := rfl
      have e2 : updT T false ((T false).set i z) true = T true := rfl
      rw [e1, e2, e]; omega
    · have e1 : updT T true ((T true).set i z) false = T false := rfl
      have e2 : updT T true ((T true).set i z) true = (T true).set i z := rfl
      rw [e1, e2, e]; omega
theorem ST.sl {T : Bool → List Int} (h : ST T 0) : SLq (T false) (T true) := ⟨h.l1 _, h.l8 _, h.l1 _, h.l8 _, h.bd false, h.bd true, by have := h.tot; omega⟩
theorem SLq.st {is js : List Int} (h : SLq is js) : ST (fun b => if b = true then js else is) 0 := by
  refine ⟨fun b => ?_, fun b => ?_, fun b => ?_, by have := h.tot; simp; omega⟩
  · cases b; exact h.i1; exact h.j1
  · cases b; exact h.i8; exact h.j8
  · cases b; exact h.ib; exact h.jb
def adT (a : Nat) (b : Bool) : Nat := if b = true then a + 1 else a
def Tw (a : Nat) (T : Bool → List Int) (c : Cs) : Prop := ∀ b, c[adT a b]? = some (.lst ((T b).map D.int))
theorem Tw.gr {a k : Nat} {T : Bool → List Int} {c c' : Cs} (h : Tw a T c) (g : Gr k c c') (ha : ∀ b, adT a b ≠ k) : Tw a T c' := fun b => g.get (ha b) (h b)
theorem adT_inj {a : Nat} {x b : Bool} (h : adT a x = adT a b) : x = b := by
  cases x <;> cases b <;> simp [adT] at h ⊢
theorem Tw.set {a : Nat} {T : Bool → List Int} {c : Cs} (h : Tw a T c) (b : Bool) (zs : List Int) : Tw a (updT T b zs) (c.set (adT a b) (.lst (zs.map D.int))) := fun x => by
  unfold updT
  by_cases e : x = b
  · subst e
    rw [if_pos rfl, List.getElem?_set_self (List.getElem?_eq_some_iff.mp (h x)).1]
  · rw [if_neg e, List.getElem?_set_ne (fun q => e (adT_inj q).symm)]
    exact h x
theorem pick (a : Nat) {i : Int} (h0 : 0 ≤ i) (h1 : i < 2) : ∃ b : Bool, (∀ c, itemD (.lst [.ref a, .ref (a + 1)]) (.int i) c = .ok (.ref (adT a b)) c) ∧ ∀ c, itemD (.lst [.ref a, .ref (a + 1)]) (.int (1 - i)) c = .ok (.ref (adT a (!b))) c := by
  have : i = 0 ∨ i = 1 := by omega
  rcases this with rfl | rfl
  · exact ⟨false, fun _ => rfl, fun _ => rfl⟩
  · exact ⟨true, fun _ => rfl, fun _ => rfl⟩
/-! ### Scores: its value, threads, score_of -/
def scoD (kd : Nat) : D := .obj "Scores" [("kept_scores", .ref kd)]
structure Kp (T : Bool → List Int) (kd : Nat) (c : Cs) : Prop where
  at_ : c[kd]? = some (keptS (T false) (T true))
theorem Kp.pfx {T : Bool → List Int} {kd : Nat} {c c' : Cs} (h : Kp T kd c) (p : Pfx c c') : Kp T kd c' := ⟨p.get h.at_⟩
theorem Kp.get {T : Bool → List Int} {kd : Nat} {c : Cs} (h : Kp T kd c) (b : Bool) : dgetI (.ref kd) (.str (kdS b)) c = .ok (.lst ((T b).map D.int)) c := by
  have e := dget_kd (x := .lst ((T false).map D.int)) (y := .lst ((T true).map D.int)) b h.at_
  rw [e]
  cases b <;> rfl
theorem fld_hit {kd i : Nat} {l : Ls} {c : Cs} (h : l[i]? = some (some (scoD kd))) : mFld ["Scores"] "kept_scores" (mVar i) l c = .ok (.ref kd) c := by
  refine Ok.eq (Ok.bind (ok_var h ?_))
  have e : fldR ["Scores"] "kept_scores" (scoD kd) c = .ok (.ref kd) c := by kernel_rfl
  exact Ok.of e ⟨rfl, rfl⟩
theorem ok_extend {k : Nat} {xs zs : List D} {y : D} {c : Cs} {Q : D → Cs → Prop} (h : c[k]? = some (.lst xs)) (hy : lstC y c = some zs) (hl : xs.length + zs.length ≤ sizeLine) (q : Q .non (c.set k (.lst (xs ++ zs)))) : Ok (extendD (.ref k) [y] c) Q :=
  ⟨_, _, by unfold extendD cellX; simp only [h, hy]; exact if_pos hl, q⟩
/-! ### sorted by the scores -/
def lowL (T : Bool → List Int) (b : Bool) (n : Nat) : List Th := ((ordI (T b)).take n).map fun x => (b, x.2)
def lowT (T : Bool → List Int) (s t : Nat) : List Th := lowL T false s ++ lowL T true t
section
variable {T : Bool → List Int} {kd : Nat} {c : Cs} {l : Ls} {o : ME} {t : MA} {mm : Str} {g : List D → Cs → Mi.R D}
end
/-! ### excess, pairs, violation -/
/-! ### the law's lists, its lowest -/
inductive IsS (x : D) (c : Cs) (ns : List Int) : Prop
  | tree (h : x = .lst (ns.map D.int))
  | cell (k : Nat) (h : x = .ref k) (hc : c[k]? = some (.lst (ns.map D.int)))
theorem IsS.pfx {x : D} {c c' : Cs} {ns : List Int} (h : IsS x c ns) (p : Pfx c c') : IsS x c' ns := by
  cases h with
  | tree h => exact .tree h
  | cell k h hc => exact .cell k h (p.get hc)
theorem IsS.lstC {x : D} {c : Cs} {ns : List Int} (h : IsS x c ns) : Mi.lstC x c = some (ns.map D.int) := by
  cases h with
  | tree h => subst h; rfl
  | cell k h hc => subst h; simp [Mi.lstC, hc]
theorem IsS.seq {x : D} {c : Cs} {ns : List Int} (h : IsS x c ns) : seqOf x c = some (ns.map D.int) := by
  cases h with
  | tree h => subst h; rfl
  | cell k h hc => subst h; simp [seqOf, hc]
theorem IsS.any {x : D} {c : Cs} {ns : List Int} (h : IsS x c ns) : ∃ w, wAny x c = .ok w c ∧ ∀ i, w i c = some (ns.map D.int)[i]? := by
  cases h with
  | tree h => subst h; exact ⟨_, wAny_tree rfl, fun _ => rfl⟩
  | cell k h hc =>
    subst h
    refine ⟨cellW k, ?_, fun i => ?_⟩
    · show (match cellL k c with
        | some _ => (.ok (cellW k) c : Mi.R Wk)
        | none => .stuck) = _
      have : cellL k c = some (ns.map D.int) := by unfold cellL; rw [hc]
      rw [this]
    · unfold cellW cellL
      rw [hc]
theorem IsS.len {x : D} {c : Cs} {ns : List Int} (h : IsS x c ns) : lenD [x] c = .ok (.int ns.length) c := by rw [len_seq h.seq, List.length_map]
theorem IsS.sum {x : D} {c : Cs} {ns : List Int} (h : IsS x c ns) : sumY [x] c = .ok (.int ns.sum) c := by
  have e : onInts (fun ns => some ns.sum) x c = .ok (.int ns.sum) c := by
    unfold onInts
    rw [h.lstC]
    simp only [intsOf_map]
  cases h with
  | tree h => subst h; exact e
  | cell k h hc => subst h; exact e
theorem IsS.max {x : D} {c : Cs} {ns : List Int} (h : IsS x c ns) (h1 : 1 ≤ ns.length) : ∃ m, ns.max? = some m ∧ maxY [x] c = .ok (.int m) c := by
  obtain ⟨m, hm⟩ : ∃ m, ns.max? = some m := by
    cases q : ns.max? with
    | none => rw [List.max?_eq_none_iff.mp q] at h1; simp at h1
    | some m => exact ⟨m, rfl⟩
  have e : onInts (fun ns => ns.max?) x c = .ok (.int m) c := by
    unfold onInts
    rw [h.lstC]
    simp only [intsOf_map, hm]
  refine ⟨m, hm, ?_⟩
  cases h with
  | tree h => subst h; exact e
  | cell k h hc => subst h; exact e
theorem IsS.min {x : D} {c : Cs} {ns : List Int} (h : IsS x c ns) (h1 : 1 ≤ ns.length) : ∃ m, ns.min? = some m ∧ minY [x] c = .ok (.int m) c := by
  obtain ⟨m, hm⟩ : ∃ m, ns.min? = some m := by
    cases q : ns.min? with
    | none => rw [List.min?_eq_none_iff.mp q] at h1; simp at h1
    | some m => exact ⟨m, rfl⟩
  have e : onInts (fun ns => ns.min?) x c = .ok (.int m) c := by
    unfold onInts
    rw [h.lstC]
    simp only [intsOf_map, hm]
  refine ⟨m, hm, ?_⟩
  cases h with
  | tree h => subst h; exact e
  | cell k h hc => subst h; exact e
structure LsV (v : D) (c : Cs) (T : Bool → List Int) : Prop where
  ex : ∃ X : Bool → D, v = .lst [X false, X true] ∧ ∀ b, IsS (X b) c (T b)
theorem LsV.pfx {v : D} {c c' : Cs} {T : Bool → List Int} (h : LsV v c T) (p : Pfx c c') : LsV v c' T := by
  obtain ⟨X, e, hX⟩ := h.ex
  exact ⟨X, e, fun b => (hX b).pfx p⟩
theorem LsV.pick {v : D} {c : Cs} {T : Bool → List Int} (h : LsV v c T) (b : Bool) : ∃ x, (∀ c', itemD v (.int (if b = true then 1 else 0)) c' = .ok x c') ∧ IsS x c (T b) := by
  obtain ⟨X, rfl, hX⟩ := h.ex
  refine ⟨X b, fun c' => ?_, hX b⟩
  cases b <;> rfl
/-! ### Scores made; what is shown; the law -/
theorem IsS.vt {x : D} {c : Cs} {ns : List Int} (h : IsS x c ns) (h8 : ns.length ≤ 8) : VT x c := by
  refine .inl ⟨ns.map D.int, h.seq, ?_, by rw [List.length_map]; omega, fun d hd => ?_, ?_⟩
  · cases h with
    | tree h => subst h; exact .inl rfl
    | cell k h hc => subst h; exact .inl (by simp [tyD, hc])
  · obtain ⟨z, _, rfl⟩ := List.mem_map.mp hd
    exact ⟨"int", rfl, fun e => by simp at e⟩
  · cases h with
    | tree h => subst h; exact fun _ => nofun
    | cell k h hc => subst h; exact fun _ => nofun
theorem IsS.ints {x : D} {c : Cs} {ns : List Int} (h : IsS x c ns) : intsV x c = ns := by
  unfold intsV
  rw [h.seq]
  simp only [intsOf_map, Option.getD_some]
theorem IsS.il {x : D} {c : Cs} {ns : List Int} (h : IsS x c ns) (h1 : 1 ≤ ns.length) (h8 : ns.length ≤ 8) : ilB x c = true := by
  unfold ilB
  rw [h.seq]
  simp only [ilX, List.length_map, Bool.and_eq_true, decide_eq_true_eq]
  refine ⟨⟨h1, h8⟩, List.all_eq_true.mpr fun d hd => ?_⟩
  obtain ⟨z, _, rfl⟩ := List.mem_map.mp hd
  rfl
section

local macro_rules | `(tactic| walk_at "rws") => `(tactic| first | assumption | exact RwS.ng (by assumption) | exact RwS.turn (by assumption) _ | exact tp_rws (by assumption) | exact tp_rws (RwS.ng (by assumption)) | exact RwS.ng (tp_rws (by assumption)))
local macro_rules | `(tactic| walk_at "pf") => `(tactic| (repeat (first | assumption | exact Pfx.refl _ | exact Pfx.one _ _ | refine Pfx.trans ?_ (by assumption) | refine Pfx.trans ?_ (Pfx.one _ _))))
local macro_rules | `(tactic| walk_at "bx") => `(tactic| first | exact bx_mono (by assumption) (by omega) | refine bx_mono (bx_pfx (by assumption) (by walk_at "pf")) (by omega))
local macro_rules | `(tactic| walk_at "gs0") => `(tactic| first
  | with_reducible refine os_seq ?_ | with_reducible refine os_set ?_ | with_reducible refine os_ret ?_ | with_reducible refine os_asg ?_ | with_reducible refine os_par ?_
  | with_reducible refine os_expr ?_ | with_reducible refine os_nil ?_ | with_reducible refine os_retn ?_ | with_reducible refine os_brk ?_ | with_reducible refine os_cnt ?_
  | with_reducible refine ok_op ?_ | (with_reducible refine ok_var ?_ ?_; (focus rfl)) | with_reducible refine ok_c ?_ | with_reducible refine ok_un ?_ | with_reducible refine ok_cb ?_ | with_reducible refine ok_anil ?_ | with_reducible refine ok_acons ?_
  | with_reducible refine ok_lst ?_ | with_reducible refine ok_tup ?_ | with_reducible refine ok_lstM ?_ | with_reducible refine ok_dict1 ?_
  | with_reducible refine ok_and ?_ | with_reducible refine ok_or ?_ | with_reducible refine ok_not ?_ | with_reducible refine ok_chain ?_ | with_reducible refine ok_t ?_ | with_reducible refine ok_tnot ?_ | with_reducible refine ok_tand ?_
  | with_reducible refine ok_tor ?_ | with_reducible refine ok_if ?_ | with_reducible refine ok_onone ?_ | with_reducible refine ok_osome ?_ | with_reducible refine ok_slice ?_ | with_reducible refine ok_m1 ?_
  | with_reducible refine ok_bm ?_ | with_reducible refine ok_gs ?_ | with_reducible refine ok_cbd ?_ | with_reducible refine ok_cbk ?_ | with_reducible refine os_ifNm ?_ | with_reducible refine ok_frz ?_ | with_reducible refine ok_itup ?_ | with_reducible refine ok_istr ?_ | with_reducible refine ok_r1 ?_ | with_reducible refine ok_r2 ?_ | with_reducible refine ok_il ?_ | with_reducible refine ok_gn ?_)
local macro_rules | `(tactic| walk_at "gs") => `(tactic| first | with_reducible refine os_if ?_ | walk_at "gs0")
local macro_rules | `(tactic| walk_at "gt") => `(tactic| first
  | refine And.intro (Nat.le_of_ble_eq_true rfl) ?_ | refine Exists.intro _ (And.intro rfl ?_) | refine And.intro (fun _ => ?_) (fun hk => Bool.noConfusion hk) | refine And.intro (fun hk => Bool.noConfusion hk) (fun _ => ?_)
  | (walk_at "nolp"; (fail_if_success (with_reducible refine Ok.fun ?_ ?_)); refine ok_ret ?_))
local macro_rules | `(tactic| walk_at "go") => `(tactic| repeat (first | walk_at "gs" | walk_at "use" | walk_at "gt"))
local macro_rules | `(tactic| walk_at "gon") => `(tactic| repeat (first | walk_at "gs0" | walk_at "use" | walk_at "gt"))

local macro_rules | `(tactic| walk_at "bt") => `(tactic| first | assumption | exact bx_pfx (by assumption) (by walk_at "pf"))
local macro_rules | `(tactic| walk_at "use") => `(tactic| first
  | (with_reducible refine And.intro ⟨_, clo_is _ _⟩ ?_)
  | (with_reducible refine Exists.intro _ (And.intro (clo_is _ _) ?_))
  | with_reducible refine ok_clmeth (by decide +kernel) ?_ | with_reducible refine ok_kept ?_
  | with_reducible refine ok_slY ?_
  | with_reducible refine ok_len_map ?_
  | with_reducible refine take_gr (by walk_at "bt") (by omega) (by omega) (by omega) (fun _ _ _ _ _ _ _ => ?_))

/-! ### rows of any kind -/
def bitR (w : Nat) (s : Str) : Prop := s.length = w ∧ bitS s
section
variable {ys : List Str} {c : Cs} {Q : D → Cs → Prop} {g : List D → Cs → R D} {g1 : D → Cs → R D} {g0 : D → D → Cs → R D} {y : D}
end
/-! ### ways that lead back, in plain lists -/
/-! ### the scores -/
/-! ### what the scores say -/
/-! ### what can be shown -/
structure Sh (ds : List D) (ps : List PyData) (W dp : Nat) : Prop where
  py : ∀ n c, dp ≤ n → mapO (toPyC n c) ds = some ps
  b : bPs ps = true
  w : wPs ps ≤ W
  d : PyData.depthAll ps ≤ dp
theorem mapO_app2 {α β : Type} {f : α → Option β} : ∀ {xs ys : List α} {us vs : List β}, mapO f xs = some us → mapO f ys = some vs → mapO f (xs ++ ys) = some (us ++ vs)
  | [], ys, us, vs, e, e2 => by cases e; exact e2
  | x :: xs, ys, us, vs, e, e2 => by
    unfold mapO at e
    cases q : f x with
    | none => rw [q] at e; cases e
    | some u =>
      rw [q] at e
      cases q2 : mapO f xs with
      | none => rw [q2] at e; cases e
      | some us2 =>
        rw [q2] at e
        cases e
        show mapO f (x :: (xs ++ ys)) = _
        unfold mapO
        rw [q, mapO_app2 q2 e2]
        rfl
theorem bPs_app : ∀ {us vs : List PyData}, bPs us = true → bPs vs = true → bPs (us ++ vs) = true
  | [], _, _, h => h
  | u :: us, vs, h, h2 => by
    simp only [bPs, Bool.and_eq_true, List.cons_append] at h ⊢
    exact ⟨h.1, bPs_app h.2 h2⟩
theorem wPs_app : ∀ us vs : List PyData, wPs (us ++ vs) = wPs us + wPs vs
  | [], vs => by simp [wPs]
  | u :: us, vs => by
    simp only [wPs, List.cons_append, wPs_app us vs]
    omega
theorem dP_app : ∀ us vs : List PyData, PyData.depthAll (us ++ vs) = max (PyData.depthAll us) (PyData.depthAll vs)
  | [], vs => by simp [PyData.depthAll]
  | u :: us, vs => by
    simp only [PyData.depthAll, List.cons_append, dP_app us vs]
    omega
theorem Sh.nil : Sh [] [] 0 0 := ⟨fun _ _ _ => rfl, rfl, Nat.le_refl _, Nat.le_refl _⟩
theorem Sh.app {xs ys : List D} {us vs : List PyData} {W1 W2 d1 d2 : Nat} (h : Sh xs us W1 d1) (g : Sh ys vs W2 d2) : Sh (xs ++ ys) (us ++ vs) (W1 + W2) (max d1 d2) :=
  ⟨fun n c hn => mapO_app2 (h.py n c (by omega)) (g.py n c (by omega)), bPs_app h.b g.b, by rw [wPs_app]; have := h.w; have := g.w; omega, by rw [dP_app]; have := h.d; have := g.d; omega⟩
theorem Sh.lift {xs : List D} {us : List PyData} {W1 W2 d1 d2 : Nat} (h : Sh xs us W1 d1) (hW : W1 ≤ W2) (hd : d1 ≤ d2) : Sh xs us W2 d2 :=
  ⟨fun n c hn => h.py n c (by omega), h.b, by have := h.w; omega, by have := h.d; omega⟩
theorem Sh.cons {x : D} {xs : List D} {u : PyData} {us : List PyData} {W1 W2 d1 d2 : Nat} (h : Sh [x] [u] W1 d1) (g : Sh xs us W2 d2) : Sh (x :: xs) (u :: us) (W1 + W2) (max d1 d2) := h.app g
theorem Sh.list {xs : List D} {us : List PyData} {W dp : Nat} (h : Sh xs us W dp) : Sh [.lst xs] [.list us] (W + 4) (dp + 1) :=
  ⟨fun n c hn => by
    obtain ⟨n, rfl⟩ : ∃ k, n = k + 1 := ⟨n - 1, by omega⟩
    have e : toPyC (n + 1) c (.lst xs) = some (.list us) := by
      show (mapO (toPyC n c) xs).map PyData.list = _
      rw [h.py n c (by omega)]
      rfl
    simp only [mapO, e], by
    show (bPs us && true) = true
    rw [h.b]; rfl, by
    show wPs us + 2 + 2 + 0 ≤ _
    have := h.w; omega, by
    have := h.d
    simp only [PyData.depthAll, PyData.depth]
    omega⟩
theorem Sh.tup {xs : List D} {us : List PyData} {W dp : Nat} (h : Sh xs us W dp) : Sh [.tup xs] [.tuple us] (W + 5) (dp + 1) :=
  ⟨fun n c hn => by
    obtain ⟨n, rfl⟩ : ∃ k, n = k + 1 := ⟨n - 1, by omega⟩
    have e : toPyC (n + 1) c (.tup xs) = some (.tuple us) := by
      show (mapO (toPyC n c) xs).map PyData.tuple = _
      rw [h.py n c (by omega)]
      rfl
    simp only [mapO, e], by
    show (bPs us && true) = true
    rw [h.b]; rfl, by
    show wPs us + 3 + 2 + 0 ≤ _
    have := h.w; omega, by
    have := h.d
    simp only [PyData.depthAll, PyData.depth]
    omega⟩
theorem Sh.int {i : Int} (h : i.natAbs < 10 ^ 40) : Sh [.int i] [.int i] 47 1 :=
  ⟨fun n c hn => by
    obtain ⟨n, rfl⟩ : ∃ k, n = k + 1 := ⟨n - 1, by omega⟩
    rfl, by
    show (decide (i.natAbs < 10 ^ 40) && true) = true
    rw [decide_eq_true h]; rfl, Nat.le_refl _, by simp [PyData.depthAll, PyData.depth]⟩
theorem Sh.nat {k : Nat} (h : k ≤ 1000) : Sh [.int (k : Nat)] [.int (k : Nat)] 47 1 := Sh.int (Nat.lt_of_le_of_lt (show (k : Int).natAbs ≤ 1000 by omega) (by decide +kernel))
theorem Sh.bl (b : Bool) : Sh [.bl b] [.bool b] 7 1 :=
  ⟨fun n c hn => by
    obtain ⟨n, rfl⟩ : ∃ k, n = k + 1 := ⟨n - 1, by omega⟩
    rfl, rfl, Nat.le_refl _, by simp [PyData.depthAll, PyData.depth]⟩
theorem Sh.str {s : Str} {L : Nat} (hl : s.length ≤ L) (hb : ∀ k ∈ s.cps.toList, k < 1114112) : Sh [.str s] [.str s] (10 * L + 4) 1 :=
  ⟨fun n c hn => by
    obtain ⟨n, rfl⟩ : ∃ k, n = k + 1 := ⟨n - 1, by omega⟩
    rfl, by
    show ((s.cps.toList.all fun k => decide (k < 1114112)) && true) = true
    rw [List.all_eq_true.mpr fun k hk => decide_eq_true (hb k hk)]; rfl, by
    show 10 * s.length + 2 + 2 + 0 ≤ _
    omega, by simp [PyData.depthAll, PyData.depth]⟩
theorem Sh.map {α : Type} {f : α → D} {g : α → PyData} {W dp : Nat} : ∀ {xs : List α}, (∀ x ∈ xs, Sh [f x] [g x] W dp) → Sh (xs.map f) (xs.map g) (W * xs.length) dp
  | [], _ => Sh.nil.lift (Nat.zero_le _) (Nat.zero_le _)
  | x :: xs, h => ((h x List.mem_cons_self).cons (Sh.map fun y hy => h y (List.mem_cons_of_mem _ hy))).lift (by rw [List.length_cons, Nat.mul_succ]; omega) (by omega)
theorem Sh.th (t : Th) (h : t.2 ≤ 1000) : Sh [thD t] [thP t] 100 2 := by
  have hk : (kdS t.1).length ≤ 4 ∧ ∀ k ∈ (kdS t.1).cps.toList, k < 1114112 := by
    cases t.1 <;> exact ⟨by decide +kernel, by decide +kernel⟩
  exact (((Sh.str hk.1 hk.2).cons (Sh.nat h)).tup).lift (by decide) (by decide)
theorem Sh.repr {xs : List D} {us : List PyData} {W dp : Nat} (h : Sh xs us W dp) (hW : W ≤ 16000000) (hd : dp ≤ 20) (c : Cs) : reprX [.lst xs] c = .ok (.str (PyData.list us).shown) c := by
  have h2 := h.list
  have e := h2.py 30 c (by omega)
  simp only [mapO] at e
  cases q : toPyC 30 c (.lst xs) with
  | none => rw [q] at e; cases e
  | some p =>
    rw [q] at e
    have hp : p = .list us := by
      have := Option.some.inj e
      exact (List.cons.inj this).1
    subst hp
    have hb := h2.b
    have hw := h2.w
    have hd2 := h2.d
    show reprQ (.lst xs) c = _
    unfold reprQ
    rw [q]
    refine if_pos (okR_w ?_ ?_ ?_)
    · simpa [bPs] using hb
    · simp only [wPs] at hw; omega
    · simp only [PyData.depthAll] at hd2; omega

/-! ### lists of whole numbers -/
def iL (is : List Int) : D := .lst (is.map D.int)
theorem shaped_of {p : PyData} (h : p.canLay0 = true) (hd : p.depth ≤ 64) : SeqAt.shaped p = true := by
  unfold SeqAt.shaped
  rw [h, decide_eq_true hd]
  rfl
theorem eqQ_py {neg : Bool} {x y : D} {c : Cs} {p q : PyData} (hx : toPyC 30 c x = some p) (hy : toPyC 30 c y = some q) (h1 : SeqAt.shaped p = true) (h2 : SeqAt.shaped q = true) : eqQ neg x y c = .ok (.bl (if neg = true then !(PyData.eqv p q) else PyData.eqv p q)) c := by
  unfold eqQ
  simp only [hx, hy]
  rw [if_pos ⟨h1, h2⟩]
/-! the parts of a draft -/
theorem map_erase {α β : Type} (f : α → β) : ∀ (xs : List α) (i : Nat), (xs.map f).eraseIdx i = (xs.eraseIdx i).map f
  | [], _ => rfl
  | x :: xs, 0 => rfl
  | x :: xs, i + 1 => by
    rw [List.map_cons, List.eraseIdx_cons_succ, List.eraseIdx_cons_succ, List.map_cons, map_erase f xs i]
inductive Rch (nx : Th → List Th) (a : Th) : Th → Prop where
  | refl : Rch nx a a
  | step {x y : Th} (h : Rch nx a x) (e : y ∈ nx x) : Rch nx a y
theorem Rch.trans {nx : Th → List Th} {a b : Th} (h : Rch nx a b) : ∀ {d : Th}, Rch nx b d → Rch nx a d := fun g => by
  induction g with
  | refl => exact h
  | step _ e ih => exact .step ih e
/-- of no more than that many -/
theorem sub_len : ∀ {s t : List Th}, s.Nodup → (∀ x ∈ s, x ∈ t) → s.length ≤ t.length
  | [], t, _, _ => Nat.zero_le _
  | x :: s, t, hn, hs => by
    rw [List.nodup_cons] at hn
    have hx := hs x List.mem_cons_self
    have h := sub_len (s := s) (t := t.erase x) hn.2 fun y hy => by
      refine (List.mem_erase_of_ne ?_).mpr (hs y (List.mem_cons_of_mem _ hy))
      intro e; subst e; exact hn.1 hy
    have := List.length_erase_of_mem hx
    have hp : 0 < t.length := List.length_pos_of_mem hx
    rw [List.length_cons]
    omega
/-- what the search holds -/
structure Srch (nx : Th → List Th) (T : List Th) (a : Th) (s : List Th) (k : Nat) : Prop where
  nd : s.Nodup
  sub : ∀ x ∈ s, x ∈ T
  st : a ∈ s
  rc : ∀ x ∈ s, Rch nx a x
  dn : ∀ i x, i < k → s[i]? = some x → ∀ y ∈ nx x, y ∈ s
  le : k ≤ s.length
theorem Srch.start {nx : Th → List Th} {T : List Th} {a : Th} (h : a ∈ T) : Srch nx T a [a] 0 :=
  ⟨by simp, fun x hx => by rw [List.mem_singleton.mp hx]; exact h, by simp, fun x hx => by rw [List.mem_singleton.mp hx]; exact .refl, fun i x hi => absurd hi (Nat.not_lt_zero _), Nat.zero_le _⟩
theorem Srch.next {nx : Th → List Th} {T : List Th} {a x : Th} {s : List Th} {k : Nat} (h : Srch nx T a s k) (hx : s[k]? = some x) (hn : (nx x).Nodup) (hT : ∀ y ∈ nx x, y ∈ T) :
    Srch nx T a (s ++ (nx x).filter fun y => !decide (y ∈ s)) (k + 1) := by
  have hk := (List.getElem?_eq_some_iff.mp hx).1
  have hxs : x ∈ s := List.mem_of_getElem? hx
  refine ⟨?_, fun y hy => ?_, List.mem_append_left _ h.st, fun y hy => ?_, fun i z hi hz y hy => ?_, by rw [List.length_append]; omega⟩
  · refine List.nodup_append.mpr ⟨h.nd, hn.filter _, fun y hy z hz e => ?_⟩
    subst e
    have := (List.mem_filter.mp hz).2
    simp at this
    exact this hy
  · rcases List.mem_append.mp hy with q | q
    · exact h.sub y q
    · exact hT y (List.mem_filter.mp q).1
  · rcases List.mem_append.mp hy with q | q
    · exact h.rc y q
    · exact .step (h.rc x hxs) (List.mem_filter.mp q).1
  · have hil : i < s.length := by omega
    rw [List.getElem?_append_left hil] at hz
    by_cases e : i = k
    · subst e
      rw [hx] at hz
      cases hz
      by_cases q : y ∈ s
      · exact List.mem_append_left _ q
      · exact List.mem_append_right _ (List.mem_filter.mpr ⟨hy, by simp [q]⟩)
    · exact List.mem_append_left _ (h.dn i z (by omega) hz y hy)
theorem Srch.all {nx : Th → List Th} {T : List Th} {a : Th} {s : List Th} {k : Nat} (h : Srch nx T a s k) (hk : s.length ≤ k) {y : Th} : y ∈ s ↔ Rch nx a y := by
  refine ⟨h.rc y, fun r => ?_⟩
  induction r with
  | refl => exact h.st
  | @step x y r e ih =>
    obtain ⟨i, hi⟩ := List.mem_iff_getElem?.mp ih
    exact h.dn i x (by have := (List.getElem?_eq_some_iff.mp hi).1; omega) hi y e
theorem Srch.len {nx : Th → List Th} {T : List Th} {a : Th} {s : List Th} {k : Nat} (h : Srch nx T a s k) : s.length ≤ T.length := sub_len h.nd h.sub
/-! ### what is reached in a cloth, turned about, with exchanged kinds -/
/-! ### ways of so many steps, and the search for the shortest ones -/
inductive Way (nx : Th → List Th) (a : Th) : Nat → Th → Prop where
  | nil : Way nx a 0 a
  | step {m : Nat} {x y : Th} (h : Way nx a m x) (e : y ∈ nx x) : Way nx a (m + 1) y
abbrev Ent := Th × Option Th × Nat
def newE (L : List Ent) (x : Th) (n : Nat) (ps : List Th) : List Ent := (ps.filter fun y => !decide (y ∈ L.map (·.1))).map fun y => (y, some x, n + 1)
theorem newE_mem {L : List Ent} {x : Th} {n : Nat} {ps : List Th} {e : Ent} : e ∈ newE L x n ps ↔ e.1 ∈ ps ∧ e.1 ∉ L.map (·.1) ∧ e.2.1 = some x ∧ e.2.2 = n + 1 := by
  obtain ⟨y, p, m⟩ := e
  unfold newE
  rw [List.mem_map]
  constructor
  · rintro ⟨z, hz, e⟩
    cases e
    obtain ⟨h1, h2⟩ := List.mem_filter.mp hz
    exact ⟨h1, fun q => (by rw [decide_eq_true q] at h2; cases h2), rfl, rfl⟩
  · rintro ⟨h1, h2, h3, h4⟩
    cases h3; cases h4
    exact ⟨y, List.mem_filter.mpr ⟨h1, by rw [decide_eq_false h2]; rfl⟩, rfl⟩
/-- the entries of the search: each thread, the one ahead of it, the number of steps -/
structure Bfs (nx : Th → List Th) (T : List Th) (a : Th) (L : List Ent) (k : Nat) : Prop where
  nd : (L.map (·.1)).Nodup
  sub : ∀ e ∈ L, e.1 ∈ T
  hd : L[0]? = some (a, none, 0)
  par : ∀ e ∈ L, (e.1 = a ∧ e.2.1 = none ∧ e.2.2 = 0) ∨ ∃ u p n, e.2.1 = some u ∧ (u, p, n) ∈ L ∧ e.2.2 = n + 1 ∧ e.1 ∈ nx u
  mono : L.Pairwise fun e f => e.2.2 ≤ f.2.2
  top : ∀ e ∈ L, ∀ x, L[k]? = some x → e.2.2 ≤ x.2.2 + 1
  idx : ∀ (i : Nat) e, L[i]? = some e → e.2.2 ≤ i
  dn : ∀ (i : Nat) e, i < k → L[i]? = some e → ∀ y ∈ nx e.1, ∃ p n, (y, p, n) ∈ L ∧ n ≤ e.2.2 + 1
  le : k ≤ L.length
  wy : ∀ e ∈ L, Way nx a e.2.2 e.1
theorem Bfs.start {nx : Th → List Th} {T : List Th} {a : Th} (h : a ∈ T) : Bfs nx T a [(a, none, 0)] 0 := by
  have one : ∀ e ∈ ([(a, none, 0)] : List Ent), e = (a, none, 0) := fun e he => List.mem_singleton.mp he
  refine ⟨by simp, fun e he => by rw [one e he]; exact h, rfl, fun e he => .inl (by rw [one e he]; exact ⟨rfl, rfl, rfl⟩), by simp, fun e he x _ => by rw [one e he]; exact Nat.zero_le _, fun i e he => ?_, fun i e hi => absurd hi (Nat.not_lt_zero _), Nat.zero_le _, fun e he => by rw [one e he]; exact .nil⟩
  rw [one e (List.mem_of_getElem? he)]
  exact Nat.zero_le _
theorem Bfs.next {nx : Th → List Th} {T : List Th} {a x : Th} {p : Option Th} {n : Nat} {L : List Ent} {k : Nat} (h : Bfs nx T a L k) (hx : L[k]? = some (x, p, n)) (hn : (nx x).Nodup) (hT : ∀ y ∈ nx x, y ∈ T) :
    Bfs nx T a (L ++ newE L x n (nx x)) (k + 1) := by
  have hk := (List.getElem?_eq_some_iff.mp hx).1
  have hxm : (x, p, n) ∈ L := List.mem_of_getElem? hx
  have hnk : n ≤ k := h.idx k _ hx
  have htop : ∀ e ∈ L ++ newE L x n (nx x), e.2.2 ≤ n + 1 := fun e he => by
    rcases List.mem_append.mp he with q | q
    · exact h.top e q _ hx
    · exact Nat.le_of_eq (newE_mem.mp q).2.2.2
  have hmono : (L ++ newE L x n (nx x)).Pairwise fun e f => e.2.2 ≤ f.2.2 := by
    refine List.pairwise_append.mpr ⟨h.mono, ?_, fun e he f hf => ?_⟩
    · refine List.pairwise_iff_getElem.mpr fun i j hi hj _ => ?_
      have h1 := (newE_mem.mp (List.getElem_mem hi)).2.2.2
      have h2 := (newE_mem.mp (List.getElem_mem hj)).2.2.2
      omega
    · have h1 := h.top e he _ hx
      have h2 := (newE_mem.mp hf).2.2.2
      simp only at h1
      omega
  refine ⟨?_, fun e he => ?_, ?_, fun e he => ?_, hmono, fun e he z hz => ?_, fun i e he => ?_, fun i e hi he y hy => ?_, by rw [List.length_append]; omega, fun e he => ?_⟩
  · rw [List.map_append]
    refine List.nodup_append.mpr ⟨h.nd, ?_, fun y hy z hz q => ?_⟩
    · unfold newE
      rw [List.map_map]
      have : ((fun e : Ent => e.1) ∘ fun y => ((y, some x, n + 1) : Ent)) = id := rfl
      rw [this, List.map_id]
      exact hn.filter _
    · subst q
      obtain ⟨e, he, rfl⟩ := List.mem_map.mp hz
      exact (newE_mem.mp he).2.1 hy
  · rcases List.mem_append.mp he with q | q
    · exact h.sub e q
    · exact hT _ (newE_mem.mp q).1
  · rw [List.getElem?_append_left (by omega)]
    exact h.hd
  · rcases List.mem_append.mp he with q | q
    · rcases h.par e q with r | ⟨u, p2, m, h1, h2, h3, h4⟩
      · exact .inl r
      · exact .inr ⟨u, p2, m, h1, List.mem_append_left _ h2, h3, h4⟩
    · obtain ⟨h1, _, h3, h4⟩ := newE_mem.mp q
      exact .inr ⟨x, p, n, h3, List.mem_append_left _ hxm, h4, h1⟩
  · have h1 := htop e he
    obtain ⟨hl, hz⟩ := List.getElem?_eq_some_iff.mp hz
    have hkl : k < (L ++ newE L x n (nx x)).length := by omega
    have h2 := List.pairwise_iff_getElem.mp hmono k (k + 1) hkl hl (Nat.lt_succ_self k)
    rw [List.getElem_append_left hk, (List.getElem?_eq_some_iff.mp hx).2, hz] at h2
    simp only at h2
    omega
  · by_cases hi : i < L.length
    · rw [List.getElem?_append_left hi] at he
      exact h.idx i e he
    · have := htop e (List.mem_of_getElem? he)
      omega
  · have hil : i < L.length := by omega
    rw [List.getElem?_append_left hil] at he
    by_cases q : i = k
    · subst q
      rw [hx] at he
      cases he
      by_cases r : y ∈ L.map (·.1)
      · obtain ⟨f, hf, rfl⟩ := List.mem_map.mp r
        exact ⟨f.2.1, f.2.2, List.mem_append_left _ hf, h.top f hf _ hx⟩
      · exact ⟨some x, n + 1, List.mem_append_right _ (newE_mem.mpr ⟨hy, r, rfl, rfl⟩), Nat.le_refl _⟩
    · obtain ⟨p2, m, h1, h2⟩ := h.dn i e (by omega) he y hy
      exact ⟨p2, m, List.mem_append_left _ h1, h2⟩
  · rcases List.mem_append.mp he with q | q
    · exact h.wy e q
    · obtain ⟨h1, _, _, h4⟩ := newE_mem.mp q
      rw [h4]
      exact .step (h.wy _ hxm) h1
theorem Bfs.len {nx : Th → List Th} {T : List Th} {a : Th} {L : List Ent} {k : Nat} (h : Bfs nx T a L k) : L.length ≤ T.length := by
  have := sub_len h.nd fun x hx => by
    obtain ⟨e, he, rfl⟩ := List.mem_map.mp hx
    exact h.sub e he
  simpa using this
theorem Bfs.uniq {nx : Th → List Th} {T : List Th} {a : Th} {L : List Ent} {k : Nat} (h : Bfs nx T a L k) {e f : Ent} (he : e ∈ L) (hf : f ∈ L) (q : e.1 = f.1) : e = f := by
  obtain ⟨i, hi⟩ := List.mem_iff_getElem?.mp he
  obtain ⟨j, hj⟩ := List.mem_iff_getElem?.mp hf
  have hi' := (List.getElem?_eq_some_iff.mp hi).1
  have hij : i = j := (List.getElem?_inj (l := L.map (·.1)) (by simpa using hi') h.nd).mp (by rw [List.getElem?_map, List.getElem?_map, hi, hj]; simp [q])
  subst hij
  rw [hi] at hj
  exact Option.some.inj hj
theorem Bfs.low {nx : Th → List Th} {T : List Th} {a : Th} {L : List Ent} {k : Nat} (h : Bfs nx T a L k) (hk : L.length ≤ k) {m : Nat} {y : Th} (r : Way nx a m y) : ∃ p n, (y, p, n) ∈ L ∧ n ≤ m := by
  induction r with
  | nil => exact ⟨none, 0, List.mem_of_getElem? h.hd, Nat.le_refl _⟩
  | @step m x y r e ih =>
    obtain ⟨p, n, h1, h2⟩ := ih
    obtain ⟨i, hi⟩ := List.mem_iff_getElem?.mp h1
    have hi' := (List.getElem?_eq_some_iff.mp hi).1
    obtain ⟨p2, n2, h3, h4⟩ := h.dn i _ (by omega) hi y e
    exact ⟨p2, n2, h3, by simp only at h4; omega⟩
theorem Bfs.lt {nx : Th → List Th} {T : List Th} {a : Th} {L : List Ent} {k : Nat} (h : Bfs nx T a L k) {e : Ent} (he : e ∈ L) : e.2.2 < T.length := by
  obtain ⟨i, hi⟩ := List.mem_iff_getElem?.mp he
  have h1 := h.idx i e hi
  have h2 := (List.getElem?_eq_some_iff.mp hi).1
  have h3 := h.len
  omega
/-! ### the same, as a function -/
def parO (L : List Ent) (u : Th) : Option Th := (L.find? fun e => decide (e.1 = u)).bind (·.2.1)
theorem Bfs.par_of {nx : Th → List Th} {T : List Th} {a : Th} {L : List Ent} {k : Nat} (h : Bfs nx T a L k) {e : Ent} (he : e ∈ L) : parO L e.1 = e.2.1 := by
  unfold parO
  cases q : L.find? fun f => decide (f.1 = e.1) with
  | none =>
    have := List.find?_eq_none.mp q e he
    simp at this
  | some f =>
    have h1 := List.mem_of_find?_eq_some q
    have h2 : f.1 = e.1 := by simpa using List.find?_some q
    rw [h.uniq h1 he h2]
    rfl
/-- each one lies behind the one ahead of it -/
def Lnk (nx : Th → List Th) : List Th → Prop
  | x :: y :: r => y ∈ nx x ∧ Lnk nx (y :: r)
  | _ => True
theorem Lnk.at {nx : Th → List Th} : ∀ {P : List Th} {i : Nat} {x y : Th}, Lnk nx P → P[i]? = some x → P[i + 1]? = some y → y ∈ nx x
  | [], i, x, y, _, h, _ => by simp at h
  | [z], i, x, y, _, _, h => by simp at h
  | z :: u :: r, 0, x, y, h, h1, h2 => by
    cases h1; cases h2; exact h.1
  | z :: u :: r, i + 1, x, y, h, h1, h2 => Lnk.at (P := u :: r) (i := i) h.2 h1 h2
/-! ### lengths by relaxation -/
structure RI (nx : Th → List Th) (a : Th) (F : Th → Nat) : Prop where
  st : F a ≤ 1
  lo : ∀ t, 1 ≤ F t
  hi : ∀ t, F t ≤ 99
  wy : ∀ t, F t = 99 ∨ ∃ m, Way nx a m t ∧ F t = m + 1
def PL (nx : Th → List Th) (a : Th) (l : Nat) (F : Th → Nat) (T : List Th) : Prop := ∀ m, m ≤ l → ∀ t ∈ T, Way nx a m t → F t ≤ m + 1
def put1 (F : Th → Nat) (x : Th) (v : Nat) : Th → Nat := fun t => if t = x then v else F t
theorem put1_le {F : Th → Nat} {x : Th} {v : Nat} (h : v ≤ F x) (t : Th) : put1 F x v t ≤ F t := by
  unfold put1
  split
  · next q => rw [q]; exact h
  · exact Nat.le_refl _
theorem PL.put {nx : Th → List Th} {a x : Th} {l v : Nat} {F : Th → Nat} {T : List Th} (h : PL nx a l F T) (hv : v ≤ F x) : PL nx a l (put1 F x v) T := fun m hm t ht w => Nat.le_trans (put1_le hv t) (h m hm t ht w)
theorem RI.put {nx : Th → List Th} {a x : Th} {v : Nat} {F : Th → Nat} (h : RI nx a F) (hv : v ≤ F x) (he : v = F x ∨ ∃ u, x ∈ nx u ∧ v = F u + 1) : RI nx a (put1 F x v) := by
  have h1 : 1 ≤ v := by
    rcases he with e | ⟨u, _, e⟩
    · rw [e]; exact h.lo x
    · omega
  refine ⟨Nat.le_trans (put1_le hv a) h.st, fun t => ?_, fun t => Nat.le_trans (put1_le hv t) (h.hi t), fun t => ?_⟩
  · unfold put1
    split
    · exact h1
    · exact h.lo t
  · unfold put1
    split
    · next q =>
      subst q
      rcases he with e | ⟨u, hu, e⟩
      · rw [e]; exact h.wy t
      · rcases h.wy u with e2 | ⟨m, w, e2⟩
        · have := h.hi t; omega
        · exact .inr ⟨m + 1, .step w hu, by omega⟩
    · exact h.wy t
/-! ### the path -/
structure Pok (nx : Th → List Th) (T : List Th) (a t : Th) (m : Nat) (P : List Th) : Prop where
  len : P.length = m + 1
  hd : P[0]? = some a
  ls : P[m]? = some t
  lk : Lnk nx P
  sub : ∀ x ∈ P, x ∈ T
/-- a path that is being followed back -/
structure Bk (nx : Th → List Th) (T : List Th) (a t : Th) (L : List Ent) (m : Nat) (u : Th) (n : Nat) (P : List Th) : Prop where
  mem : ∃ p, (u, p, n) ∈ L
  len : n + P.length = m + 1
  hd : P[0]? = some u
  ls : P.getLast? = some t
  lk : Lnk nx P
  sub : ∀ x ∈ P, x ∈ T
theorem Bk.start {nx : Th → List Th} {T : List Th} {a t : Th} {L : List Ent} {k m : Nat} (h : Bfs nx T a L k) (ht : ∃ p, (t, p, m) ∈ L) : Bk nx T a t L m t m [t] :=
  ⟨ht, rfl, rfl, rfl, trivial, fun x hx => by rw [List.mem_singleton.mp hx]; obtain ⟨p, hp⟩ := ht; exact h.sub _ hp⟩
theorem Bk.zero {nx : Th → List Th} {T : List Th} {a t u : Th} {L : List Ent} {k m n : Nat} {P : List Th} (h : Bfs nx T a L k) (b : Bk nx T a t L m u n P) (hu : u = a) : parO L u = none ∧ Pok nx T a t m P := by
  obtain ⟨p, hp⟩ := b.mem
  have e := h.uniq hp (List.mem_of_getElem? h.hd) hu
  cases e
  have e2 := h.par_of hp
  have hl := b.len
  refine ⟨e2, by omega, b.hd, ?_, b.lk, b.sub⟩
  have := b.ls
  rw [List.getLast?_eq_getElem?] at this
  rw [← this]
  congr 1
  omega
theorem Bk.next {nx : Th → List Th} {T : List Th} {a t u : Th} {L : List Ent} {k m n : Nat} {P : List Th} (h : Bfs nx T a L k) (b : Bk nx T a t L m u n P) (hu : u ≠ a) : ∃ v p n', (u, some v, n) ∈ L ∧ parO L u = some v ∧ n = n' + 1 ∧ (v, p, n') ∈ L ∧ Bk nx T a t L m v n' (v :: P) := by
  obtain ⟨p, hp⟩ := b.mem
  rcases h.par _ hp with ⟨h1, _⟩ | ⟨v, p2, n', h1, h2, h3, h4⟩
  · exact absurd h1 hu
  · have h1 : p = some v := h1
    subst h1
    have h3 : n = n' + 1 := h3
    have hl := b.len
    refine ⟨v, p2, n', hp, h.par_of hp, h3, h2, ⟨p2, h2⟩, by rw [List.length_cons]; omega, rfl, ?_, ?_, fun x hx => ?_⟩
    · rw [List.getLast?_cons, b.ls]; rfl
    · have hh := b.hd
      cases P with
      | nil => simp at hh
      | cons z r =>
        have : z = u := by simpa using hh
        subst this
        exact ⟨h4, b.lk⟩
    · rcases List.mem_cons.mp hx with rfl | hx
      · exact h.sub _ h2
      · exact b.sub x hx
/-! ### both agree -/
/-! ### paths_from -/
/-! ### is_connected -/

/-! ### paths_from -/
/-! ### path_between, shortest_path -/
/-! ### shortest_path -/
/-! ### lengths, kept by thread -/
end

def lstT (ys : List Str) (w : Nat) : Bool → List Int := fun b => if b = true then ys.map (fun y => Txt.count y "0") else (List.range w).map fun i => (colN ys i : Int)
theorem lst_ST {ys : List Str} {w : Nat} (hr : RwS ys w) : ST (lstT ys w) 0 := (lists_SL hr).st
/-! ### the scores, counted; sums over all crossings -/
def oc (ys : List Str) (k : Bool) (i j : Nat) : Bool := ovr ys (k, i) (!k, j)
/-! ### the lowest threads as sets -/
def ix (l : List Int) (n : Nat) : List Nat := ((ordI l).take n).map Prod.snd
theorem ord_perm (l : List Int) : (ordI l).Perm (prI l) := List.mergeSort_perm _ _
theorem ix_nodup (l : List Int) (n : Nat) : (ix l n).Nodup := by
  have h1 : ((ordI l).map Prod.snd).Perm (List.range l.length) := by
    have := (ord_perm l).map Prod.snd
    rw [prI_snd] at this
    exact this
  have h2 : ((ordI l).map Prod.snd).Nodup := h1.nodup_iff.mpr List.nodup_range
  unfold ix
  rw [List.map_take]
  exact (List.take_sublist _ _).nodup h2
theorem lowL_ix (T : Bool → List Int) (b : Bool) (n : Nat) : lowL T b n = (ix (T b) n).map fun i => (b, i) := by
  unfold lowL ix
  rw [List.map_map]
  rfl
section
variable {ys : List Str} {w : Nat}
end
/-! ### those below a limit are the lowest ones -/
/-! ### what tells threads apart -/
section
variable {ys : List Str} {w : Nat}
end

theorem pfx_set {c c' : Cs} {j : Nat} (p : Pfx c c') (hj : c.length ≤ j) (x : Cell) : Pfx c (c'.set j x) :=
  pfx_of (by rw [List.length_set]; exact p.len) fun k hk => by rw [List.getElem?_set_ne (by omega)]; exact p.at hk
/-! ### layers: the loop -/
def addL (T : Bool → List Int) (lo up : Nat × Nat) : List Th := (lowT T up.1 up.2).filter fun x => !decide (x ∈ lowT T lo.1 lo.2)
def kdL : List Th → Str
  | [z] => kdS z.1
  | _ => ""
def stpL (T : Bool → List Int) (st : List (List Th) × Str) (p : (Nat × Nat) × (Nat × Nat)) : List (List Th) × Str :=
  if kdL (addL T p.1 p.2) ≠ "" ∧ kdL (addL T p.1 p.2) = st.2 then (st.1.dropLast ++ [(st.1.getLast?.getD []) ++ addL T p.1 p.2], kdL (addL T p.1 p.2)) else (st.1 ++ [addL T p.1 p.2], kdL (addL T p.1 p.2))
theorem ne_strs (a b : Str) (c : Cs) : neX (.str a) (.str b) c = .ok (.bl (!decide (a = b))) c := rfl
/-- the lists that are kept in the found list -/
structure Fnd (f B : Nat) (G : List (Nat × List Th)) (c : Cs) : Prop where
  at_ : c[f]? = some (.lst (G.map fun p => D.ref p.1))
  el : ∀ p ∈ G, c[p.1]? = some (.lst (p.2.map thD)) ∧ f < p.1
  nd : (G.map Prod.fst).Nodup
  bf : B ≤ f
theorem Fnd.pfx {f B : Nat} {G : List (Nat × List Th)} {c c' : Cs} (h : Fnd f B G c) (p : Pfx c c') : Fnd f B G c' :=
  ⟨p.get h.at_, fun q hq => ⟨p.get (h.el q hq).1, (h.el q hq).2⟩, h.nd, h.bf⟩
theorem Fnd.push {f B k : Nat} {G : List (Nat × List Th)} {A : List Th} {c : Cs} (h : Fnd f B G c) (hk : c[k]? = some (.lst (A.map thD))) (hn : k ∉ G.map Prod.fst) (hf : f < k) : Fnd f B (G ++ [(k, A)]) (c.set f (.lst ((G.map fun p => D.ref p.1) ++ [.ref k]))) := by
  refine ⟨by rw [List.getElem?_set_self (List.getElem?_eq_some_iff.mp h.at_).1, List.map_append]; rfl, fun p hp => ?_, ?_, h.bf⟩
  · rcases List.mem_append.mp hp with hp | hp
    · obtain ⟨h1, h2⟩ := h.el p hp
      exact ⟨by rw [List.getElem?_set_ne (by omega)]; exact h1, h2⟩
    · rw [List.mem_singleton.mp hp]
      exact ⟨by rw [List.getElem?_set_ne (Nat.ne_of_lt hf)]; exact hk, hf⟩
  · rw [List.map_append]
    refine List.nodup_append.mpr ⟨h.nd, by simp, fun a ha b hb e => ?_⟩
    simp only [List.map_cons, List.map_nil, List.mem_singleton] at hb
    subst e
    rw [hb] at ha
    exact hn ha
theorem Fnd.grow {f B k : Nat} {G : List (Nat × List Th)} {l A : List Th} {c : Cs} (h : Fnd f B (G ++ [(k, l)]) c) : Fnd f B (G ++ [(k, l ++ A)]) (c.set k (.lst (l.map thD ++ A.map thD))) := by
  have hk := h.el (k, l) (List.mem_append_right _ (List.mem_singleton.mpr rfl))
  have hnd := h.nd
  rw [List.map_append] at hnd
  obtain ⟨n1, _, n3⟩ := List.nodup_append.mp hnd
  refine ⟨?_, fun p hp => ?_, by rw [List.map_append]; exact hnd, h.bf⟩
  · rw [List.getElem?_set_ne (by have := hk.2; simp only at this; omega)]
    rw [h.at_, List.map_append, List.map_append]
    rfl
  · rcases List.mem_append.mp hp with hp | hp
    · obtain ⟨h1, h2⟩ := h.el p (List.mem_append_left _ hp)
      refine ⟨?_, h2⟩
      rw [List.getElem?_set_ne fun e => n3 p.1 (List.mem_map.mpr ⟨p, hp, rfl⟩) k (by simp) e.symm]
      exact h1
    · rw [List.mem_singleton.mp hp]
      refine ⟨?_, hk.2⟩
      show (c.set k _)[k]? = _
      rw [List.getElem?_set_self (List.getElem?_eq_some_iff.mp hk.1).1, List.map_append]
/-! ### the tight pairs are a chain -/
theorem low_nodup (T : Bool → List Int) (s t : Nat) : (lowT T s t).Nodup := by
  unfold lowT
  rw [lowL_ix, lowL_ix]
  have inj : ∀ b : Bool, ∀ i j : Nat, (b, i) = (b, j) → i = j := fun b i j e => by injection e
  refine List.nodup_append.mpr ⟨(ix_nodup _ _).map _ fun a b hab e => hab (inj false a b e), (ix_nodup _ _).map _ fun a b hab e => hab (inj true a b e), fun a ha b hb e => ?_⟩
  obtain ⟨i, _, rfl⟩ := List.mem_map.mp ha
  obtain ⟨j, _, rfl⟩ := List.mem_map.mp hb
  cases e
/-! ### which layer comes first -/
def posL (F : List (List Th)) (x : Th) : Nat := F.findIdx fun l => decide (x ∈ l)
theorem pos_lt {F : List (List Th)} {x : Th} : posL F x < F.length ↔ ∃ l ∈ F, x ∈ l := by
  unfold posL
  rw [List.findIdx_lt_length]
  simp
theorem pos_app (F : List (List Th)) (l : List Th) (x : Th) : posL (F ++ [l]) x = if posL F x < F.length then posL F x else if x ∈ l then F.length else F.length + 1 := by
  unfold posL
  rw [List.findIdx_append]
  split
  · rfl
  · rw [List.findIdx_cons]
    by_cases h : x ∈ l
    · simp [h]
    · simp [h]
      omega
structure LInv (T : Bool → List Int) (st : List (List Th) × Str) (dn : List (Nat × Nat)) (cur : Nat × Nat) : Prop where
  mem : ∀ x, (∃ l ∈ st.1, x ∈ l) ↔ x ∈ lowT T cur.1 cur.2
  nd : st.1.flatten.Nodup
  ord : ∀ x y, x ∈ lowT T cur.1 cur.2 → y ∈ lowT T cur.1 cur.2 → x.1 ≠ y.1 → (posL st.1 x < posL st.1 y ↔ ∃ d ∈ dn, x ∈ lowT T d.1 d.2 ∧ y ∉ lowT T d.1 d.2)
  last : st.2 ≠ "" → ∃ G l, st.1 = G ++ [l] ∧ ∀ z ∈ l, kdS z.1 = st.2
  sub : ∀ d ∈ dn, ∀ x, x ∈ lowT T d.1 d.2 → x ∈ lowT T cur.1 cur.2
  cur : cur ∈ dn
theorem kdS_inj {a b : Bool} (h : kdS a = kdS b) : a = b := by
  cases a <;> cases b <;> first | rfl | exact absurd h (by decide +kernel)
theorem add_mem {T : Bool → List Int} {lo up : Nat × Nat} {x : Th} : x ∈ addL T lo up ↔ x ∈ lowT T up.1 up.2 ∧ x ∉ lowT T lo.1 lo.2 := by
  unfold addL
  rw [List.mem_filter]
  simp
theorem LInv.step {T : Bool → List Int} {st : List (List Th) × Str} {dn : List (Nat × Nat)} {cur up : Nat × Nat} (h : LInv T st dn cur) (hs : ∀ x, x ∈ lowT T cur.1 cur.2 → x ∈ lowT T up.1 up.2) : LInv T (stpL T st (cur, up)) (dn ++ [up]) up := by
  have hsub : ∀ d ∈ dn ++ [up], ∀ x, x ∈ lowT T d.1 d.2 → x ∈ lowT T up.1 up.2 := fun d hd x hx => by
    rcases List.mem_append.mp hd with hd | hd
    · exact hs x (h.sub d hd x hx)
    · rw [List.mem_singleton.mp hd] at hx
      exact hx
  have hand : (addL T cur up).Nodup := (low_nodup T _ _).filter _
  have hdis : ∀ x, x ∈ addL T cur up → ¬ ∃ l ∈ st.1, x ∈ l := fun x hx hl => (add_mem.mp hx).2 ((h.mem x).mp hl)
  have rhs : ∀ x y, x ∈ lowT T up.1 up.2 → y ∈ lowT T up.1 up.2 → ((∃ d ∈ dn ++ [up], x ∈ lowT T d.1 d.2 ∧ y ∉ lowT T d.1 d.2) ↔ ∃ d ∈ dn, x ∈ lowT T d.1 d.2 ∧ y ∉ lowT T d.1 d.2) := fun x y hx hy => by
    constructor
    · rintro ⟨d, hd, h1, h2⟩
      rcases List.mem_append.mp hd with hd | hd
      · exact ⟨d, hd, h1, h2⟩
      · rw [List.mem_singleton.mp hd] at h2
        exact absurd hy h2
    · rintro ⟨d, hd, h1, h2⟩
      exact ⟨d, List.mem_append_left _ hd, h1, h2⟩
  have rT : ∀ x y, x ∈ lowT T cur.1 cur.2 → y ∉ lowT T cur.1 cur.2 → ∃ d ∈ dn, x ∈ lowT T d.1 d.2 ∧ y ∉ lowT T d.1 d.2 := fun x y hx hy => ⟨cur, h.cur, hx, hy⟩
  have rF : ∀ x y, x ∉ lowT T cur.1 cur.2 → ¬ ∃ d ∈ dn, x ∈ lowT T d.1 d.2 ∧ y ∉ lowT T d.1 d.2 := fun x y hx ⟨d, hd, h1, _⟩ => hx (h.sub d hd x h1)
  have pin : ∀ x, x ∈ lowT T cur.1 cur.2 → posL st.1 x < st.1.length := fun x hx => pos_lt.mpr ((h.mem x).mpr hx)
  have pout : ∀ x, x ∉ lowT T cur.1 cur.2 → ¬ posL st.1 x < st.1.length := fun x hx hl => hx ((h.mem x).mp (pos_lt.mp hl))
  unfold stpL
  split
  · rename_i hk
    obtain ⟨k1, k2⟩ := hk
    obtain ⟨G, l, e, hl⟩ := h.last (by rw [← k2]; exact k1)
    obtain ⟨z, hz⟩ : ∃ z, addL T cur up = [z] := by
      unfold kdL at k1
      split at k1
      · rename_i z e
        exact ⟨z, e⟩
      · exact absurd rfl k1
    have kz : kdL (addL T cur up) = kdS z.1 := by rw [hz]; rfl
    have hzup := add_mem.mp (show z ∈ addL T cur up by rw [hz]; simp)
    have enw : st.1.dropLast ++ [(st.1.getLast?.getD []) ++ addL T cur up] = G ++ [l ++ [z]] := by rw [e, hz]; simp
    have lk : ∀ y ∈ l, y.1 = z.1 := fun y hy => kdS_inj ((hl y hy).trans (k2.symm.trans kz))
    have notG : ∀ x, x ∉ lowT T cur.1 cur.2 → ¬ posL G x < G.length := fun x hx hp => hx ((h.mem x).mp (by
      obtain ⟨m, hm, hxm⟩ := pos_lt.mp hp
      exact ⟨m, by rw [e]; exact List.mem_append_left _ hm, hxm⟩))
    have inG : ∀ x, x ∈ lowT T cur.1 cur.2 → x.1 ≠ z.1 → posL G x < G.length := fun x hx hne => pos_lt.mpr (by
      obtain ⟨m, hm, hxm⟩ := (h.mem x).mpr hx
      rw [e] at hm
      rcases List.mem_append.mp hm with hm | hm
      · exact ⟨m, hm, hxm⟩
      · rw [List.mem_singleton.mp hm] at hxm
        exact absurd (lk x hxm) hne)
    have psame : ∀ x, x ∈ lowT T cur.1 cur.2 → posL (G ++ [l ++ [z]]) x = posL st.1 x := fun x hx => by
      have hp := pin x hx
      rw [e] at hp ⊢
      rw [pos_app] at hp ⊢
      rw [pos_app]
      by_cases q : posL G x < G.length
      · rw [if_pos q, if_pos q]
      · rw [if_neg q] at hp ⊢
        rw [if_neg q]
        by_cases q2 : x ∈ l
        · rw [if_pos (List.mem_append_left _ q2), if_pos q2]
        · rw [if_neg q2, List.length_append] at hp
          simp at hp
    have pz : posL (G ++ [l ++ [z]]) z = G.length := by
      rw [pos_app, if_neg (notG z hzup.2), if_pos (by simp)]
    have pG : ∀ x, x ∈ lowT T cur.1 cur.2 → x.1 ≠ z.1 → posL (G ++ [l ++ [z]]) x < G.length := fun x hx hne => by
      rw [pos_app, if_pos (inG x hx hne)]
      exact inG x hx hne
    have up_or : ∀ x, x ∈ lowT T up.1 up.2 → x ∈ lowT T cur.1 cur.2 ∨ x = z := fun x hx => by
      by_cases q : x ∈ lowT T cur.1 cur.2
      · exact .inl q
      · have := add_mem.mpr ⟨hx, q⟩
        rw [hz] at this
        exact .inr (List.mem_singleton.mp this)
    rw [enw]
    refine ⟨fun x => ?_, ?_, fun x y hx hy hne => ?_, fun _ => ⟨G, l ++ [z], rfl, fun y hy => ?_⟩, hsub, List.mem_append_right _ (List.mem_singleton.mpr rfl)⟩
    · have hm := h.mem x
      rw [e] at hm
      constructor
      · rintro ⟨m, hm2, hx⟩
        rcases List.mem_append.mp hm2 with hm2 | hm2
        · exact hs x (hm.mp ⟨m, List.mem_append_left _ hm2, hx⟩)
        · rw [List.mem_singleton.mp hm2] at hx
          rcases List.mem_append.mp hx with hx | hx
          · exact hs x (hm.mp ⟨l, by simp, hx⟩)
          · rw [List.mem_singleton.mp hx]
            exact hzup.1
      · intro hx
        rcases up_or x hx with q | rfl
        · obtain ⟨m, hm2, hxm⟩ := hm.mpr q
          rcases List.mem_append.mp hm2 with hm2 | hm2
          · exact ⟨m, List.mem_append_left _ hm2, hxm⟩
          · rw [List.mem_singleton.mp hm2] at hxm
            exact ⟨l ++ [z], by simp, List.mem_append_left _ hxm⟩
        · exact ⟨l ++ [x], by simp, by simp⟩
    · have := h.nd
      rw [e] at this
      simp only [List.flatten_append, List.flatten_cons, List.flatten_nil, List.append_nil] at this ⊢
      rw [← List.append_assoc]
      refine List.nodup_append.mpr ⟨this, by simp, fun a ha b hb eab => ?_⟩
      rw [List.mem_singleton.mp hb] at eab
      subst eab
      refine hdis a (by rw [hz]; simp) ?_
      rw [e]
      rcases List.mem_append.mp ha with ha | ha
      · obtain ⟨m, hm, hx⟩ := List.mem_flatten.mp ha
        exact ⟨m, List.mem_append_left _ hm, hx⟩
      · exact ⟨l, by simp, ha⟩
    · rw [rhs x y hx hy]
      show posL (G ++ [l ++ [z]]) x < posL (G ++ [l ++ [z]]) y ↔ _
      rcases up_or x hx with q1 | rfl
      · rcases up_or y hy with q2 | rfl
        · rw [psame x q1, psame y q2]
          exact h.ord x y q1 q2 hne
        · rw [pz]
          exact ⟨fun _ => rT x y q1 hzup.2, fun _ => pG x q1 hne⟩
      · rcases up_or y hy with q2 | rfl
        · rw [pz]
          have := pG y q2 (fun e => hne e.symm)
          exact ⟨fun hh => by omega, fun hh => absurd hh (rF x y hzup.2)⟩
        · exact absurd rfl hne
    · rcases List.mem_append.mp hy with hy | hy
      · rw [kz, lk y hy]
      · rw [List.mem_singleton.mp hy, kz]
  · refine ⟨fun x => ?_, ?_, fun x y hx hy hne => ?_, fun hk => ⟨st.1, addL T cur up, rfl, fun y hy => ?_⟩, hsub, List.mem_append_right _ (List.mem_singleton.mpr rfl)⟩
    · constructor
      · rintro ⟨m, hm, hx⟩
        rcases List.mem_append.mp hm with hm | hm
        · exact hs x ((h.mem x).mp ⟨m, hm, hx⟩)
        · rw [List.mem_singleton.mp hm] at hx
          exact (add_mem.mp hx).1
      · intro hx
        by_cases q : x ∈ lowT T cur.1 cur.2
        · obtain ⟨m, hm, hxm⟩ := (h.mem x).mpr q
          exact ⟨m, List.mem_append_left _ hm, hxm⟩
        · exact ⟨addL T cur up, by simp, add_mem.mpr ⟨hx, q⟩⟩
    · simp only [List.flatten_append, List.flatten_cons, List.flatten_nil, List.append_nil]
      refine List.nodup_append.mpr ⟨h.nd, hand, fun a ha b hb eab => ?_⟩
      subst eab
      exact hdis a hb (List.mem_flatten.mp ha)
    · rw [rhs x y hx hy]
      have pnew : ∀ x, x ∈ lowT T up.1 up.2 → x ∉ lowT T cur.1 cur.2 → posL (st.1 ++ [addL T cur up]) x = st.1.length := fun x hx q => by rw [pos_app, if_neg (pout x q), if_pos (add_mem.mpr ⟨hx, q⟩)]
      have pold : ∀ x, x ∈ lowT T cur.1 cur.2 → posL (st.1 ++ [addL T cur up]) x = posL st.1 x := fun x q => by rw [pos_app, if_pos (pin x q)]
      by_cases q1 : x ∈ lowT T cur.1 cur.2
      · by_cases q2 : y ∈ lowT T cur.1 cur.2
        · rw [pold x q1, pold y q2]
          exact h.ord x y q1 q2 hne
        · rw [pold x q1, pnew y hy q2]
          exact ⟨fun _ => rT x y q1 q2, fun _ => pin x q1⟩
      · by_cases q2 : y ∈ lowT T cur.1 cur.2
        · rw [pnew x hx q1, pold y q2]
          have := pin y q2
          exact ⟨fun hh => by omega, fun hh => absurd hh (rF x y q1)⟩
        · rw [pnew x hx q1, pnew y hy q2]
          exact ⟨fun hh => by omega, fun hh => absurd hh (rF x y q1)⟩
    · have hk : kdL (addL T cur up) ≠ "" := hk
      unfold kdL at hk
      split at hk
      · rename_i z e
        rw [e] at hy ⊢
        rw [List.mem_singleton.mp hy]
        rfl
      · exact absurd rfl hk

section
variable {ys : List Str} {w : Nat}
end
/-! ### the other way round -/
theorem dl_snoc {α : Type} {l : List α} {a : α} (h : l.getLast? = some a) : l = l.dropLast ++ [a] := by
  obtain ⟨ys, rfl⟩ := List.getLast?_eq_some_iff.mp h
  rw [List.dropLast_concat]

/-! ### turning along a ring keeps the scores -/
def inN (E : List (Th × Th)) (t : Th) : List Th := (E.filter fun e => decide (e.2 = t)).map Prod.fst
def crE (E : List (Th × Th)) : List (Nat × Nat) := E.map fun e => crT e.1 e.2
section
variable {ys : List Str} {w : Nat} {E : List (Th × Th)}
end
/-! ### the ring that a path closes -/
/-! ### alternative -/
theorem zipW_seq {x y : D} {xs ys : List D} {c : Cs} (hx : seqW x c = some xs) (hy : seqW y c = some ys) (i : Nat) (hi : i ≤ (List.zipWith (fun a b => D.tup [a, b]) xs ys).length) :
    zipW x y i c = some (List.zipWith (fun a b => D.tup [a, b]) xs ys)[i]? := by
  unfold zipW
  rw [hx, hy]
  simp only [List.getElem?_zipWith]
  rw [List.length_zipWith] at hi
  cases q1 : xs[i]? with
  | none =>
    have := List.getElem?_eq_none_iff.mp q1
    simp only []
    rw [if_pos (by omega)]
  | some a =>
    cases q2 : ys[i]? with
    | none =>
      have := List.getElem?_eq_none_iff.mp q2
      simp only []
      rw [if_pos (by omega)]
    | some b => rfl
theorem ok_kzipS {t : MA} {l : Ls} {c : Cs} {x y : D} {xs ys : List D} {QW : Wk → Cs → Prop} (h : Ok (t l c) fun ds c1 => ds = [x, y] ∧ seqW x c1 = some xs ∧ seqW y c1 = some ys ∧ QW (zipW x y) c1) : Ok (kZip t l c) QW := by
  obtain ⟨ds, c1, e, rfl, h1, h2, q⟩ := h
  refine ⟨zipW x y, c1, ?_, q⟩
  show (t l c).bind _ = _
  rw [e]
  show (if (seqW x c1).isSome = true ∧ (seqW y c1).isSome = true then (.ok (zipW x y) c1 : Mi.R Wk) else .stuck) = _
  rw [if_pos ⟨by rw [h1]; rfl, by rw [h2]; rfl⟩]
theorem ins_sco (kd : Nat) (c : Cs) : insOf (scoD kd) c = some (("Scores" : Str), [(("kept_scores" : Str), D.ref kd)]) := rfl
theorem nsc_ok {kd : Nat} {c : Cs} {Q : D → Cs → Prop} (q : ∀ d, Q d c) : Ok (gneed_scores [scoD kd] c) Q := by
  refine Ok.fun rfl ?_
  unfold cneed_scores
  refine os_if (ok_tnot (ok_t (ok_iso1 (ok_var rfl ⟨_, ins_sco _ _, by decide, _, rfl, fun h => absurd h (by decide +kernel), fun _ => os_nil (q _)⟩))))
/-! ### range_pair -/
theorem wps_ok {T : Bool → List Int} {kd : Nat} {c : Cs} (h : Kp T kd c) : gScores__warps [scoD kd] c = .ok (.lst ((T false).map D.int)) c := by
  refine Ok.eq (Ok.fun rfl ?_)
  unfold cScores__warps
  exact os_ret (ok_cb (ok_acons (ok_op (Ok.of (fld_hit rfl) (ok_c (Ok.of (h.get false) (ok_anil ⟨_, _, rfl, rfl, rfl⟩)))))))
theorem wfs_ok {T : Bool → List Int} {kd : Nat} {c : Cs} (h : Kp T kd c) : gScores__wefts [scoD kd] c = .ok (.lst ((T true).map D.int)) c := by
  refine Ok.eq (Ok.fun rfl ?_)
  unfold cScores__wefts
  exact os_ret (ok_cb (ok_acons (ok_op (Ok.of (fld_hit rfl) (ok_c (Ok.of (h.get true) (ok_anil ⟨_, _, rfl, rfl, rfl⟩)))))))
/-! ### the ranks -/
section
variable {ys : List Str} {w : Nat}
end
/-! ### forced -/
def prD (p : Th × Th) : D := .tup [thD p.1, thD p.2]
section
variable {ys : List Str} {w i j : Nat}
end
/-! ### repr of lists in cells -/
def prP (p : Th × Th) : PyData := .tuple [thP p.1, thP p.2]
theorem Sh.pr (p : Th × Th) (h1 : p.1.2 ≤ 1000) (h2 : p.2.2 ≤ 1000) : Sh [prD p] [prP p] 205 3 := (((Sh.th p.1 h1).cons (Sh.th p.2 h2)).tup).lift (by decide) (by decide)
section

local macro_rules | `(tactic| walk_at "rws") => `(tactic| first | assumption | exact RwS.ng (by assumption) | exact RwS.turn (by assumption) _ | exact tp_rws (by assumption) | exact tp_rws (RwS.ng (by assumption)) | exact RwS.ng (tp_rws (by assumption)))
local macro_rules | `(tactic| walk_at "pf") => `(tactic| (repeat (first | assumption | exact Pfx.refl _ | exact Pfx.one _ _ | refine Pfx.trans ?_ (by assumption) | refine Pfx.trans ?_ (Pfx.one _ _))))
local macro_rules | `(tactic| walk_at "bx") => `(tactic| first | exact bx_mono (by assumption) (by omega) | refine bx_mono (bx_pfx (by assumption) (by walk_at "pf")) (by omega))
local macro_rules | `(tactic| walk_at "gs0") => `(tactic| first
  | with_reducible refine os_seq ?_ | with_reducible refine os_set ?_ | with_reducible refine os_ret ?_ | with_reducible refine os_asg ?_ | with_reducible refine os_par ?_
  | with_reducible refine os_expr ?_ | with_reducible refine os_nil ?_ | with_reducible refine os_retn ?_ | with_reducible refine os_brk ?_ | with_reducible refine os_cnt ?_
  | with_reducible refine ok_op ?_ | (with_reducible refine ok_var ?_ ?_; (focus rfl)) | with_reducible refine ok_c ?_ | with_reducible refine ok_un ?_ | with_reducible refine ok_cb ?_ | with_reducible refine ok_anil ?_ | with_reducible refine ok_acons ?_
  | with_reducible refine ok_lst ?_ | with_reducible refine ok_tup ?_ | with_reducible refine ok_lstM ?_ | with_reducible refine ok_dict1 ?_
  | with_reducible refine ok_and ?_ | with_reducible refine ok_or ?_ | with_reducible refine ok_not ?_ | with_reducible refine ok_chain ?_ | with_reducible refine ok_t ?_ | with_reducible refine ok_tnot ?_ | with_reducible refine ok_tand ?_
  | with_reducible refine ok_tor ?_ | with_reducible refine ok_if ?_ | with_reducible refine ok_onone ?_ | with_reducible refine ok_osome ?_ | with_reducible refine ok_slice ?_ | with_reducible refine ok_m1 ?_
  | with_reducible refine ok_bm ?_ | with_reducible refine ok_gs ?_ | with_reducible refine ok_cbd ?_ | with_reducible refine ok_cbk ?_ | with_reducible refine os_ifNm ?_ | with_reducible refine ok_frz ?_ | with_reducible refine ok_itup ?_ | with_reducible refine ok_istr ?_ | with_reducible refine ok_r1 ?_ | with_reducible refine ok_r2 ?_ | with_reducible refine ok_il ?_ | with_reducible refine ok_gn ?_)
local macro_rules | `(tactic| walk_at "gs") => `(tactic| first | with_reducible refine os_if ?_ | walk_at "gs0")
local macro_rules | `(tactic| walk_at "gt") => `(tactic| first
  | refine And.intro (Nat.le_of_ble_eq_true rfl) ?_ | refine Exists.intro _ (And.intro rfl ?_) | refine And.intro (fun _ => ?_) (fun hk => Bool.noConfusion hk) | refine And.intro (fun hk => Bool.noConfusion hk) (fun _ => ?_)
  | (walk_at "nolp"; (fail_if_success (with_reducible refine Ok.fun ?_ ?_)); refine ok_ret ?_))
local macro_rules | `(tactic| walk_at "go") => `(tactic| repeat (first | walk_at "gs" | walk_at "use" | walk_at "gt"))
local macro_rules | `(tactic| walk_at "gon") => `(tactic| repeat (first | walk_at "gs0" | walk_at "use" | walk_at "gt"))

local macro_rules | `(tactic| walk_at "bt") => `(tactic| first | assumption | exact bx_pfx (by assumption) (by walk_at "pf"))
local macro_rules | `(tactic| walk_at "use") => `(tactic| first
  | (with_reducible refine And.intro ⟨_, clo_is _ _⟩ ?_)
  | (with_reducible refine Exists.intro _ (And.intro (clo_is _ _) ?_))
  | with_reducible refine ok_clmeth (by decide +kernel) ?_ | with_reducible refine ok_kept ?_
  | with_reducible refine ok_slY ?_
  | with_reducible refine ok_len_map ?_
  | with_reducible refine take_gr (by walk_at "bt") (by omega) (by omega) (by omega) (fun _ _ _ _ _ _ _ => ?_))

/-- a comprehension whose items are drawn -/
theorem compD_draw {α : Type} {enc : α → D} {e : ME} {lw : Ls} {c : Cs} {k j m step : Nat} {n : Int} {ds : List D} {Q : List D → Cs → Prop} (P : α → Prop) (hb : Bx c k n) (hl : ds.length = m) (hm : m ≤ 1000)
    (he : ∀ (d : D) (c' : Cs) (n' : Int) (Q : D → Cs → Prop), Bx c' k n' → n' ≤ n + step * m → Gr k c c' → (∀ a c'', P a → Bx c'' k (n' + step) → Gr k c' c'' → Q (enc a) c'') → Ok (e (lw.set j (some d)) c') Q)
    (q : ∀ (as : List α) c', as.length = m → (∀ a ∈ as, P a) → Bx c' k (n + step * m) → Gr k c c' → Q (as.map enc) c') : Ok (compD (gN j) tYesM e lw ds [] c) Q := by
  have hz : sizeLine = 16777216 := sizeLine_eq
  refine comp_ok (fun rest acc c' => ∃ as : List α, acc = as.map enc ∧ as.length + rest.length = m ∧ (∀ a ∈ as, P a) ∧ Bx c' k (n + step * as.length) ∧ Gr k c c') ?_ ?_ _ _ _ ⟨[], rfl, by simpa using hl, by simp, by simpa using hb, Gr.refl k c⟩
  · rintro acc c' ⟨as, rfl, h1, h2, b, g⟩
    simp only [List.length_nil, Nat.add_zero] at h1
    subst h1
    exact q as c' rfl h2 b g
  · rintro d rest acc c' ⟨as, rfl, h1, h2, b, g⟩
    simp only [List.length_cons] at h1
    have hs : (step : Int) * as.length ≤ step * m := by exact_mod_cast Nat.mul_le_mul_left step (show as.length ≤ m by omega)
    refine ok_gn (ok_ret ?_)
    refine he d c' _ _ b (by omega) g fun a c2 pa b2 g2 => ?_
    refine ⟨by rw [List.length_map]; omega, as ++ [a], by rw [List.map_append]; rfl, by simp; omega, fun x hx => ?_, ?_, g.trans g2⟩
    · rcases List.mem_append.mp hx with h | h
      · exact h2 x h
      · rw [List.mem_singleton] at h; subst h; exact pa
    · refine bx_mono b2 ?_
      rw [List.length_append, List.length_singleton]
      have : ((as.length + 1 : Nat) : Int) = as.length + 1 := by omega
      rw [this, Int.mul_add, Int.mul_one]
      omega
theorem lc_r1 {t : MA} {j : Nat} {e : ME} {l : Ls} {c : Cs} {Q : D → Cs → Prop} (h : Ok (t l c) fun xs c1 => ∃ m : Nat, xs = [.int m] ∧ m ≤ 1000 ∧ Ok (compD (gN j) tYesM e (wipeL l [j]) ((List.range m).map fun i => D.int (i : Nat)) [] c1) fun xs c2 => Q (.lst xs) c2) : Ok (mLc (iR1 t) [j] (gN j) tYesM e l c) Q := by
  refine ok_lc (ok_r1 (h.mono fun xs c1 ⟨m, e1, hm, h2⟩ => ⟨m, e1, small_nat (by omega), ?_⟩))
  rw [Int.toNat_natCast, rangeL0]
  exact h2

/-! ### the law's own look at who lies over whom, and its search -/
/-! ### the law's scores -/
theorem lsc_ok {ys : List Str} {w : Nat} {c : Cs} (hr : RwS ys w) : g_law_scores [.lst (ys.map D.str)] c = .ok (.tup [.lst ((lstT ys w false).map D.int), .lst ((lstT ys w true).map D.int)]) c := by
  have hz : sizeLine = 16777216 := sizeLine_eq
  have n8 := hr.n8
  have w8 := hr.w8
  refine Ok.eq (Ok.fun rfl ?_)
  unfold c_law_scores
  have hrg : Ok ((aCons (mCB lenD (aCons (mOp itemD (mVar 0) (mC (.int 0))) (aNil))) (aNil)) [some (.lst (ys.map D.str)), none, none, none] c) fun xs c1 => c1 = c ∧ xs = [.int (w : Int)] := ok_acons (Ok.of (wlenV hr rfl) (ok_anil ⟨rfl, rfl⟩))
  refine os_seq (os_set (ok_lcR w (fun i => D.int (colN ys i)) (by omega) hrg (fun i hi => ?_) ?_))
  · refine ok_gn ⟨rfl, ok_cb (ok_acons (ok_lcT ys D.str D.str (fun y => decide (y.cps.toList.getD i 0 = 49)) (by omega) (ok_ktree (ok_var rfl ⟨rfl, rfl⟩)) (fun y hy => ?_) (ok_anil (ok_len_map ⟨?_, rfl⟩))))⟩
    · have hyl := hr.len y hy
      exact ok_gn ⟨rfl, ok_t (ok_op (ok_op (ok_var rfl (ok_var rfl (Ok.of (item_str_at (by omega) (by rw [len_cps, hyl]; exact hi)) (ok_c (Ok.of (eq_one _ c) ⟨_, rfl, rfl, rfl, fun _ => ok_var rfl ⟨rfl, rfl⟩⟩)))))))⟩
    · unfold colN
      rw [List.countP_eq_length_filter]
  · refine os_ret (ok_tup (ok_acons (ok_var rfl (ok_acons (ok_lcY ys D.str (fun y => D.int (Txt.count y "0")) (by omega) (ok_ktree (ok_var rfl ⟨rfl, rfl⟩)) (fun y hy => ok_gn ⟨rfl, ok_m1 (ok_var rfl ⟨y, rfl, ok_c ⟨_, _, rfl, rfl, rfl⟩⟩)⟩) (ok_anil ⟨Nat.le_of_ble_eq_true rfl, ?_, rfl⟩))))))
    simp [Function.comp_def, lstT]

/-! ### the rows, drawn -/
theorem oz_at (s : Int) (h : s = 0 ∨ s = 1) (c : Cs) : ∃ k2, bitB k2 = true ∧ itemD (.str "01") (.int s) c = .ok (.str ⟨#[k2]⟩) c := by
  rcases h with rfl | rfl
  · exact ⟨48, rfl, by kernel_rfl⟩
  · exact ⟨49, rfl, by kernel_rfl⟩
theorem sgn_ok {w h k f i j : Nat} {n a : Int} {hs : List Int} {s : Str} {o10 : Option D} {o9 : Option D} {c : Cs} {QS : Fl → Cs → Prop} (hi : i < w) (hj : j < h) (w8 : w ≤ 8) (hl : hs.length = w + h) (hb : Bx c k n) (hn : n ≤ 1000000) (hr : bitR i s)
    (q : ∀ (s' : Str) (o9 : Option D) (c' : Cs), bitR (i + 1) s' → Bx c' k (n + 1) → Gr k c c' → QS (.nx [some (.ref k), some (.int (w : Nat)), some (.int (h : Nat)), some (.int (j : Nat)), some (.int a), some (.lst (hs.map D.int)), some (.ref f), some (.str s'), some (.int (i : Nat)), o9, o10]) c') :
    OkS ((sSeq (sSet 9 (mCB g_law_take (aCons (mVar 0) (aCons (mC (.int 2)) (aNil))))) (sSeq (sIf (tAndM (mT (mOp gtD (mVar 4) (mC (.int 0)))) (mT (mOp neX (mOp itemD (mVar 5) (mVar 8)) (mOp itemD (mVar 5) (mOp addD (mVar 1) (mVar 3)))))) (sSet 9 (mCB intFD (aCons (mOp gtD (mOp itemD (mVar 5) (mVar 8)) (mOp itemD (mVar 5) (mOp addD (mVar 1) (mVar 3)))) (aNil)))) (sNil)) (sSet 7 (mOp addD (mVar 7) (mOp itemD (mC (.str "01")) (mVar 9))))))
      [some (.ref k), some (.int (w : Nat)), some (.int (h : Nat)), some (.int (j : Nat)), some (.int a), some (.lst (hs.map D.int)), some (.ref f), some (.str s), some (.int (i : Nat)), o9, o10] c) QS := by
  have hz : sizeLine = 16777216 := sizeLine_eq
  refine os_seq (os_set (ok_cb (ok_acons (ok_var rfl (ok_acons (ok_c (ok_anil (take_gr hb (by omega) (by decide) (by decide) fun u c1 u0 u1 b1 G1 l1 => ?_))))))))
  have fin : ∀ u : Int, u = 0 ∨ u = 1 → OkS ((sSet 7 (mOp addD (mVar 7) (mOp itemD (mC (.str "01")) (mVar 9))))
      [some (.ref k), some (.int (w : Nat)), some (.int (h : Nat)), some (.int (j : Nat)), some (.int a), some (.lst (hs.map D.int)), some (.ref f), some (.str s), some (.int (i : Nat)), some (.int u), o10] c1) QS := fun u hu => by
    obtain ⟨k2, hk2, e⟩ := oz_at u hu c1
    have hsl := hr.1
    have e3 : Str.length ⟨#[k2]⟩ = 1 := rfl
    refine os_set (ok_op (ok_var rfl (ok_op (ok_c (ok_var rfl (Ok.of e (ok_add_str (by omega) ?_)))))))
    exact q _ _ _ ⟨by rw [Str.length_append]; omega, bitS_app hr.2 (bit_one hk2)⟩ b1 G1
  have h1 : i < hs.length := by omega
  have h2 : w + j < hs.length := by omega
  have i1 : itemD (.lst (hs.map D.int)) (.int (i : Nat)) c1 = .ok (.int hs[i]) c1 := item_seq (xs := hs.map D.int) rfl (by rw [List.getElem?_map, List.getElem?_eq_getElem h1]; rfl)
  have i2 : itemD (.lst (hs.map D.int)) (.int ((w : Int) + (j : Nat))) c1 = .ok (.int hs[w + j]) c1 := by
    have : ((w : Int) + (j : Nat)) = ((w + j : Nat) : Int) := by omega
    rw [this]
    exact item_seq (xs := hs.map D.int) rfl (by rw [List.getElem?_map, List.getElem?_eq_getElem h2]; rfl)
  have ad : addD (.int (w : Nat)) (.int (j : Nat)) c1 = .ok (.int ((w : Int) + (j : Nat))) c1 := rfl
  have hu : u = 0 ∨ u = 1 := by omega
  refine os_seq (os_if (ok_tand (ok_t (ok_op (ok_var rfl (ok_c ⟨_, _, rfl, _, rfl, fun _ => ?_, fun _ => ⟨fun h => Bool.noConfusion h, fun _ => os_nil (fin u hu)⟩⟩))))))
  refine ok_t (ok_op (ok_op (ok_var rfl (ok_var rfl (Ok.of i1 (ok_op (ok_var rfl (ok_op (ok_var rfl (ok_var rfl (Ok.of ad (Ok.of i2 (Ok.of (ne_ints _ _ _) ⟨_, rfl, fun _ => ?_, fun _ => os_nil (fin u hu)⟩)))))))))))))
  refine os_set (ok_cb (ok_acons (ok_op (ok_op (ok_var rfl (ok_var rfl (Ok.of i1 (ok_op (ok_var rfl (ok_op (ok_var rfl (ok_var rfl (Ok.of ad (Ok.of i2 ⟨_, _, rfl, ok_anil ?_⟩))))))))))))))
  refine ⟨_, _, rfl, fin _ ?_⟩
  split
  · exact .inr rfl
  · exact .inl rfl
theorem rows3_ok {k w h : Nat} {n : Int} {c : Cs} {Q : D → Cs → Prop} (hb : Bx c k n) (hn : n ≤ 900000) (w1 : 1 ≤ w) (w8 : w ≤ 8) (h1 : 1 ≤ h) (h8 : h ≤ 8)
    (q : ∀ (ys : List Str) c', RwS ys w → ys.length = h → Bx c' k (n + 100) → Gr k c c' → Q (.lst (ys.map D.str)) c') : Ok (g_law_rows [.ref k, .int (w : Nat), .int (h : Nat)] c) Q := by
  have hz : sizeLine = 16777216 := sizeLine_eq
  refine Ok.fun rfl ?_
  unfold c_law_rows
  refine os_seq (os_par (ok_acons (ok_cb (ok_acons (ok_var rfl (ok_acons (ok_c (ok_anil (take_gr hb (by omega) (by decide) (by decide) fun a c1 a0 a1 b1 G1 l1 => ?_)))))))))
  refine ok_acons (lc_r1 (ok_acons (ok_op (ok_var rfl (ok_var rfl (Ok.of (show addD (.int (w : Nat)) (.int (h : Nat)) c1 = .ok (.int (((w + h : Nat)) : Int)) c1 from rfl) (ok_anil ⟨w + h, rfl, by omega, ?_⟩)))))))
  refine compD_draw (α := Int) (enc := D.int) (step := 1) (m := w + h) (fun x => 0 ≤ x ∧ x < 5) b1 (by simp) (by omega) (fun d c' n' Q hb' hn' G hq => ?_) (fun hs c2 hl hP b2 G2 => ?_)
  · exact ok_cb (ok_acons (ok_var rfl (ok_acons (ok_c (ok_anil (take_gr hb' (by omega) (by decide) (by decide) fun i c'' i0 i1 b2 G2 l2 => hq i c'' ⟨i0, i1⟩ b2 G2))))))
  refine ok_acons (ok_lstM (ok_anil ⟨Nat.zero_le _, ok_anil ⟨_, _, rfl, ?_⟩⟩))
  have hkl := bx_lt b2
  have b3 := bx_pfx b2 (Pfx.one c2 [Cell.lst []])
  have G3 : Gr k c (c2 ++ [Cell.lst []]) := (G1.trans G2).trans (Gr.of (Pfx.one c2 [Cell.lst []]))
  have g3 : (c2 ++ [Cell.lst []])[c2.length]? = some (.lst []) := cell_last _
  generalize c2 ++ [Cell.lst []] = c3 at b3 G3 g3
  have hfc : c.length ≤ c2.length := by
    have := (G1.trans G2).1
    exact this
  generalize c2.length = f at g3 hkl hfc
  refine os_seq (os_forR h (fun rest l c' => ∃ (dn : List Str) (o3 o7 o8 o9 o10 : Option D), rest = (List.range h).drop dn.length ∧ dn.length ≤ h ∧ (∀ y ∈ dn, bitR w y) ∧ l = [some (.ref k), some (.int (w : Nat)), some (.int (h : Nat)), o3, some (.int a), some (.lst (hs.map D.int)), some (.ref f), o7, o8, o9, o10] ∧ c'[f]? = some (.lst (dn.map D.str)) ∧ Bx c' k (n + 20 + 10 * dn.length) ∧ Gr k c c')
    (by omega) (ok_acons (ok_var rfl (ok_anil ⟨rfl, rfl⟩))) ⟨[], _, _, _, _, _, rfl, Nat.zero_le _, nofun, rfl, g3, bx_mono b3 (by simp; omega), G3⟩ ?_ ?_)
  · rintro l c' ⟨dn, o3, o7, o8, o9, o10, e, hdl, hdn, rfl, hc, hb', hG⟩
    have hlen : dn.length = h := by
      have := congrArg List.length e
      simp at this
      omega
    refine os_ret (ok_frz (ok_var rfl ⟨_, _, rfl, hc, ?_⟩))
    refine q dn _ ⟨by omega, by omega, w1, w8, fun y hy => (hdn y hy).1, fun y hy => (hdn y hy).2⟩ hlen (bx_set (bx_mono hb' (by omega)) (by omega) _) (hG.set hfc _)
  · rintro x rest l c' ⟨dn, o3, o7, o8, o9, o10, e, hdl, hdn, rfl, hc, hb', hG⟩
    have hlt : dn.length < h := by
      have := congrArg List.length e
      simp at this
      omega
    rw [List.drop_eq_getElem_cons (by simpa using hlt)] at e
    obtain ⟨e1, e2⟩ := List.cons.inj e
    rw [List.getElem_range] at e1
    subst e1
    refine ⟨_, _, rfl, os_seq (os_set (ok_c ?_))⟩
    refine os_seq (os_forR w (fun rest l c' => ∃ (s : Str) (i : Nat) (o8 o9 : Option D), rest = (List.range w).drop i ∧ i ≤ w ∧ bitR i s ∧ l = [some (.ref k), some (.int (w : Nat)), some (.int (h : Nat)), some (.int (dn.length : Nat)), some (.int a), some (.lst (hs.map D.int)), some (.ref f), some (.str s), o8, o9, o10] ∧ c'[f]? = some (.lst (dn.map D.str)) ∧ Bx c' k (n + 20 + 10 * dn.length + i) ∧ Gr k c c')
      (by omega) (ok_acons (ok_var rfl (ok_anil ⟨rfl, rfl⟩))) ⟨"", 0, _, _, rfl, Nat.zero_le _, ⟨rfl, rfl⟩, rfl, hc, bx_mono hb' (by omega), hG⟩ ?_ ?_)
    · rintro l c4 ⟨s, i, o8, o9, e3, hi, hs, rfl, hc4, hb4, hG4⟩
      have hiw : i = w := by
        have := congrArg List.length e3
        simp at this
        omega
      subst hiw
      refine os_expr (ok_bm (ok_var rfl ⟨isL_ref hc4, ok_acons (ok_var rfl (ok_anil (ok_append hc4 (by rw [List.length_map]; omega) ?_)))⟩))
      have hf4 := (List.getElem?_eq_some_iff.mp hc4).1
      refine ⟨dn ++ [s], _, _, _, _, _, by rw [List.length_append]; exact e2, by rw [List.length_append]; exact hlt, fun y hy => ?_, rfl, ?_, bx_set (bx_mono hb4 (by rw [List.length_append, List.length_singleton]; omega)) (by omega) _, hG4.set hfc _⟩
      · rcases List.mem_append.mp hy with hy | hy
        · exact hdn y hy
        · rw [List.mem_singleton.mp hy]
          exact hs
      · rw [List.getElem?_set_self hf4, List.map_append]
        rfl
    · rintro x rest l c4 ⟨s, i, o8, o9, e3, hi, hs, rfl, hc4, hb4, hG4⟩
      have hiw : i < w := by
        have := congrArg List.length e3
        simp at this
        omega
      rw [List.drop_eq_getElem_cons (by simpa using hiw)] at e3
      obtain ⟨e4, e5⟩ := List.cons.inj e3
      rw [List.getElem_range] at e4
      subst e4
      refine ⟨_, _, rfl, sgn_ok hiw hlt w8 hl hb4 (by omega) hs fun s' o9' c5 hs' b5 G5 => ?_⟩
      exact ⟨s', x + 1, _, _, e5, hiw, hs', rfl, G5.get (by omega) hc4, bx_mono b5 (by omega), hG4.trans G5⟩
/-! ### the crossings in a drawn order -/
/-! ### another cloth with the scores -/
end

section

local macro_rules | `(tactic| walk_at "rws") => `(tactic| first | assumption | exact RwS.ng (by assumption) | exact RwS.turn (by assumption) _ | exact tp_rws (by assumption) | exact tp_rws (RwS.ng (by assumption)) | exact RwS.ng (tp_rws (by assumption)))
local macro_rules | `(tactic| walk_at "pf") => `(tactic| (repeat (first | assumption | exact Pfx.refl _ | exact Pfx.one _ _ | refine Pfx.trans ?_ (by assumption) | refine Pfx.trans ?_ (Pfx.one _ _))))
local macro_rules | `(tactic| walk_at "bx") => `(tactic| first | exact bx_mono (by assumption) (by omega) | refine bx_mono (bx_pfx (by assumption) (by walk_at "pf")) (by omega))
local macro_rules | `(tactic| walk_at "gs0") => `(tactic| first
  | with_reducible refine os_seq ?_ | with_reducible refine os_set ?_ | with_reducible refine os_ret ?_ | with_reducible refine os_asg ?_ | with_reducible refine os_par ?_
  | with_reducible refine os_expr ?_ | with_reducible refine os_nil ?_ | with_reducible refine os_retn ?_ | with_reducible refine os_brk ?_ | with_reducible refine os_cnt ?_
  | with_reducible refine ok_op ?_ | (with_reducible refine ok_var ?_ ?_; (focus rfl)) | with_reducible refine ok_c ?_ | with_reducible refine ok_un ?_ | with_reducible refine ok_cb ?_ | with_reducible refine ok_anil ?_ | with_reducible refine ok_acons ?_
  | with_reducible refine ok_lst ?_ | with_reducible refine ok_tup ?_ | with_reducible refine ok_lstM ?_ | with_reducible refine ok_dict1 ?_
  | with_reducible refine ok_and ?_ | with_reducible refine ok_or ?_ | with_reducible refine ok_not ?_ | with_reducible refine ok_chain ?_ | with_reducible refine ok_t ?_ | with_reducible refine ok_tnot ?_ | with_reducible refine ok_tand ?_
  | with_reducible refine ok_tor ?_ | with_reducible refine ok_if ?_ | with_reducible refine ok_onone ?_ | with_reducible refine ok_osome ?_ | with_reducible refine ok_slice ?_ | with_reducible refine ok_m1 ?_
  | with_reducible refine ok_bm ?_ | with_reducible refine ok_gs ?_ | with_reducible refine ok_cbd ?_ | with_reducible refine ok_cbk ?_ | with_reducible refine os_ifNm ?_ | with_reducible refine ok_frz ?_ | with_reducible refine ok_itup ?_ | with_reducible refine ok_istr ?_ | with_reducible refine ok_r1 ?_ | with_reducible refine ok_r2 ?_ | with_reducible refine ok_il ?_ | with_reducible refine ok_gn ?_)
local macro_rules | `(tactic| walk_at "gs") => `(tactic| first | with_reducible refine os_if ?_ | walk_at "gs0")
local macro_rules | `(tactic| walk_at "gt") => `(tactic| first
  | refine And.intro (Nat.le_of_ble_eq_true rfl) ?_ | refine Exists.intro _ (And.intro rfl ?_) | refine And.intro (fun _ => ?_) (fun hk => Bool.noConfusion hk) | refine And.intro (fun hk => Bool.noConfusion hk) (fun _ => ?_)
  | (walk_at "nolp"; (fail_if_success (with_reducible refine Ok.fun ?_ ?_)); refine ok_ret ?_))
local macro_rules | `(tactic| walk_at "go") => `(tactic| repeat (first | walk_at "gs" | walk_at "use" | walk_at "gt"))
local macro_rules | `(tactic| walk_at "gon") => `(tactic| repeat (first | walk_at "gs0" | walk_at "use" | walk_at "gt"))

abbrev Xn := Nat × Nat
def enX (b : Bool) (x : Xn) : Th := (b, if b = true then x.2 else x.1)
def upT (U : Xn → Bool) (x : Xn) : Th := enX (U x) x
def loT (U : Xn → Bool) (x : Xn) : Th := enX (!U x) x
def allX (w h : Nat) : List Xn := (List.range w).flatMap fun i => (List.range h).map fun j => (i, j)
abbrev FeX := Th × Option Xn
structure Fd (w h : Nat) (hd : Xn → Option Bool) (U : Xn → Bool) (S : Th → Int) (fs : List FeX) : Prop where
  nd : (fs.map Prod.fst).Nodup
  sub : ∀ t ∈ fs.map Prod.fst, inB2 w h t
  root : ∀ t, (t, none) ∈ fs → 0 < S t
  par : ∀ (i : Nat) (t : Th) (x : Xn), fs[i]? = some (t, some x) → x ∈ allX w h ∧ hd x = none ∧ loT U x = t ∧ ∃ j : Nat, j < i ∧ ∃ o : Option Xn, fs[j]? = some (upT U x, o)
  pos : ∀ t, inB2 w h t → 0 < S t → t ∈ fs.map Prod.fst
section
variable {w h : Nat} {hd : Xn → Option Bool} {U R : Xn → Bool} {S : Th → Int} {fs : List FeX}
theorem Fd.len (F : Fd w h hd U S fs) : fs.length ≤ w + h := by
  have e := sub_len F.nd (t := thL w h) fun t ht => thL_mem.mpr (F.sub t ht)
  rw [List.length_map, thL_len] at e
  exact e
theorem Fd.inj (F : Fd w h hd U S fs) {i j : Nat} {t : Th} {o o' : Option Xn} (h1 : fs[i]? = some (t, o)) (h2 : fs[j]? = some (t, o')) : i = j := by
  have hi : i < (fs.map Prod.fst).length := by rw [List.length_map]; exact (List.getElem?_eq_some_iff.mp h1).1
  have e : (fs.map Prod.fst)[i]? = (fs.map Prod.fst)[j]? := by
    rw [List.getElem?_map, List.getElem?_map, h1, h2]
    rfl
  exact (List.getElem?_inj hi F.nd).mp e
end
structure Chg (ku ks : Nat) (c c' : Cs) : Prop where
  len : c.length ≤ c'.length
  same : ∀ k, k < c.length → k ≠ ku → k ≠ ks → c'[k]? = c[k]?
theorem Chg.refl (ku ks : Nat) (c : Cs) : Chg ku ks c c := ⟨Nat.le_refl _, fun _ _ _ _ => rfl⟩
theorem Chg.trans {ku ks : Nat} {c c1 c2 : Cs} (a : Chg ku ks c c1) (b : Chg ku ks c1 c2) : Chg ku ks c c2 := ⟨Nat.le_trans a.len b.len, fun k h1 h2 h3 => (b.same k (Nat.lt_of_lt_of_le h1 a.len) h2 h3).trans (a.same k h1 h2 h3)⟩
theorem Chg.set {ku ks : Nat} {c c1 : Cs} (a : Chg ku ks c c1) (x y : Cell) : Chg ku ks c ((c1.set ks x).set ku y) := ⟨by rw [List.length_set, List.length_set]; exact a.len, fun k h1 h2 h3 => by
  rw [List.getElem?_set_ne (Ne.symm h2), List.getElem?_set_ne (Ne.symm h3)]
  exact a.same k h1 h2 h3⟩
theorem nd_sub {β : Type} [DecidableEq β] : ∀ {l1 l2 : List β}, l1.Nodup → (∀ x ∈ l1, x ∈ l2) → l1.length ≤ l2.length
  | [], _, _, _ => Nat.zero_le _
  | x :: l1, l2, hn, hs => by
    obtain ⟨h1, h2⟩ := List.nodup_cons.mp hn
    have hx := hs x List.mem_cons_self
    have ih := nd_sub (l2 := l2.erase x) h2 fun y hy => by
      have hne : y ≠ x := fun e => h1 (by rw [← e]; exact hy)
      exact (List.mem_erase_of_ne hne).mpr (hs y (List.mem_cons_of_mem _ hy))
    have e := List.length_erase_of_mem hx
    have hp := List.length_pos_of_mem hx
    rw [List.length_cons]
    omega
abbrev hT (T : Bool → List Int) : Nat := (T true).length
/-- a list or a tuple, its items -/
structure SqD (v : D) (xs : List D) : Prop where
  tree : treeSeq v = some xs
  seq : ∀ c, seqOf v c = some xs
  ty : ∃ t, (∀ c, tyD v c = some t) ∧ (t == "list" || t == "tuple") = true
  ro : ∀ ys, v ≠ .ro ys
  ins : ∀ c, insOf v c = none
  dt : ∀ c, dTq v c = false
theorem SqD.lst (xs : List D) : SqD (.lst xs) xs := ⟨rfl, fun _ => rfl, ⟨"list", fun _ => rfl, rfl⟩, nofun, fun _ => rfl, fun _ => rfl⟩
theorem SqD.tup (xs : List D) : SqD (.tup xs) xs := ⟨rfl, fun _ => rfl, ⟨"tuple", fun _ => rfl, rfl⟩, nofun, fun _ => rfl, fun _ => rfl⟩
def liD (T : Bool → List Int) : D := .tup [iL (T false), iL (T true)]
theorem moved_ok {T0 : Bool → List Int} {k : Nat} {n : Int} {c : Cs} {Q : D → Cs → Prop} (S0 : ST T0 0) (hb : Bx c k n) (hn : n ≤ 800000) (q : ∀ T c', ST T 0 → (∀ b, (T b).length = (T0 b).length) → Bx c' k (n + 30) → Gr k c c' → Q (liD T) c') : Ok (g_law_moved [.ref k, liD T0] c) Q := by
  have hz : sizeLine = 16777216 := sizeLine_eq
  have hlt := bx_lt hb
  refine Ok.fun rfl ?_
  unfold c_law_moved
  have i0 : ∀ c', itemD (liD T0) (.int 0) c' = .ok (iL (T0 false)) c' := fun c' => rfl
  have i1 : ∀ c', itemD (liD T0) (.int 1) c' = .ok (iL (T0 true)) c' := fun c' => rfl
  have lm : ∀ (xs : List Int) (c' : Cs), listM [iL xs] c' = .ok (.ref c'.length) (c' ++ [.lst (xs.map D.int)]) := fun xs c' => rfl
  refine os_seq (os_set (ok_lst (ok_acons (ok_cb (ok_acons (ok_op (ok_var rfl (ok_c (Ok.of (i0 _) (ok_anil (Ok.of (lm _ _) (ok_acons (ok_cb (ok_acons (ok_op (ok_var rfl (ok_c (Ok.of (i1 _) (ok_anil (Ok.of (lm _ _) (ok_anil ⟨Nat.le_of_ble_eq_true rfl, ?_⟩)))))))))))))))))))))
  have ea : (c ++ [Cell.lst ((T0 false).map D.int)]).length = c.length + 1 := by simp
  rw [ea]
  have T2 : Tw c.length T0 ((c ++ [Cell.lst ((T0 false).map D.int)]) ++ [Cell.lst ((T0 true).map D.int)]) := fun b => by
    cases b
    · show (_ ++ _)[c.length]? = _
      simp
    · show (_ ++ _)[c.length + 1]? = _
      simp
  have b2 := bx_app (bx_app hb [Cell.lst ((T0 false).map D.int)]) [Cell.lst ((T0 true).map D.int)]
  have G2 : Gr k c ((c ++ [Cell.lst ((T0 false).map D.int)]) ++ [Cell.lst ((T0 true).map D.int)]) := (Gr.of (Pfx.one _ _)).trans (Gr.of (Pfx.one _ _))
  generalize (c ++ [Cell.lst ((T0 false).map D.int)]) ++ [Cell.lst ((T0 true).map D.int)] = c2 at b2 G2 T2 ⊢
  obtain ⟨a, ha⟩ : ∃ a, a = c.length := ⟨_, rfl⟩
  rw [← ha] at T2 ⊢
  have hge : ∀ b, c.length ≤ adT a b := fun b => by cases b <;> simp [adT] <;> omega
  have ad : ∀ b, adT a b ≠ k := fun b => by cases b <;> simp [adT] <;> omega
  refine os_seq (os_for (ok_r1 (ok_acons (ok_cb (ok_acons (ok_var rfl (ok_acons (ok_c (ok_anil (take_gr b2 (by omega) (by decide) (by decide) fun many c3 m0 m1 b3 G3 l3 => ?_))))))))))
  refine ok_anil ⟨many, rfl, ⟨by omega, by omega⟩, ?_⟩
  refine OkS.for (fun ds l c' => (∃ o3 o4 o5 o6 o7, l = [some (.ref k), some (liD T0), some (.lst [.ref a, .ref (a + 1)]), o3, o4, o5, o6, o7]) ∧ (∃ T, Tw a T c' ∧ ST T 0 ∧ ∀ b, (T b).length = (T0 b).length) ∧ Gr k c c' ∧ Bx c' k (n + 25 - 4 * ds.length) ∧ ds.length ≤ 5) ?_ ?_ _ _ _
    ⟨⟨_, _, _, _, _, rfl⟩, ⟨T0, T2.gr G3 ad, S0, fun _ => rfl⟩, G2.trans G3, bx_mono b3 (by rw [rangeL_len]; omega), by rw [rangeL_len]; omega⟩
  · rintro l c' ⟨⟨o3, o4, o5, o6, o7, rfl⟩, ⟨T, hT, hS, hL⟩, G, b, _⟩
    have s0 : ∀ c'', itemD (.lst [.ref a, .ref (a + 1)]) (.int 0) c'' = .ok (.ref a) c'' := fun _ => rfl
    have s1 : ∀ c'', itemD (.lst [.ref a, .ref (a + 1)]) (.int 1) c'' = .ok (.ref (a + 1)) c'' := fun _ => rfl
    have t0 : c'[a]? = some (.lst ((T false).map D.int)) := hT false
    have t1 : (c'.set a (.frz (.lst ((T false).map D.int))))[a + 1]? = some (.lst ((T true).map D.int)) := by
      rw [List.getElem?_set_ne (by omega)]
      exact hT true
    refine os_ret (ok_tup (ok_acons (ok_frz (ok_op (ok_var rfl (ok_c (Ok.of (s0 _) ⟨_, _, rfl, t0, ok_acons (ok_frz (ok_op (ok_var rfl (ok_c (Ok.of (s1 _) ⟨_, _, rfl, t1, ok_anil ⟨Nat.le_of_ble_eq_true rfl, ?_⟩⟩)))))⟩)))))))
    exact q T _ hS hL (bx_mono (bx_set (bx_set b (by omega) _) (by omega) _) (by simp)) ((G.set (by omega) _).set (by omega) _)
  · rintro d ds l c' ⟨⟨o3, o4, o5, o6, o7, rfl⟩, ⟨T, hT, hS, hL⟩, G, b, hds⟩
    simp only [List.length_cons] at hds b
    refine ok_gn ?_
    refine os_seq (os_par (ok_acons (ok_cb (ok_acons (ok_var rfl (ok_acons (ok_c (ok_anil (take_gr b (by omega) (by decide) (by decide) fun i4 c4 g0 g1 b4 G4 l4 => ok_acons (ok_cb (ok_acons (ok_var rfl (ok_acons (ok_c (ok_anil (take_gr b4 (by omega) (by decide) (by decide) fun i5 c5 g2 g3 b5 G5 l5 => ok_anil ⟨_, _, rfl, ?_⟩))))))))))))))))
    obtain ⟨kb, I1, I2⟩ := pick a g0 g1
    obtain ⟨ob, M1, M2⟩ := pick a g2 g3
    have T5 := (hT.gr G4 ad).gr G5 ad
    refine os_seq (os_par (ok_acons (ok_cb (ok_acons (ok_var rfl (ok_acons (ok_cb (ok_acons (ok_op (ok_var rfl (ok_var rfl (Ok.of (I1 _) (ok_anil (Ok.of (len_ref (T5 kb)) (ok_anil (take_gr b5 (by omega) (by have := hS.l1 kb; omega) (by have := hS.l8 kb; omega) fun i6 c6 g4 g5 b6 G6 l6 => ?_))))))))))))))))
    have T6 := T5.gr G6 ad
    refine ok_acons (ok_cb (ok_acons (ok_var rfl (ok_acons (ok_cb (ok_acons (ok_op (ok_var rfl (ok_var rfl (Ok.of (M1 _) (ok_anil (Ok.of (len_ref (T6 ob)) (ok_anil (take_gr b6 (by omega) (by have := hS.l1 ob; omega) (by have := hS.l8 ob; omega) fun i7 c7 g6 g7 b7 G7 l7 => ok_anil ⟨_, _, rfl, ?_⟩))))))))))))))
    have T7 := T6.gr G7 ad
    obtain ⟨x, rfl⟩ := Int.eq_ofNat_of_zero_le g4
    obtain ⟨y, rfl⟩ := Int.eq_ofNat_of_zero_le g6
    have hx : x < (T kb).length := by omega
    have hy : y < (T ob).length := by omega
    have GG := (((G.trans G4).trans G5).trans G6).trans G7
    have fin : ∀ c8 T', Tw a T' c8 → ST T' 0 → (∀ b, (T' b).length = (T0 b).length) → Gr k c c8 → Bx c8 k (n + 25 - 4 * ds.length) → (∃ o3 o4 o5 o6' o7', [some (.ref k), some (liD T0), some (.lst [.ref a, .ref (a + 1)]), some d, some (.int i4), some (.int i5), some (.int (x : Nat)), some (.int (y : Nat))] = [some (.ref k), some (liD T0), some (.lst [.ref a, .ref (a + 1)]), o3, o4, o5, o6', o7']) ∧ (∃ T, Tw a T c8 ∧ ST T 0 ∧ ∀ b, (T b).length = (T0 b).length) ∧ Gr k c c8 ∧ Bx c8 k (n + 25 - 4 * ds.length) ∧ ds.length ≤ 5 :=
      fun c8 T' t st sl g b => ⟨⟨_, _, _, _, _, rfl⟩, ⟨T', t, st, sl⟩, g, b, by omega⟩
    have b8 : Bx c7 k (n + 25 - 4 * ds.length) := bx_mono b7 (by omega)
    obtain ⟨bn, hbn⟩ : ∃ bn, neX (.tup [.int i4, .int (x : Nat)]) (.tup [.int i5, .int (y : Nat)]) c7 = .ok (.bl bn) c7 := by
      have sh : ∀ u v : Int, SeqAt.shaped (.tuple [.int u, .int v]) = true := fun u v => shaped_of rfl (by simp [PyData.depth, PyData.depthAll])
      exact ⟨_, (show neX (.tup [.int i4, .int (x : Nat)]) (.tup [.int i5, .int (y : Nat)]) c7 = eqQ true (.tup [.int i4, .int (x : Nat)]) (.tup [.int i5, .int (y : Nat)]) c7 from rfl).trans (eqQ_py (x := .tup [.int i4, .int (x : Nat)]) (y := .tup [.int i5, .int (y : Nat)]) (c := c7) (neg := true) (p := .tuple [.int i4, .int (x : Nat)]) (q := .tuple [.int i5, .int (y : Nat)]) rfl rfl (sh _ _) (sh _ _))⟩
    refine os_if (ok_tand (ok_t (ok_op (ok_tup (ok_acons (ok_var rfl (ok_acons (ok_var rfl (ok_anil ⟨Nat.le_of_ble_eq_true rfl, ok_tup (ok_acons (ok_var rfl (ok_acons (ok_var rfl (ok_anil ⟨Nat.le_of_ble_eq_true rfl, Ok.of hbn ⟨_, rfl, fun h0 => ?_, fun h0 => ?_⟩⟩)))))⟩)))))))))
    rotate_left
    · exact ⟨fun z => Bool.noConfusion z, fun _ => os_nil (fin _ T T7 hS hL GG b8)⟩
    refine ok_tand (ok_t (ok_op (ok_op (ok_op (ok_var rfl (ok_var rfl (Ok.of (I1 _) (ok_var rfl (Ok.of (item_ref (T7 kb) hx) (ok_c ⟨_, _, rfl, _, rfl, fun h2 => ?_, fun h2 => ?_⟩))))))))))
    rotate_left
    · exact ⟨fun z => Bool.noConfusion z, fun _ => os_nil (fin _ T T7 hS hL GG b8)⟩
    have h2 : 0 < (T kb)[x] := of_decide_eq_true h2
    refine ok_t (ok_op (ok_op (ok_op (ok_var rfl (ok_var rfl (Ok.of (M1 _) (ok_var rfl (Ok.of (item_ref (T7 ob) hy) (ok_cb (ok_acons (ok_op (ok_var rfl (ok_op (ok_c (ok_var rfl ⟨_, _, rfl, Ok.of (M2 _) (ok_anil (Ok.of (len_ref (T7 (!ob))) ⟨_, _, rfl, _, rfl, fun h1 => ?_, fun h1 => os_nil (fin _ T T7 hS hL GG b8)⟩))⟩)))))))))))))))
    have h1 : (T ob)[y] < ((T (!ob)).length : Int) := of_decide_eq_true h1
    have hzx := hS.bd kb _ (List.getElem_mem hx)
    have S1 := hS.set kb hx (z := (T kb)[x] - 1) (by omega) (by omega)
    rw [show (0 : Int) + (T kb)[x] - ((T kb)[x] - 1) = 1 by omega] at S1
    refine os_seq (os_asg (ok_op (ok_op (ok_op (ok_var rfl (ok_var rfl (Ok.of (I1 _) (ok_var rfl (Ok.of (item_ref (T7 kb) hx) (ok_c ⟨_, _, rfl, ok_gs (ok_op (ok_var rfl (ok_var rfl (Ok.of (I1 _) (ok_var rfl (Ok.of (put_ref (T7 kb) hx _) ?_))))))⟩))))))))))
    have T8 := T7.set kb ((T kb).set x ((T kb)[x] - 1))
    have G8 : Gr k c (c7.set (adT a kb) (.lst (((T kb).set x ((T kb)[x] - 1)).map D.int))) := GG.set (hge kb) _
    have b9 := bx_set b8 (ad kb) (.lst (((T kb).set x ((T kb)[x] - 1)).map D.int))
    have hl : ∀ z, (updT T kb ((T kb).set x ((T kb)[x] - 1)) z).length = (T z).length := fun z => by
      unfold updT
      split
      · rename_i e; rw [e, List.length_set]
      · rfl
    have hyu : y < (updT T kb ((T kb).set x ((T kb)[x] - 1)) ob).length := by rw [hl]; omega
    have u3 : (updT T kb ((T kb).set x ((T kb)[x] - 1)) ob)[y] < ((updT T kb ((T kb).set x ((T kb)[x] - 1)) (!ob)).length : Int) := by
      rw [hl]
      by_cases e : ob = kb
      · subst e
        have e2 : updT T ob ((T ob).set x ((T ob)[x] - 1)) ob = (T ob).set x ((T ob)[x] - 1) := if_pos rfl
        simp only [e2, List.getElem_set]
        split
        · rename_i e3; subst e3; omega
        · exact h1
      · have e2 : updT T kb ((T kb).set x ((T kb)[x] - 1)) ob = T ob := if_neg e
        simp only [e2]
        exact h1
    generalize updT T kb ((T kb).set x ((T kb)[x] - 1)) = T1 at T8 S1 hyu u3 hl
    have hb1 := S1.bd ob _ (List.getElem_mem hyu)
    have S3 := S1.set ob hyu (z := (T1 ob)[y] + 1) (by omega) (by omega)
    rw [show (1 : Int) + (T1 ob)[y] - ((T1 ob)[y] + 1) = 0 by omega] at S3
    refine os_asg (ok_op (ok_op (ok_op (ok_var rfl (ok_var rfl (Ok.of (M1 _) (ok_var rfl (Ok.of (item_ref (T8 ob) hyu) (ok_c ⟨_, _, rfl, ok_gs (ok_op (ok_var rfl (ok_var rfl (Ok.of (M1 _) (ok_var rfl (Ok.of (put_ref (T8 ob) hyu _) ?_))))))⟩)))))))))
    exact fin _ _ (T8.set ob ((T1 ob).set y ((T1 ob)[y] + 1))) S3 (fun b => by
      have e : (updT T1 ob ((T1 ob).set y ((T1 ob)[y] + 1)) b).length = (T1 b).length := by
        unfold updT
        split
        · rename_i e; rw [e, List.length_set]
        · rfl
      rw [e, hl, hL]) (G8.set (hge ob) _) (bx_set b9 (ad ob) _)
theorem erase_consG {α : Type} : ∀ (l : List α) (i : Nat) (h : i < l.length), (l[i] :: l.eraseIdx i).Perm l
  | [], i, h => absurd h (Nat.not_lt_zero _)
  | x :: l, 0, _ => List.Perm.refl _
  | x :: l, i + 1, h => by
    have h' : i < l.length := by simpa using h
    exact (List.Perm.swap x l[i] (l.eraseIdx i)).trans ((erase_consG l i h').cons x)
theorem popAtP {α : Type} {enc : α → D} {k : Nat} {left : List α} {i : Int} {c : Cs} {Q : D → Cs → Prop} (hc : c[k]? = some (.lst (left.map enc))) (h0 : 0 ≤ i) (h1 : i < left.length) (h8 : left.length ≤ 1000)
    (q : ∀ (x : α) (rest : List α), (x :: rest).Perm left → Q (enc x) (c.set k (.lst (rest.map enc)))) : Ok (mutM popAtF (.ref k) [.int i] c) Q := by
  have hi : i.toNat < left.length := by omega
  have e1 : seqIndex? i (left.map enc).length = some i.toNat := by
    rw [List.length_map]
    unfold seqIndex?
    simp only []
    rw [if_neg (show ¬ i < 0 by omega), decide_eq_true h0, decide_eq_true h1]
    rfl
  have e2 : cellX (.ref k) c = some (k, left.map enc) := by
    unfold cellX
    simp only [hc]
  have e3 : popAtF [.int i] (left.map enc) = some (enc left[i.toNat], (left.map enc).eraseIdx i.toNat) := by
    unfold popAtF
    simp only []
    rw [if_pos ⟨by omega, by omega⟩, e1]
    simp only []
    rw [List.getElem?_map, List.getElem?_eq_getElem hi]
    rfl
  refine ⟨_, _, ?_, q left[i.toNat] (left.eraseIdx i.toNat) (erase_consG _ _ hi)⟩
  unfold mutM
  rw [e2]
  simp only []
  rw [e3, map_erase]
theorem os_forN {m : MA} {g : MG} {f : MS} {l : Ls} {c : Cs} {QS : Fl → Cs → Prop} (n : Nat) (P : Nat → Ls → Cs → Prop) (hn : n ≤ 1000000) (hm : Ok (m l c) fun xs c1 => c1 = c ∧ xs = [.int (n : Int)]) (h0 : P 0 l c)
    (hd : ∀ l c, P n l c → QS (.nx l) c)
    (ht : ∀ i l c, i < n → P i l c → Ok (g (.int (i : Nat)) l c) fun l1 c1 => OkS (f l1 c1) fun fl c2 => match fl with
      | .nx l2 => P (i + 1) l2 c2
      | .ct l2 => P (i + 1) l2 c2
      | .bk l2 => QS (.nx l2) c2
      | .rt d => QS (.rt d) c2) : OkS (sFor (iR1 m) g f l c) QS := by
  refine os_forR n (fun rest l c => ∃ i, i ≤ n ∧ rest = (List.range n).drop i ∧ P i l c) hn hm ⟨0, Nat.zero_le _, rfl, h0⟩ (fun l c ⟨i, hi, e, p⟩ => ?_) (fun x rest l c ⟨i, hi, e, p⟩ => ?_)
  · have hl := congrArg List.length e
    rw [List.length_drop, List.length_range, List.length_nil] at hl
    have : i = n := by omega
    subst this
    exact hd l c p
  · have hl := congrArg List.length e
    rw [List.length_drop, List.length_range, List.length_cons] at hl
    have hin : i < n := by omega
    have e2 := List.drop_eq_getElem_cons (l := List.range n) (i := i) (by rw [List.length_range]; exact hin)
    rw [e2, List.getElem_range] at e
    obtain ⟨rfl, rfl⟩ := List.cons.inj e
    obtain ⟨l1, c1, e1, fl, c2, e3, q⟩ := ht x l c hin p
    refine ⟨l1, c1, e1, fl, c2, e3, ?_⟩
    cases fl with
    | nx l2 => exact ⟨x + 1, hin, rfl, q⟩
    | ct l2 => exact ⟨x + 1, hin, rfl, q⟩
    | bk l2 => exact q
    | rt d => exact q
theorem lmixV_ok {α : Type} {enc : α → D} {xs : List α} {k : Nat} {v : D} {n : Int} {c : Cs} {Q : D → Cs → Prop} (hb : Bx c k n) (hn : n ≤ 900000) (hl : xs.length ≤ 64) (hf : ∀ c', Pfx c c' → seqOf v c' = some (xs.map enc))
    (q : ∀ (zs : List α) c', zs.Perm xs → Bx c' k (n + 64) → Gr k c c' → Q (.lst (zs.map enc)) c') : Ok (g_law_mixed [.ref k, v] c) Q := by
  have hz : sizeLine = 16777216 := sizeLine_eq
  have hkl := bx_lt hb
  refine Ok.fun rfl ?_
  unfold c_law_mixed
  have hs : seqOf v c = some (xs.map enc) := hf c (Pfx.refl c)
  have hlm : listM [v] c = .ok (.ref c.length) (c ++ [.lst (xs.map enc)]) := by
    show listMP v c = _
    unfold listMP
    rw [hs]
  refine os_seq (os_set (ok_cb (ok_acons (ok_var rfl (ok_anil (Ok.of hlm ?_))))))
  have b3 := bx_pfx hb (Pfx.one c [Cell.lst (xs.map enc)])
  have G3 : Gr k c (c ++ [Cell.lst (xs.map enc)]) := Gr.of (Pfx.one c _)
  have g3 : (c ++ [Cell.lst (xs.map enc)])[c.length]? = some (.lst (xs.map enc)) := cell_last _
  have hs3 : seqOf v (c ++ [Cell.lst (xs.map enc)]) = some (xs.map enc) := hf _ (Pfx.one c _)
  generalize c ++ [Cell.lst (xs.map enc)] = c3 at b3 G3 g3 hs3
  refine os_ret (lc_r1 (ok_acons (ok_cb (ok_acons (ok_var rfl (ok_anil (Ok.of (len_seq hs3) (ok_anil ⟨xs.length, by rw [List.length_map], by omega, ?_⟩))))))))
  refine comp_ok (fun rest acc c2 => ∃ left found : List α, acc = found.map enc ∧ left.length = rest.length ∧ found.length + rest.length = xs.length ∧ (found ++ left).Perm xs ∧ c2[c.length]? = some (.lst (left.map enc)) ∧ Bx c2 k (n + found.length) ∧ Gr k c c2) ?_ ?_ _ _ _ ⟨xs, [], rfl, by simp, by simp, by simp, g3, bx_mono b3 (by simp), G3⟩
  · rintro acc c2 ⟨left, found, rfl, h1, h2, h3, h5, h6, h7⟩
    rw [List.length_nil] at h1 h2
    have hl0 : left = [] := List.length_eq_zero_iff.mp h1
    subst hl0
    rw [List.append_nil] at h3
    exact q found c2 h3 (bx_mono h6 (by omega)) h7
  · rintro d rest acc c2 ⟨left, found, rfl, h1, h2, h3, h5, h6, h7⟩
    rw [List.length_cons] at h1 h2
    refine ok_gn ⟨true, _, rfl, ?_⟩
    refine ok_bm (ok_var rfl ⟨isL_ref h5, ok_acons (ok_cb (ok_acons (ok_var rfl (ok_acons (ok_cb (ok_acons (ok_var rfl (ok_anil (Ok.of (len_seq (xs := left.map enc) (by simp [seqOf, h5])) (ok_anil ?_))))))))))⟩)
    rw [List.length_map]
    refine take_gr h6 (by omega) (by omega) (by omega) fun i c4 i0 i1 b4 g4 l4 => ok_anil ?_
    refine popAtP (g4.get (by omega) h5) i0 i1 (by omega) fun x left2 hp => ?_
    have hlp := hp.length_eq
    rw [List.length_cons] at hlp
    refine ⟨by rw [List.length_map]; omega, left2, found ++ [x], by rw [List.map_append]; rfl, by omega, by rw [List.length_append, List.length_singleton]; omega, ?_, ?_, bx_set (bx_mono b4 (by rw [List.length_append, List.length_singleton]; omega)) (by omega) _, (h7.trans g4).set (Nat.le_refl _) _⟩
    · rw [List.append_assoc]
      exact (List.Perm.append_left found hp).trans h3
    · rw [List.getElem?_set_self (List.getElem?_eq_some_iff.mp (g4.get (by omega) h5)).1]
def IsG (x : D) (ns : List Int) : Prop := x = .lst (ns.map D.int) ∨ x = .tup (ns.map D.int)
theorem IsG.seq {x : D} {ns : List Int} (h : IsG x ns) (c : Cs) : seqOf x c = some (ns.map D.int) := by
  rcases h with h | h <;> subst h <;> rfl
theorem IsG.vt {x : D} {c : Cs} {ns : List Int} (h : IsG x ns) (h8 : ns.length ≤ 8) : VT x c := by
  refine .inl ⟨ns.map D.int, h.seq c, ?_, by rw [List.length_map]; omega, fun d hd => ?_, ?_⟩
  · rcases h with h | h <;> subst h
    · exact .inl rfl
    · exact .inr rfl
  · obtain ⟨z, _, rfl⟩ := List.mem_map.mp hd
    exact ⟨"int", rfl, fun e => by simp at e⟩
  · rcases h with h | h <;> subst h
    · exact fun _ => nofun
    · exact fun _ => nofun
theorem IsG.ints {x : D} {c : Cs} {ns : List Int} (h : IsG x ns) : intsV x c = ns := by
  unfold intsV
  rw [h.seq]
  simp only [intsOf_map, Option.getD_some]
theorem IsG.il {x : D} {c : Cs} {ns : List Int} (h : IsG x ns) (h1 : 1 ≤ ns.length) (h8 : ns.length ≤ 8) : ilB x c = true := by
  unfold ilB
  rw [h.seq]
  simp only [ilX, List.length_map, Bool.and_eq_true, decide_eq_true_eq]
  refine ⟨⟨h1, h8⟩, List.all_eq_true.mpr fun d hd => ?_⟩
  obtain ⟨z, _, rfl⟩ := List.mem_map.mp hd
  rfl
theorem verdG {T : Bool → List Int} {x y : D} {c : Cs} (hS : ST T 0) (hx : IsG x (T false)) (hy : IsG y (T true)) : verd x y c = .fine := by
  have rg : ∀ b, rgB (T b) (T (!b)).length = true := fun b => List.all_eq_true.mpr fun z hz => by
    have := hS.bd b z hz
    simp only [Bool.and_eq_true, decide_eq_true_eq]
    omega
  have h1 := rg false
  have h2 := rg true
  simp only [Bool.not_false, Bool.not_true] at h1 h2
  unfold verd
  rw [hx.il (hS.l1 _) (hS.l8 _), hy.il (hS.l1 _) (hS.l8 _), hx.ints, hy.ints, h1, h2]
  simp only [Bool.true_eq_false, if_false]
  rw [if_pos (by have := hS.tot; omega)]
theorem smakeG {T : Bool → List Int} {x y : D} {c : Cs} {Q : D → Cs → Prop} (hS : ST T 0) (hx : IsG x (T false)) (hy : IsG y (T true)) (q : ∀ kd c', Pfx c c' → Kp T kd c' → Q (scoD kd) c') : Ok ((mkR "Scores" gScores____init__ [x, y] c).bind fun d c1 => frzI d c1) Q := by
  have hx1 := hx
  have hy1 := hy
  have e := init_eq (v := x) (w := y) (k := c.length) (c := c ++ [.ins "Scores" []]) (hx1.vt (hS.l8 _)) (hy1.vt (hS.l8 _)) (cell_last _)
  rw [verdG hS hx1 hy1] at e
  have e : gScores____init__ [.ref c.length, x, y] (c ++ [.ins "Scores" []]) = .ok .non (((c ++ [Cell.ins "Scores" []]) ++ [keptS (intsV x (c ++ [Cell.ins "Scores" []])) (intsV y (c ++ [Cell.ins "Scores" []]))]).set c.length (.ins "Scores" [("kept_scores", .ref (c ++ [Cell.ins "Scores" []]).length)])) := e
  rw [hx1.ints, hy1.ints] at e
  generalize gScores____init__ = F at e ⊢
  have hl : (c ++ [Cell.ins "Scores" []]).length = c.length + 1 := by simp
  rw [hl] at e
  generalize hkp : keptS (T false) (T true) = kp at e
  have s0 : ∀ z, ((c ++ [Cell.ins "Scores" []]) ++ [kp]).set c.length z = (c ++ [z]) ++ [kp] := fun z => by
    rw [List.set_append_left _ _ (by simp), set_last]
  have s1 : ∀ z z2, ((c ++ [z]) ++ [kp]).set c.length z2 = (c ++ [z2]) ++ [kp] := fun z z2 => by
    rw [List.set_append_left _ _ (by simp), set_last]
  have g0 : ∀ z : Cell, ((c ++ [z]) ++ [kp])[c.length]? = some z := fun z => by
    rw [List.getElem?_append_left (by simp), cell_last]
  rw [s0] at e
  have e2 : mkR "Scores" F [x, y] c = .ok (.ref c.length) ((c ++ [.ins "Scores" [("kept_scores", .ref (c.length + 1))]]) ++ [kp]) := by unfold mkR; rw [e]; rfl
  have e3 : frzI (.ref c.length) ((c ++ [.ins "Scores" [("kept_scores", .ref (c.length + 1))]]) ++ [kp]) = .ok (scoD (c.length + 1)) ((c ++ [.frz (scoD (c.length + 1))]) ++ [kp]) := by
    show (match ((c ++ [Cell.ins "Scores" [("kept_scores", .ref (c.length + 1))]]) ++ [kp])[c.length]? with
      | some (.ins n fs) => (.ok (.obj n fs) (((c ++ [Cell.ins "Scores" [("kept_scores", .ref (c.length + 1))]]) ++ [kp]).set c.length (.frz (.obj n fs))) : Mi.R D)
      | _ => .stuck) = _
    rw [g0]
    show Mi.R.ok _ (((c ++ [_]) ++ [kp]).set c.length _) = _
    rw [s1]
    rfl
  rw [e2]
  refine Ok.of e3 (q _ _ ((Pfx.one c _).trans (Pfx.one _ _)) ⟨?_⟩)
  rw [List.getElem?_append_right (by simp), hkp]
  simp
theorem ok_makeG {T : Bool → List Int} {t : MA} {l : Ls} {c : Cs} {Q : D → Cs → Prop} (h : Ok (t l c) fun xs c1 => ∃ x y, xs = [x, y] ∧ ST T 0 ∧ IsG x (T false) ∧ IsG y (T true) ∧ ∀ kd c', Pfx c1 c' → Kp T kd c' → Q (scoD kd) c') : Ok (mFrzI (mMake "Scores" gScores____init__ t) l c) Q := by
  obtain ⟨xs, c1, e, x, y, rfl, hS, hx, hy, q⟩ := h
  unfold mFrzI mMake
  rw [e]
  exact smakeG hS hx hy q
theorem Kp.gr {k : Nat} {T : Bool → List Int} {kd : Nat} {c c' : Cs} {n : Int} (h : Kp T kd c) (hb : Bx c k n) (g : Gr k c c') : Kp T kd c' := by
  obtain ⟨a, b, z, hc, _⟩ := hb
  refine ⟨g.get (fun e => ?_) h.at_⟩
  subst e
  have := h.at_
  rw [hc] at this
  cases this
def bts : Nat → List (List Nat)
  | 0 => [[]]
  | n + 1 => (bts n).flatMap fun l => [l ++ [48], l ++ [49]]
def txs (n : Nat) : List Str := (bts n).map mkS
theorem flat_two {α β : Type} (f g : α → β) : ∀ l : List α, (l.flatMap fun x => [f x, g x]).length = l.length * 2
  | [] => rfl
  | x :: l => by
    have := flat_two f g l
    rw [List.flatMap_cons, List.length_append, this, List.length_cons, List.length_cons, List.length_cons, List.length_nil]
    omega
theorem bts_len : ∀ n, (bts n).length = 2 ^ n
  | 0 => rfl
  | n + 1 => by
    unfold bts
    rw [flat_two, bts_len n, Nat.pow_succ]
theorem mem_bts : ∀ {n : Nat} {l : List Nat}, l ∈ bts n ↔ l.length = n ∧ ∀ k ∈ l, k = 48 ∨ k = 49
  | 0, l => by
    constructor
    · intro h
      rw [List.mem_singleton.mp h]
      exact ⟨rfl, nofun⟩
    · intro h
      rw [List.length_eq_zero_iff.mp h.1]
      exact List.mem_singleton.mpr rfl
  | n + 1, l => by
    unfold bts
    rw [List.mem_flatMap]
    constructor
    · rintro ⟨p, hp, hl⟩
      obtain ⟨h1, h2⟩ := mem_bts.mp hp
      have fin : ∀ k : Nat, (k = 48 ∨ k = 49) → l = p ++ [k] → l.length = n + 1 ∧ ∀ k ∈ l, k = 48 ∨ k = 49 := by
        rintro k hk rfl
        refine ⟨by rw [List.length_append, h1]; rfl, fun j hj => ?_⟩
        rcases List.mem_append.mp hj with q | q
        · exact h2 j q
        · rw [List.mem_singleton.mp q]; exact hk
      rcases List.mem_cons.mp hl with e | e
      · exact fin 48 (.inl rfl) e
      · exact fin 49 (.inr rfl) (List.mem_singleton.mp e)
    · rintro ⟨h1, h2⟩
      obtain ⟨p, k, e⟩ : ∃ p k, l = p ++ [k] := by
        cases q : l.getLast? with
        | none => rw [List.getLast?_eq_none_iff.mp q] at h1; cases h1
        | some k => exact ⟨l.dropLast, k, dl_snoc q⟩
      subst e
      rw [List.length_append] at h1
      have h1 : p.length + 1 = n + 1 := h1
      refine ⟨p, mem_bts.mpr ⟨by omega, fun j hj => h2 j (List.mem_append_left _ hj)⟩, ?_⟩
      rcases h2 k (List.mem_append_right _ (List.mem_singleton.mpr rfl)) with rfl | rfl
      · exact List.mem_cons_self
      · exact List.mem_cons_of_mem _ (List.mem_singleton.mpr rfl)
theorem mem_txs {n : Nat} {y : Str} : y ∈ txs n ↔ y.length = n ∧ bitS y := by
  unfold txs
  constructor
  · intro h
    obtain ⟨l, hl, rfl⟩ := List.mem_map.mp h
    obtain ⟨h1, h2⟩ := mem_bts.mp hl
    refine ⟨by rw [← len_cps, mkS_cps]; exact h1, ?_⟩
    unfold bitS
    rw [mkS_cps]
    refine List.all_eq_true.mpr fun k hk => ?_
    rcases h2 k hk with rfl | rfl <;> rfl
  · rintro ⟨h1, h2⟩
    refine List.mem_map.mpr ⟨y.cps.toList, mem_bts.mpr ⟨by rw [len_cps]; exact h1, fun k hk => ?_⟩, mkS_of y⟩
    have := List.all_eq_true.mp h2 k hk
    unfold bitB at this
    simpa using this
def oneK (k : Nat) : Int := if k = 49 then 1 else 0
def restL (ls : List Int) (y : Str) : List Int := List.zipWith (fun a k => a - oneK k) ls y.cps.toList
theorem rest_len {ls : List Int} {y : Str} (h : y.length = ls.length) : (restL ls y).length = ls.length := by
  unfold restL
  rw [List.length_zipWith, len_cps, h, Nat.min_self]
theorem rest_at {ls : List Int} {y : Str} (h : y.length = ls.length) {i : Nat} (hi : i < ls.length) : (restL ls y).getD i 0 = ls.getD i 0 - oneK (y.cps.toList.getD i 0) := by
  have h2 : i < y.cps.toList.length := by rw [len_cps, h]; exact hi
  unfold restL
  rw [List.getD_eq_getElem?_getD, List.getElem?_zipWith, List.getD_eq_getElem?_getD, List.getD_eq_getElem?_getD, List.getElem?_eq_getElem hi, List.getElem?_eq_getElem h2]
  rfl
theorem oneK_nn (k : Nat) : 0 ≤ oneK k := by
  unfold oneK
  split <;> decide
theorem mkS_add (a b : List Nat) : mkS a ++ mkS b = mkS (a ++ b) := by
  show Str.mk (a.toArray ++ b.toArray) = Str.mk (a ++ b).toArray
  simp
theorem mkS_snoc0 (l : List Nat) : mkS l ++ "0" = mkS (l ++ [48]) := by
  have e : ("0" : Str) = mkS [48] := by decide +kernel
  rw [e]
  exact mkS_add l [48]
theorem mkS_snoc1 (l : List Nat) : mkS l ++ "1" = mkS (l ++ [49]) := by
  have e : ("1" : Str) = mkS [49] := by decide +kernel
  rw [e]
  exact mkS_add l [49]
theorem mkS_length (l : List Nat) : (mkS l).length = l.length := by rw [← len_cps, mkS_cps]
def twoD (l : List Nat) : List D := [D.str (mkS (l ++ [48])), D.str (mkS (l ++ [49]))]
theorem twoD_bts (n : Nat) : (bts n).flatMap twoD = (bts (n + 1)).map fun l => D.str (mkS l) := by
  have e : bts (n + 1) = (bts n).flatMap fun l => [l ++ [48], l ++ [49]] := rfl
  rw [e, List.map_flatMap]
  rfl
theorem texts_ok {n : Nat} {c : Cs} {Q : D → Cs → Prop} (hn : n ≤ 8) (q : ∀ c', Pfx c c' → Q (.lst ((txs n).map D.str)) c') : Ok (g_law_texts [.int (n : Nat)] c) Q := by
  have hz : sizeLine = 16777216 := sizeLine_eq
  refine Ok.fun rfl ?_
  unfold c_law_texts
  refine os_seq (os_set (ok_lst (ok_acons (ok_c (ok_anil ⟨Nat.le_of_ble_eq_true rfl, ?_⟩)))))
  refine os_seq (os_forN n (fun i l c' => ∃ o2 o3 o4, l = [some (.int (n : Nat)), some (.lst ((bts i).map fun l => D.str (mkS l))), o2, o3, o4] ∧ Pfx c c') (by omega) (ok_acons (ok_var rfl (ok_anil ⟨rfl, rfl⟩))) ⟨_, _, _, rfl, Pfx.refl c⟩ ?_ ?_)
  · rintro l c' ⟨o2, o3, o4, rfl, p⟩
    refine os_ret (ok_var rfl ?_)
    have := q c' p
    unfold txs at this
    rw [List.map_map] at this
    exact this
  · rintro i l c' hi ⟨o2, o3, o4, rfl, p⟩
    refine ⟨_, _, rfl, ?_⟩
    refine os_seq (os_set (ok_lstM (ok_anil ⟨Nat.zero_le _, ?_⟩)))
    have p3 := p.trans (Pfx.one c' [Cell.lst []])
    have g3 : (c' ++ [Cell.lst []])[c'.length]? = some (.lst []) := cell_last _
    have hlf : c.length ≤ c'.length := p.len
    generalize c' ++ [Cell.lst []] = c3 at p3 g3
    generalize c'.length = f at g3 hlf
    have hb8 : (bts i).length ≤ 256 := by
      rw [bts_len]
      exact Nat.le_trans (Nat.pow_le_pow_right (by decide) (show i ≤ 8 by omega)) (by decide)
    refine os_seq (os_forX (bts i) (fun l => D.str (mkS l)) (fun rest l c4 => ∃ dn o4, bts i = dn ++ rest ∧ l = [some (.int (n : Nat)), some (.lst ((bts i).map fun l => D.str (mkS l))), some (.int (i : Nat)), some (.ref f), o4] ∧ c4[f]? = some (.lst (dn.flatMap twoD)) ∧ Pfx c c4)
      (by omega) (ok_var rfl ⟨rfl, [], _, rfl, rfl, g3, p3⟩) ?_ ?_)
    · rintro l c4 ⟨dn, o4, e, rfl, g4, p4⟩
      rw [List.append_nil] at e
      subst e
      refine os_set (ok_frz (ok_var rfl ⟨f, _, rfl, g4, ?_⟩))
      rw [twoD_bts]
      exact ⟨_, _, _, rfl, pfx_set p4 hlf _⟩
    · rintro x rest l c4 ⟨dn, o4, e, rfl, g4, p4⟩
      have hx : x ∈ bts i := by rw [e]; exact List.mem_append_right _ List.mem_cons_self
      have hxl := (mem_bts.mp hx).1
      have hl1 : ("0" : Str).length = 1 := rfl
      have hl2 : ("1" : Str).length = 1 := rfl
      have hdl : (dn.flatMap twoD).length = dn.length * 2 := flat_two _ _ dn
      have hdn : dn.length ≤ (bts i).length := by rw [e, List.length_append]; omega
      refine ⟨_, _, rfl, ?_⟩
      refine os_expr (ok_bm (ok_var rfl ⟨isL_ref g4, ok_acons (ok_lst (ok_acons (ok_op (ok_var rfl (ok_c (ok_add_str (by rw [mkS_length]; omega) (ok_acons (ok_op (ok_var rfl (ok_c (ok_add_str (by rw [mkS_length]; omega) (ok_anil ⟨Nat.le_of_ble_eq_true rfl, ok_anil ?_⟩))))))))))))⟩))
      rw [mkS_snoc0, mkS_snoc1]
      refine ok_extend g4 (zs := twoD x) rfl (by rw [hdl]; show _ + 2 ≤ _; omega) ?_
      refine ⟨dn ++ [x], _, by rw [List.append_assoc]; exact e, rfl, ?_, pfx_set p4 hlf _⟩
      rw [List.getElem?_set_self (List.getElem?_eq_some_iff.mp g4).1, List.flatMap_append]
      simp
theorem zip_rest : ∀ (ls : List Int) (ks : List Nat), List.zipWith (fun a b => D.tup [a, b]) (ls.map D.int) (ks.map fun k => D.str ⟨#[k]⟩) = (ls.zip ks).map fun p => D.tup [.int p.1, .str ⟨#[p.2]⟩]
  | [], _ => by simp
  | a :: ls, [] => by simp
  | a :: ls, k :: ks => by
    have := zip_rest ls ks
    rw [List.map_cons, List.map_cons, List.zipWith_cons_cons, this]
    rfl
theorem zip_sub : ∀ (ls : List Int) (ks : List Nat), (ls.zip ks).map (fun p => D.int (p.1 - oneK p.2)) = (List.zipWith (fun a k => a - oneK k) ls ks).map D.int
  | [], _ => by simp
  | a :: ls, [] => by simp
  | a :: ls, k :: ks => by
    have := zip_sub ls ks
    rw [List.zip_cons_cons, List.map_cons, this, List.zipWith_cons_cons, List.map_cons]
abbrev Vec := List Int
theorem comp_fil {α : Type} {enc F : α → D} {P : α → Bool} {g : MG} {t : MT} {e : ME} {lw : Ls} {c : Cs} {Q : List D → Cs → Prop} (xs : List α) (hl : xs.length ≤ 1000000)
    (h : ∀ a ∈ xs, ∀ c', Pfx c c' → Ok (g (enc a) lw c') fun l1 c1 => Ok (t l1 c1) fun k c2 => Pfx c c2 ∧ k = P a ∧ (P a = true → Ok (e l1 c2) fun d c3 => d = F a ∧ Pfx c c3)) (q : ∀ c', Pfx c c' → Q ((xs.filter P).map F) c') : Ok (compD g t e lw (xs.map enc) [] c) Q := by
  have hz : sizeLine = 16777216 := sizeLine_eq
  refine comp_ok (fun rest acc c' => ∃ dn rs, xs = dn ++ rs ∧ rest = rs.map enc ∧ acc = (dn.filter P).map F ∧ Pfx c c') ?_ ?_ _ _ _ ⟨[], xs, rfl, rfl, rfl, Pfx.refl c⟩
  · rintro acc c' ⟨dn, rs, e1, e2, rfl, p⟩
    rw [List.map_eq_nil_iff.mp e2.symm, List.append_nil] at e1
    subst e1
    exact q c' p
  · rintro d rest acc c' ⟨dn, rs, e1, e2, rfl, p⟩
    cases rs with
    | nil => cases e2
    | cons a rs =>
      obtain ⟨rfl, rfl⟩ := List.cons.inj e2
      have ha : a ∈ xs := by rw [e1]; exact List.mem_append_right _ List.mem_cons_self
      refine (h a ha c' p).mono fun l1 c1 h1 => h1.mono fun k c2 ⟨p2, hk, h2⟩ => ?_
      have el : dn.length ≤ xs.length := by rw [e1, List.length_append]; omega
      have ef := List.length_filter_le P dn
      cases k with
      | true =>
        refine (h2 hk.symm).mono fun d c3 ⟨hd, p3⟩ => ⟨by rw [List.length_map]; omega, dn ++ [a], rs, by rw [List.append_assoc]; exact e1, rfl, ?_, p3⟩
        rw [List.filter_append, List.filter_cons_of_pos hk.symm, List.map_append, hd]
        rfl
      | false =>
        refine ⟨dn ++ [a], rs, by rw [List.append_assoc]; exact e1, rfl, ?_, p2⟩
        rw [List.filter_append, List.filter_cons_of_neg (by rw [← hk]; decide), List.filter_nil, List.append_nil]
def vecD (v : Vec) : D := .tup (v.map D.int)
def vkey (v : Vec) : List Key := v.map Sum.inl
theorem intsK_map : ∀ v : Vec, intsK (v.map D.int) = some (vkey v)
  | [] => rfl
  | x :: v => by
    show (intsK (v.map D.int)).map (fun ks => (Sum.inl x :: ks : List Key)) = _
    rw [intsK_map v]
    rfl
theorem keyT_vec {v : Vec} (h : 1 ≤ v.length) : keyT (vecD v) = some (vkey v) := by
  cases v with
  | nil => cases h
  | cons x v =>
    show (intsK (v.map D.int)).map (fun ks => (Sum.inl x :: ks : List Key)) = _
    rw [intsK_map v]
    rfl
theorem vkey_inj : ∀ {a b : Vec}, vkey a = vkey b → a = b
  | [], [], _ => rfl
  | [], _ :: _, h => by cases h
  | _ :: _, [], h => by cases h
  | x :: a, y :: b, h => by
    obtain ⟨h1, h2⟩ := List.cons.inj h
    rw [Sum.inl.inj h1, vkey_inj h2]
theorem keyDT_vec (v : Vec) : keyDT (vkey v) = vecD v := by
  unfold keyDT vkey vecD
  rw [List.map_map]
  rfl
theorem zeros_vec : ∀ n : Nat, D.tup (List.replicate n [D.int 0]).flatten = vecD (List.replicate n 0)
  | 0 => rfl
  | n + 1 => by
    have := zeros_vec n
    unfold vecD at this ⊢
    have := D.tup.inj this
    rw [List.replicate_succ, List.flatten_cons, this, List.replicate_succ]
    rfl

end

/-! ### rows filled one by one: how many ways, by what the columns lack -/
/-- over all rows of zeros and ones: what is left, and the number of zeros -/
def gSm : List Int → (List Int → Nat → Int) → Int
  | [], f => f [] 0
  | x :: l, f => gSm l (fun r z => f ((x - 0) :: r) (z + 1)) + gSm l (fun r z => f ((x - 1) :: r) z)
/-- what is left is as much or one less -/
def RL : List Int → List Int → Prop
  | [], [] => True
  | x :: l, y :: r => (y = x - 0 ∨ y = x - 1) ∧ RL l r
  | _, _ => False
theorem gSm_congr : ∀ {l : List Int} {f g : List Int → Nat → Int}, (∀ r z, RL l r → f r z = g r z) → gSm l f = gSm l g
  | [], f, g, h => h [] 0 trivial
  | x :: l, f, g, h => by
    show gSm l _ + gSm l _ = gSm l _ + gSm l _
    rw [gSm_congr (l := l) (f := fun r z => f ((x - 0) :: r) (z + 1)) (g := fun r z => g ((x - 0) :: r) (z + 1)) fun r z hr => h _ _ ⟨.inl rfl, hr⟩,
      gSm_congr (l := l) (f := fun r z => f ((x - 1) :: r) z) (g := fun r z => g ((x - 1) :: r) z) fun r z hr => h _ _ ⟨.inr rfl, hr⟩]
theorem gSm_add : ∀ {l : List Int} {f g : List Int → Nat → Int}, gSm l (fun r z => f r z + g r z) = gSm l f + gSm l g
  | [], f, g => rfl
  | x :: l, f, g => by
    show gSm l (fun r z => f ((x - 0) :: r) (z + 1) + g ((x - 0) :: r) (z + 1)) + gSm l (fun r z => f ((x - 1) :: r) z + g ((x - 1) :: r) z) = gSm l (fun r z => f ((x - 0) :: r) (z + 1)) + gSm l (fun r z => f ((x - 1) :: r) z) + (gSm l (fun r z => g ((x - 0) :: r) (z + 1)) + gSm l (fun r z => g ((x - 1) :: r) z))
    have e1 := gSm_add (l := l) (f := fun r z => f ((x - 0) :: r) (z + 1)) (g := fun r z => g ((x - 0) :: r) (z + 1))
    have e2 := gSm_add (l := l) (f := fun r z => f ((x - 1) :: r) z) (g := fun r z => g ((x - 1) :: r) z)
    rw [e1, e2]
    omega
theorem gSm_zero : ∀ {l : List Int}, gSm l (fun _ _ => 0) = 0
  | [] => rfl
  | x :: l => by
    show gSm l _ + gSm l _ = 0
    rw [gSm_zero]
    rfl
theorem gSm_snoc : ∀ {l : List Int} {x : Int} {f : List Int → Nat → Int}, gSm (l ++ [x]) f = gSm l (fun r z => f (r ++ [x - 0]) (z + 1) + f (r ++ [x - 1]) z)
  | [], x, f => rfl
  | y :: l, x, f => by
    show gSm (l ++ [x]) _ + gSm (l ++ [x]) _ = gSm l _ + gSm l _
    rw [gSm_snoc, gSm_snoc]
    rfl
theorem gSm_perm {l l' : List Int} (p : l.Perm l') : ∀ {f : List Int → Nat → Int}, (∀ r r' z, r.Perm r' → f r z = f r' z) → gSm l f = gSm l' f := by
  induction p with
  | nil => exact fun _ => rfl
  | cons x p ih =>
    intro f h
    have e1 := ih (f := fun r z => f ((x - 0) :: r) (z + 1)) fun r r' z q => h _ _ _ (q.cons _)
    have e2 := ih (f := fun r z => f ((x - 1) :: r) z) fun r r' z q => h _ _ _ (q.cons _)
    show gSm _ (fun r z => f ((x - 0) :: r) (z + 1)) + gSm _ (fun r z => f ((x - 1) :: r) z) = _
    rw [e1, e2]
    rfl
  | swap x y l =>
    intro f h
    have e : ∀ a b k, gSm l (fun r z => f ((y - a) :: (x - b) :: r) (z + k)) = gSm l (fun r z => f ((x - b) :: (y - a) :: r) (z + k)) := fun a b k => gSm_congr fun r z _ => h _ _ _ (.swap _ _ _)
    have e00 := e 0 0 2
    have e01 := e 0 1 1
    have e10 := e 1 0 1
    have e11 := e 1 1 0
    show gSm l (fun r z => f ((y - 0) :: (x - 0) :: r) (z + 2)) + gSm l (fun r z => f ((y - 0) :: (x - 1) :: r) (z + 1)) + (gSm l (fun r z => f ((y - 1) :: (x - 0) :: r) (z + 1)) + gSm l (fun r z => f ((y - 1) :: (x - 1) :: r) (z + 0)))
      = gSm l (fun r z => f ((x - 0) :: (y - 0) :: r) (z + 2)) + gSm l (fun r z => f ((x - 0) :: (y - 1) :: r) (z + 1)) + (gSm l (fun r z => f ((x - 1) :: (y - 0) :: r) (z + 1)) + gSm l (fun r z => f ((x - 1) :: (y - 1) :: r) (z + 0)))
    rw [e00, e01, e10, e11]
    omega
  | trans p q ih1 ih2 =>
    intro f h
    rw [ih1 h, ih2 h]
/-- the ways to fill rows with so many zeros -/
def wyN : List Int → List Int → Int
  | [], l => if l.all (fun x => x == 0) = true then 1 else 0
  | j :: js, l => gSm l fun r z => if (z : Int) = j then wyN js r else 0
theorem wyN_perm : ∀ {js l l' : List Int}, l.Perm l' → wyN js l = wyN js l'
  | [], l, l', p => by
    have e : l.all (fun x => x == 0) = l'.all (fun x => x == 0) := by
      rw [Bool.eq_iff_iff, List.all_eq_true, List.all_eq_true]
      exact ⟨fun h x hx => h x (p.mem_iff.mpr hx), fun h x hx => h x (p.mem_iff.mp hx)⟩
    unfold wyN
    rw [e]
  | j :: js, l, l', p => by
    unfold wyN
    refine gSm_perm p fun r r' z q => ?_
    rw [wyN_perm q]
theorem rl_neg : ∀ {l r : List Int}, RL l r → (∃ x ∈ l, x < 0) → ∃ x ∈ r, x < 0
  | [], [], _, ⟨_, h, _⟩ => absurd h List.not_mem_nil
  | [], _ :: _, h, _ => h.elim
  | _ :: _, [], h, _ => h.elim
  | x :: l, y :: r, ⟨h1, h2⟩, ⟨v, hv, hn⟩ => by
    rcases List.mem_cons.mp hv with rfl | hv
    · exact ⟨y, List.mem_cons_self, by omega⟩
    · obtain ⟨u, a, b⟩ := rl_neg h2 ⟨v, hv, hn⟩
      exact ⟨u, List.mem_cons_of_mem _ a, b⟩
theorem rl_big {n : Int} : ∀ {l r : List Int}, RL l r → (∃ x ∈ l, n + 1 < x) → ∃ x ∈ r, n < x
  | [], [], _, ⟨_, h, _⟩ => absurd h List.not_mem_nil
  | [], _ :: _, h, _ => h.elim
  | _ :: _, [], h, _ => h.elim
  | x :: l, y :: r, ⟨h1, h2⟩, ⟨v, hv, hn⟩ => by
    rcases List.mem_cons.mp hv with rfl | hv
    · exact ⟨y, List.mem_cons_self, by omega⟩
    · obtain ⟨u, a, b⟩ := rl_big h2 ⟨v, hv, hn⟩
      exact ⟨u, List.mem_cons_of_mem _ a, b⟩
theorem wyN_neg : ∀ {js l : List Int}, (∃ x ∈ l, x < 0) → wyN js l = 0
  | [], l, ⟨x, hx, hn⟩ => by
    unfold wyN
    rw [if_neg]
    intro h
    have := List.all_eq_true.mp h x hx
    have := eq_of_beq this
    omega
  | j :: js, l, h => by
    unfold wyN
    refine (gSm_congr (g := fun _ _ => 0) fun r z hr => ?_).trans gSm_zero
    rw [wyN_neg (rl_neg hr h)]
    split <;> rfl
theorem wyN_big : ∀ {js l : List Int}, (∃ x ∈ l, (js.length : Int) < x) → wyN js l = 0
  | [], l, ⟨x, hx, hn⟩ => by
    unfold wyN
    rw [if_neg]
    intro h
    have := List.all_eq_true.mp h x hx
    have := eq_of_beq this
    have hn : (0 : Int) < x := hn
    omega
  | j :: js, l, ⟨x, hx, hn⟩ => by
    unfold wyN
    refine (gSm_congr (g := fun _ _ => 0) fun r z hr => ?_).trans gSm_zero
    have hn : ((js.length + 1 : Nat) : Int) < x := hn
    rw [wyN_big (rl_big (n := js.length) hr ⟨x, hx, by omega⟩)]
    split <;> rfl

/-! rows in another order -/
theorem gSm_two : ∀ {l : List Int} {F : List Int → Nat → Nat → Int}, gSm l (fun r z => gSm r fun s y => F s z y) = gSm l (fun r z => gSm r fun s y => F s y z)
  | [], F => rfl
  | x :: l, F => by
    have e : ∀ (G : List Int → Nat → Nat → Int), gSm (x :: l) (fun r z => gSm r fun s y => G s z y)
        = gSm l (fun r z => gSm r fun s y => G ((x - 0 - 0) :: s) (z + 1) (y + 1)) + gSm l (fun r z => gSm r fun s y => G ((x - 0 - 1) :: s) (z + 1) y)
          + (gSm l (fun r z => gSm r fun s y => G ((x - 1 - 0) :: s) z (y + 1)) + gSm l (fun r z => gSm r fun s y => G ((x - 1 - 1) :: s) z y)) := fun G => by
      rw [← gSm_add, ← gSm_add]
      rfl
    rw [e F, e fun s z y => F s y z]
    have i00 := gSm_two (l := l) (F := fun s z y => F ((x - 0 - 0) :: s) (z + 1) (y + 1))
    have i01 := gSm_two (l := l) (F := fun s z y => F ((x - 0 - 1) :: s) (z + 1) y)
    have i10 := gSm_two (l := l) (F := fun s z y => F ((x - 1 - 0) :: s) z (y + 1))
    have i11 := gSm_two (l := l) (F := fun s z y => F ((x - 1 - 1) :: s) z y)
    have c : x - 0 - 1 = x - 1 - 0 := by omega
    rw [c] at i01 ⊢
    rw [i00, i01, i10, i11]
    omega
theorem wyN_swap {a b : Int} {js l : List Int} : wyN (a :: b :: js) l = wyN (b :: a :: js) l := by
  have e : ∀ a b : Int, wyN (a :: b :: js) l = gSm l (fun r z => gSm r fun s y => if (z : Int) = a ∧ (y : Int) = b then wyN js s else 0) := fun a b => by
    show gSm l (fun r z => if (z : Int) = a then gSm r (fun s y => if (y : Int) = b then wyN js s else 0) else 0) = _
    refine gSm_congr fun r z _ => ?_
    by_cases h : (z : Int) = a
    · rw [if_pos h]
      refine gSm_congr fun s y _ => ?_
      by_cases g : (y : Int) = b
      · rw [if_pos g, if_pos ⟨h, g⟩]
      · rw [if_neg g, if_neg fun q => g q.2]
    · rw [if_neg h]
      refine Eq.symm ((gSm_congr (g := fun _ _ => 0) fun s y _ => ?_).trans gSm_zero)
      exact if_neg fun q => h q.1
  rw [e a b, e b a, gSm_two]
  refine gSm_congr fun r z _ => gSm_congr fun s y _ => ?_
  by_cases h : (z : Int) = b <;> by_cases g : (y : Int) = a <;> simp [h, g]
theorem wyN_permJ {js js' : List Int} (p : js.Perm js') : ∀ l, wyN js l = wyN js' l := by
  induction p with
  | nil => exact fun _ => rfl
  | cons x p ih =>
    intro l
    show gSm l _ = gSm l _
    refine gSm_congr fun r z _ => ?_
    rw [ih r]
  | swap x y js => exact fun l => wyN_swap
  | trans p q h1 h2 => exact fun l => (h1 l).trans (h2 l)
/-! .. as sums over the texts -/
def zN (p : List Nat) : Nat := p.countP fun k => k == 48
theorem sum_two (G : List Nat → Int) : ∀ L : List (List Nat), ((L.flatMap fun p => [p ++ [48], p ++ [49]]).map G).sum = (L.map fun p => G (p ++ [48]) + G (p ++ [49])).sum
  | [] => rfl
  | p :: L => by
    have := sum_two G L
    show _ = (G (p ++ [48]) + G (p ++ [49])) + (L.map fun p => G (p ++ [48]) + G (p ++ [49])).sum
    rw [List.flatMap_cons, List.map_append, List.sum_append, this]
    show G (p ++ [48]) + (G (p ++ [49]) + 0) + _ = _
    omega
theorem bts_sum : ∀ (n : Nat) (l : List Int) (F : List Int → Nat → Int), l.length = n → ((bts n).map fun p => F (List.zipWith (fun a k => a - oneK k) l p) (zN p)).sum = gSm l F
  | 0, l, F, h => by
    have : l = [] := List.length_eq_zero_iff.mp h
    subst this
    show F [] 0 + 0 = F [] 0
    omega
  | n + 1, l, F, h => by
    obtain ⟨l', x, rfl⟩ : ∃ l' x, l = l' ++ [x] := by
      rcases List.eq_nil_or_concat l with rfl | ⟨l', x, rfl⟩
      · cases h
      · exact ⟨l', x, List.concat_eq_append⟩
    have h' : l'.length = n := by
      rw [List.length_append] at h
      exact Nat.succ.inj h
    have e : bts (n + 1) = (bts n).flatMap fun p => [p ++ [48], p ++ [49]] := rfl
    rw [gSm_snoc, ← bts_sum n l' _ h', e, sum_two]
    refine congrArg List.sum (List.map_congr_left fun p hp => ?_)
    have hl : l'.length = p.length := h'.trans (mem_bts.mp hp).1.symm
    have z0 : zN (p ++ [48]) = zN p + 1 := by
      unfold zN
      rw [List.countP_append]
      rfl
    have z1 : zN (p ++ [49]) = zN p := by
      unfold zN
      rw [List.countP_append]
      rfl
    rw [List.zipWith_append hl, List.zipWith_append hl, z0, z1]
    rfl
theorem cnt_zN : ∀ p : List Nat, PyProof.Rows.cnt 48 p = (zN p : Nat)
  | [] => by simp [PyProof.Rows.cnt_nil, zN]
  | k :: p => by
    have ih := cnt_zN p
    rw [PyProof.Rows.cnt_cons, ih]
    unfold zN
    rw [List.countP_cons]
    by_cases h : k = 48
    · simp [h]; omega
    · simp [h]
theorem count_zN (p : List Nat) : Txt.count (mkS p) "0" = (zN p : Nat) := by
  rw [show ("0" : Str) = ⟨#[48]⟩ by decide +kernel, PyProof.Rows.count_cnt, mkS_cps, cnt_zN]
theorem wsum_filter {α : Type} (p : α → Bool) (f : α → Int) : ∀ L : List α, ((L.filter p).map f).sum = (L.map fun x => if p x = true then f x else 0).sum
  | [] => rfl
  | x :: L => by
    have ih := wsum_filter p f L
    rw [List.map_cons, List.sum_cons, ← ih]
    by_cases h : p x = true
    · rw [List.filter_cons_of_pos h, if_pos h]
      rfl
    · rw [List.filter_cons_of_neg h, if_neg h]
      omega
/-- the texts with so many zeros -/
def fitZ (n : Nat) (j : Int) : List Str := (txs n).filter fun y => decide (Txt.count y "0" = j)
theorem wyN_txs {n : Nat} {j : Int} {js l : List Int} (h : l.length = n) : ((fitZ n j).map fun y => wyN js (restL l y)).sum = wyN (j :: js) l := by
  show _ = gSm l fun r z => if (z : Int) = j then wyN js r else 0
  unfold fitZ txs
  rw [wsum_filter, ← bts_sum n l _ h, List.map_map]
  refine congrArg List.sum (List.map_congr_left fun p _ => ?_)
  show (if decide (Txt.count (mkS p) "0" = j) = true then wyN js (restL l (mkS p)) else 0) = if ((zN p : Nat) : Int) = j then _ else _
  rw [count_zN]
  unfold restL
  rw [mkS_cps]
  by_cases q : ((zN p : Nat) : Int) = j
  · rw [if_pos q, decide_eq_true q, if_pos rfl]
  · rw [if_neg q, decide_eq_false q, if_neg (by decide)]
/-- the rows that the package goes on with -/
def inRow (rest : Int) (r : List Int) : Bool := r.all fun x => decide (0 ≤ x) && decide (x ≤ rest)
theorem wyN_inRow {n : Nat} {j : Int} {js l : List Int} (h : l.length = n) : (((fitZ n j).filter fun y => inRow js.length (restL l y)).map fun y => wyN js (restL l y)).sum = wyN (j :: js) l := by
  rw [← wyN_txs h, wsum_filter]
  refine congrArg List.sum (List.map_congr_left fun y _ => ?_)
  by_cases q : inRow js.length (restL l y) = true
  · rw [if_pos q]
  · rw [if_neg q]
    have : ∃ x ∈ restL l y, x < 0 ∨ (js.length : Int) < x := by
      refine Classical.byContradiction fun g => q ?_
      refine List.all_eq_true.mpr fun x hx => ?_
      have : ¬ (x < 0 ∨ (js.length : Int) < x) := fun z => g ⟨x, hx, z⟩
      rw [Bool.and_eq_true, decide_eq_true_eq, decide_eq_true_eq]
      omega
    obtain ⟨x, hx, hn | hb⟩ := this
    · rw [wyN_neg ⟨x, hx, hn⟩]
    · rw [wyN_big ⟨x, hx, hb⟩]
/-! ### the law's count: by what the columns lack, sorted -/
def lkW : List (Vec × Int) → Vec → Option Int
  | [], _ => none
  | e :: L, v => if e.1 = v then some e.2 else lkW L v
def ptW : List (Vec × Int) → Vec → Int → List (Vec × Int)
  | [], v, m => [(v, m)]
  | e :: L, v, m => if e.1 = v then (e.1, m) :: L else e :: ptW L v m
def tW (js : List Int) (L : List (Vec × Int)) : Int := (L.map fun e => e.2 * wyN js e.1).sum
theorem tW_put {js : List Int} {v : Vec} {m : Int} : ∀ {L : List (Vec × Int)}, tW js (ptW L v ((lkW L v).getD 0 + m)) = tW js L + m * wyN js v
  | [] => by
    show (0 + m) * wyN js v + 0 = 0 + m * wyN js v
    rw [Int.zero_add]
    omega
  | e :: L => by
    have ih := tW_put (js := js) (v := v) (m := m) (L := L)
    show tW js (if e.1 = v then (e.1, (if e.1 = v then some e.2 else lkW L v).getD 0 + m) :: L else e :: ptW L v ((if e.1 = v then some e.2 else lkW L v).getD 0 + m)) = e.2 * wyN js e.1 + tW js L + m * wyN js v
    by_cases h : e.1 = v
    · rw [if_pos h, if_pos h]
      show (e.2 + m) * wyN js e.1 + tW js L = _
      rw [Int.add_mul, h]
      omega
    · rw [if_neg h, if_neg h]
      show e.2 * wyN js e.1 + tW js (ptW L v ((lkW L v).getD 0 + m)) = _
      rw [ih]
      omega
theorem ptW_fst {v : Vec} {m : Int} : ∀ {L : List (Vec × Int)}, (ptW L v m).map Prod.fst = if v ∈ L.map Prod.fst then L.map Prod.fst else L.map Prod.fst ++ [v]
  | [] => rfl
  | e :: L => by
    have ih := ptW_fst (v := v) (m := m) (L := L)
    unfold ptW
    by_cases h : e.1 = v
    · rw [if_pos h, if_pos (by rw [List.map_cons, h]; exact List.mem_cons_self)]
      rfl
    · have h2 : ¬ v = e.1 := fun z => h z.symm
      rw [if_neg h, List.map_cons, List.map_cons, ih]
      by_cases g : v ∈ L.map Prod.fst
      · rw [if_pos g, if_pos (List.mem_cons_of_mem _ g)]
      · rw [if_neg g, if_neg fun z => g ((List.mem_cons.mp z).resolve_left h2)]
        rfl
def putW (m : Int) (l : Vec) (acc : List (Vec × Int)) (y : Str) : List (Vec × Int) :=
  let s := sortI (restL l y)
  if 0 ≤ s.getD 0 0 then ptW acc s ((lkW acc s).getD 0 + m) else acc
def rowW (F : List Str) (acc : List (Vec × Int)) (e : Vec × Int) : List (Vec × Int) := F.foldl (putW e.2 e.1) acc
def stepW (F : List Str) (L : List (Vec × Int)) : List (Vec × Int) := L.foldl (rowW F) []
def runW (n : Nat) : List Int → List (Vec × Int) → List (Vec × Int)
  | [], L => L
  | j :: js, L => runW n js (stepW (fitZ n j) L)
theorem tW_putW {js : List Int} {m : Int} {l : Vec} {acc : List (Vec × Int)} {y : Str} (h : 1 ≤ (restL l y).length) : tW js (putW m l acc y) = tW js acc + m * wyN js (restL l y) := by
  have p := sortI_perm (restL l y)
  have e : wyN js (sortI (restL l y)) = wyN js (restL l y) := wyN_perm p
  unfold putW
  dsimp only
  split
  · rw [tW_put, e]
  · rename_i q
    have hl := p.length_eq
    cases hs : sortI (restL l y) with
    | nil => rw [hs] at hl; rw [← hl] at h; cases h
    | cons x s =>
      rw [hs] at q e
      have : wyN js (x :: s) = 0 := wyN_neg ⟨x, List.mem_cons_self, by
        have q : ¬ 0 ≤ x := q
        omega⟩
      rw [← e, this]
      omega
theorem tW_row {js : List Int} {e : Vec × Int} : ∀ {F : List Str} {acc : List (Vec × Int)}, (∀ y ∈ F, 1 ≤ (restL e.1 y).length) → tW js (rowW F acc e) = tW js acc + e.2 * (F.map fun y => wyN js (restL e.1 y)).sum
  | [], acc, _ => by
    show tW js acc = tW js acc + e.2 * 0
    omega
  | y :: F, acc, h => by
    have ih := tW_row (js := js) (e := e) (F := F) (acc := putW e.2 e.1 acc y) fun z hz => h z (List.mem_cons_of_mem _ hz)
    show tW js (rowW F (putW e.2 e.1 acc y) e) = _
    rw [ih, tW_putW (h y List.mem_cons_self), List.map_cons, List.sum_cons, Int.mul_add]
    omega
theorem tW_step {n : Nat} {j : Int} {js : List Int} (h1 : 1 ≤ n) : ∀ {L acc : List (Vec × Int)}, (∀ e ∈ L, e.1.length = n) → tW js (L.foldl (rowW (fitZ n j)) acc) = tW js acc + tW (j :: js) L
  | [], acc, _ => by
    show tW js acc = tW js acc + 0
    omega
  | e :: L, acc, h => by
    have ih := tW_step (j := j) (js := js) h1 (L := L) (acc := rowW (fitZ n j) acc e) fun z hz => h z (List.mem_cons_of_mem _ hz)
    have he := h e List.mem_cons_self
    rw [List.foldl_cons, ih, tW_row fun y hy => by
      rw [rest_len ((mem_txs.mp (List.mem_filter.mp hy).1).1.trans he.symm), he]
      exact h1, wyN_txs he]
    unfold tW
    rw [List.map_cons, List.sum_cons]
    omega

/-! ### how many sorted vectors there are at most -/
def sv : Nat → Nat → List Vec
  | 0, _ => [[]]
  | n + 1, k => (List.range (7 - k)).flatMap fun d => (sv n (k + d)).map fun v => ((k + d : Nat) : Int) :: v
theorem mem_sv : ∀ {n k : Nat} {v : Vec}, v.length = n → v.Pairwise (· ≤ ·) → (∀ x ∈ v, (k : Int) ≤ x ∧ x ≤ 6) → v ∈ sv n k
  | 0, k, v, h, _, _ => by
    rw [List.length_eq_zero_iff.mp h]
    exact List.mem_singleton.mpr rfl
  | n + 1, k, [], h, _, _ => by cases h
  | n + 1, k, x :: v, h, hs, hb => by
    obtain ⟨h1, h2⟩ := List.pairwise_cons.mp hs
    have hx := hb x List.mem_cons_self
    have e : ((k + (x - k).toNat : Nat) : Int) = x := by omega
    refine List.mem_flatMap.mpr ⟨(x - k).toNat, List.mem_range.mpr (by omega), List.mem_map.mpr ⟨v, mem_sv (Nat.succ.inj h) h2 fun y hy => ⟨?_, (hb y (List.mem_cons_of_mem _ hy)).2⟩, by rw [e]⟩⟩
    have := h1 y hy
    omega
theorem sv_len : ∀ {n : Nat}, n ≤ 6 → (sv n 0).length ≤ 924
  | 0, _ => by decide +kernel
  | 1, _ => by decide +kernel
  | 2, _ => by decide +kernel
  | 3, _ => by decide +kernel
  | 4, _ => by decide +kernel
  | 5, _ => by decide +kernel
  | 6, _ => by decide +kernel
  | n + 7, h => absurd h (by omega)
/-- sorted, from 0 to 6 -/
structure VS (n : Nat) (v : Vec) : Prop where
  len : v.length = n
  srt : v.Pairwise (· ≤ ·)
  bd : ∀ x ∈ v, 0 ≤ x ∧ x ≤ 6
theorem vs_len {n : Nat} {L : List Vec} (h6 : n ≤ 6) (hn : L.Nodup) (h : ∀ v ∈ L, VS n v) : L.length ≤ 924 :=
  Nat.le_trans (nd_sub hn (l2 := sv n 0) fun v hv => mem_sv (h v hv).len (h v hv).srt fun x hx => (h v hv).bd x hx) (sv_len h6)
theorem rest_le {l : Vec} {y : Str} {b : Int} (hy : y.length = l.length) (h : ∀ x ∈ l, x ≤ b) : ∀ x ∈ restL l y, x ≤ b := fun x hx => by
  obtain ⟨i, hi, rfl⟩ := List.getElem_of_mem hx
  have hi2 : i < l.length := by rw [rest_len hy] at hi; exact hi
  have h2 := rest_at hy hi2
  have h3 := h _ (List.getElem_mem hi2)
  have h4 := oneK_nn (y.cps.toList.getD i 0)
  rw [List.getD_eq_getElem?_getD, List.getElem?_eq_getElem hi, List.getD_eq_getElem?_getD (l := l), List.getElem?_eq_getElem hi2] at h2
  simp only [Option.getD_some] at h2
  omega
/-- what the law's dict holds -/
structure KW (n : Nat) (L : List (Vec × Int)) : Prop where
  nd : (L.map Prod.fst).Nodup
  vs : ∀ v ∈ L.map Prod.fst, VS n v
theorem KW.len {n : Nat} {L : List (Vec × Int)} (h : KW n L) (h6 : n ≤ 6) : L.length ≤ 924 := by
  have := vs_len h6 h.nd h.vs
  rwa [List.length_map] at this
theorem srt_first {s : Vec} (hs : s.Pairwise (· ≤ ·)) (h : 0 ≤ s.getD 0 0) : ∀ x ∈ s, 0 ≤ x := by
  cases s with
  | nil => exact nofun
  | cons a s =>
    have h : 0 ≤ a := h
    intro x hx
    rcases List.mem_cons.mp hx with rfl | hx
    · exact h
    · have := (List.pairwise_cons.mp hs).1 x hx
      omega
theorem KW.put {n : Nat} {acc : List (Vec × Int)} {l : Vec} {m : Int} {y : Str} (h : KW n acc) (hl : l.length = n) (hb : ∀ x ∈ l, x ≤ 6) (hy : y.length = n) : KW n (putW m l acc y) := by
  have hyl : y.length = l.length := hy.trans hl.symm
  have p := sortI_perm (restL l y)
  have s := sortI_sorted (restL l y)
  unfold putW
  dsimp only
  split
  · rename_i q
    have hv : VS n (sortI (restL l y)) := ⟨by rw [p.length_eq, rest_len hyl, hl], s, fun x hx => ⟨srt_first s q x hx, rest_le hyl hb x (p.mem_iff.mp hx)⟩⟩
    refine ⟨?_, fun v hv2 => ?_⟩
    · rw [ptW_fst]
      split
      · exact h.nd
      · rename_i g
        exact List.nodup_append.mpr ⟨h.nd, List.nodup_cons.mpr ⟨List.not_mem_nil, List.nodup_nil⟩, fun a ha b hb e => g (by rw [← List.mem_singleton.mp hb, ← e]; exact ha)⟩
    · rw [ptW_fst] at hv2
      split at hv2
      · exact h.vs v hv2
      · rcases List.mem_append.mp hv2 with z | z
        · exact h.vs v z
        · rw [List.mem_singleton.mp z]
          exact hv
  · exact h
theorem KW.row {n : Nat} {e : Vec × Int} (hl : e.1.length = n) (hb : ∀ x ∈ e.1, x ≤ 6) : ∀ {F : List Str} {acc : List (Vec × Int)}, KW n acc → (∀ y ∈ F, y.length = n) → KW n (rowW F acc e)
  | [], _, h, _ => h
  | y :: F, acc, h, hF => by
    show KW n (rowW F (putW e.2 e.1 acc y) e)
    exact KW.row hl hb (F := F) (h.put hl hb (hF y List.mem_cons_self)) fun z hz => hF z (List.mem_cons_of_mem _ hz)
theorem KW.rows {n : Nat} {F : List Str} (hF : ∀ y ∈ F, y.length = n) : ∀ {L acc : List (Vec × Int)}, (∀ e ∈ L, VS n e.1) → KW n acc → KW n (L.foldl (rowW F) acc)
  | [], _, _, h => h
  | e :: L, acc, hL, h => by
    show KW n (L.foldl (rowW F) (rowW F acc e))
    exact KW.rows hF (L := L) (fun z hz => hL z (List.mem_cons_of_mem _ hz)) (KW.row (hL e List.mem_cons_self).len (fun x hx => ((hL e List.mem_cons_self).bd x hx).2) h hF)
theorem KW.nil (n : Nat) : KW n [] := ⟨List.nodup_nil, nofun⟩
theorem KW.ent {n : Nat} {L : List (Vec × Int)} (h : KW n L) : ∀ e ∈ L, VS n e.1 := fun e he => h.vs e.1 (List.mem_map.mpr ⟨e, he, rfl⟩)
theorem fit_len {n : Nat} {j : Int} : ∀ y ∈ fitZ n j, y.length = n := fun y hy => (mem_txs.mp (List.mem_filter.mp hy).1).1
theorem KW.step {n : Nat} {j : Int} {L : List (Vec × Int)} (h : KW n L) : KW n (stepW (fitZ n j) L) := KW.rows fit_len h.ent (KW.nil n)
theorem KW.run {n : Nat} : ∀ {js : List Int} {L : List (Vec × Int)}, KW n L → KW n (runW n js L)
  | [], _, h => h
  | _ :: js, _, h => KW.run (js := js) h.step
theorem run_sum {n : Nat} (h1 : 1 ≤ n) : ∀ {js : List Int} {L : List (Vec × Int)}, KW n L → tW [] (runW n js L) = tW js L
  | [], _, _ => rfl
  | j :: js, L, h => by
    show tW [] (runW n js (stepW (fitZ n j) L)) = _
    rw [run_sum h1 h.step]
    unfold stepW
    rw [tW_step h1 fun e he => (h.ent e he).len]
    show 0 + _ = _
    omega
theorem lk_none {v : Vec} : ∀ {L : List (Vec × Int)}, v ∉ L.map Prod.fst → lkW L v = none
  | [], _ => rfl
  | e :: L, h => by
    rw [List.map_cons, List.mem_cons, not_or] at h
    unfold lkW
    rw [if_neg fun z => h.1 z.symm, lk_none h.2]
theorem last_sum {n : Nat} : ∀ {L : List (Vec × Int)}, (L.map Prod.fst).Nodup → (∀ e ∈ L, e.1.length = n) → tW [] L = (lkW L (List.replicate n 0)).getD 0
  | [], _, _ => rfl
  | e :: L, hn, hl => by
    rw [List.map_cons, List.nodup_cons] at hn
    have ih := last_sum hn.2 fun z hz => hl z (List.mem_cons_of_mem _ hz)
    have hle := hl e List.mem_cons_self
    unfold tW at ih ⊢
    unfold lkW
    rw [List.map_cons, List.sum_cons, ih]
    by_cases q : e.1 = List.replicate n 0
    · rw [if_pos q, lk_none (by rw [← q]; exact hn.1), q]
      have : wyN [] (List.replicate n 0) = 1 := by
        unfold wyN
        rw [if_pos]
        exact List.all_eq_true.mpr fun x hx => by rw [List.eq_of_mem_replicate hx]; rfl
      rw [this]
      show e.2 * 1 + 0 = e.2
      omega
    · rw [if_neg q]
      have : wyN [] e.1 = 0 := by
        unfold wyN
        rw [if_neg]
        intro h
        exact q (List.eq_replicate_iff.mpr ⟨hle, fun x hx => eq_of_beq (List.all_eq_true.mp h x hx)⟩)
      rw [this]
      omega
/-- the law's count is the number of ways -/
theorem law_cnt {n : Nat} {js : List Int} {l : Vec} (h1 : 1 ≤ n) (hl : l.length = n) (hb : ∀ x ∈ l, 0 ≤ x ∧ x ≤ 6) : (lkW (runW n js [(sortI l, 1)]) (List.replicate n 0)).getD 0 = wyN js l := by
  have p := sortI_perm l
  have k0 : KW n [(sortI l, 1)] := ⟨List.nodup_cons.mpr ⟨List.not_mem_nil, List.nodup_nil⟩, fun v hv => by
    rw [List.mem_singleton.mp hv]
    exact ⟨p.length_eq.trans hl, sortI_sorted l, fun x hx => hb x (p.mem_iff.mp hx)⟩⟩
  have k1 : KW n (runW n js [(sortI l, 1)]) := k0.run
  rw [← last_sum k1.nd fun e he => (k1.ent e he).len, run_sum h1 k0]
  show 1 * wyN js (sortI l) + 0 = _
  rw [wyN_perm p]
  omega

theorem set_same {α : Type} {c : List α} {k : Nat} {x : α} (h : c[k]? = some x) : c.set k x = c := by
  obtain ⟨h1, h2⟩ := List.getElem?_eq_some_iff.mp h
  subst h2
  exact List.set_getElem_self h1
theorem os_fldX {ns : List Str} {f : Str} {o a : ME} {l : Ls} {c : Cs} {Q : Fl → Cs → Prop} (h : Ok (a l c) fun d c1 => Ok (o l c1) fun x c2 => ∃ k n fs, x = .ref k ∧ c2[k]? = some (.ins n fs) ∧ (n ∈ ns ∧ fs.length < 900) ∧ Q (.nx l) (c2.set k (.ins n (putFD f d fs)))) : OkS (sFldM ns f o a l c) Q := by
  obtain ⟨d, c1, e1, x, c2, e2, k, n, fs, rfl, hk, hn, q⟩ := h
  refine ⟨_, _, ?_, q⟩
  unfold sFldM
  rw [e1]
  simp only [R.seq_ok]
  rw [e2]
  simp only [R.seq_ok]
  unfold fldS
  simp only [hk]
  rw [if_pos hn]
theorem ok_dget2T {fo fi fx : ME} {l : Ls} {c : Cs} {Q : D → Cs → Prop} (h : Ok (fo l c) fun x c1 => ∃ ds, dctT x c1 = some ds ∧ Ok (fi l c1) fun y c2 => ∃ k, keyT y = some k ∧ Ok (fx l c2) fun z c3 => dctT x c3 = some ds ∧ Q ((getKT ds k).getD z) c3) : Ok (mDGet2 fo fi fx l c) Q := by
  obtain ⟨x, c1, e1, ds, h1, y, c2, e2, k, h2, z, c3, e3, h3, q⟩ := h
  refine ⟨_, c3, ?_, q⟩
  unfold mDGet2
  rw [e1]
  simp only [R.bind_ok]
  unfold onDct
  rw [h1]
  simp only []
  rw [e2]
  simp only [R.bind_ok]
  rw [e3]
  simp only [R.bind_ok]
  unfold getDT
  rw [h2, h3]
/-! ### the law's count: the walk -/
def enW (e : Vec × Int) : List Key × D := (vkey e.1, .int e.2)
theorem getKT_W : ∀ (L : List (Vec × Int)) (v : Vec), getKT (L.map enW) (vkey v) = (lkW L v).map D.int
  | [], v => rfl
  | e :: L, v => by
    have ih := getKT_W L v
    unfold getKT at ih ⊢
    rw [List.map_cons, List.find?_cons]
    unfold lkW
    by_cases h : e.1 = v
    · have : decide ((enW e).1 = vkey v) = true := decide_eq_true (congrArg vkey h)
      rw [if_pos h, this]
      rfl
    · have : decide ((enW e).1 = vkey v) = false := decide_eq_false fun z => h (vkey_inj z)
      rw [if_neg h, this]
      exact ih
theorem ptW_out {v : Vec} {m : Int} : ∀ {L : List (Vec × Int)}, v ∉ L.map Prod.fst → ptW L v m = L ++ [(v, m)] ∧ (L.map fun e => if e.1 = v then (e.1, m) else e) = L
  | [], _ => ⟨rfl, rfl⟩
  | e :: L, h => by
    rw [List.map_cons, List.mem_cons, not_or] at h
    obtain ⟨i1, i2⟩ := ptW_out (m := m) h.2
    have ne : ¬ e.1 = v := fun z => h.1 z.symm
    unfold ptW
    rw [if_neg ne, i1, List.map_cons, if_neg ne, i2]
    exact ⟨rfl, rfl⟩
theorem ptW_in {v : Vec} {m : Int} : ∀ {L : List (Vec × Int)}, (L.map Prod.fst).Nodup → v ∈ L.map Prod.fst → (L.map fun e => if e.1 = v then (e.1, m) else e) = ptW L v m
  | [], _, h => by cases h
  | e :: L, hn, h => by
    rw [List.map_cons, List.nodup_cons] at hn
    unfold ptW
    rw [List.map_cons]
    by_cases q : e.1 = v
    · rw [if_pos q, if_pos q, (ptW_out (m := m) (by rw [← q]; exact hn.1)).2]
    · rw [if_neg q, if_neg q, ptW_in hn.2 ((List.mem_cons.mp h).resolve_left fun z => q z.symm)]
theorem putKT_W {L : List (Vec × Int)} {v : Vec} {m : Int} (hn : (L.map Prod.fst).Nodup) : putKT (L.map enW) (vkey v) (.int m) = (ptW L v m).map enW := by
  unfold putKT
  have e : ((L.map enW).any fun kv => decide (kv.1 = vkey v)) = decide (v ∈ L.map Prod.fst) := by
    rw [List.any_map, Bool.eq_iff_iff, List.any_eq_true, decide_eq_true_eq]
    constructor
    · rintro ⟨a, ha, h⟩
      have h : vkey a.1 = vkey v := of_decide_eq_true h
      exact List.mem_map.mpr ⟨a, ha, vkey_inj h⟩
    · intro h
      obtain ⟨a, ha, h⟩ := List.mem_map.mp h
      exact ⟨a, ha, decide_eq_true (congrArg vkey h)⟩
  rw [e]
  by_cases h : v ∈ L.map Prod.fst
  · rw [decide_eq_true h, if_pos rfl, ← ptW_in hn h, List.map_map, List.map_map]
    refine List.map_congr_left fun a _ => ?_
    show (if vkey a.1 = vkey v then (vkey a.1, D.int m) else (vkey a.1, D.int a.2)) = enW (if a.1 = v then (a.1, m) else a)
    by_cases q : a.1 = v
    · rw [if_pos (congrArg vkey q), if_pos q]
      rfl
    · rw [if_neg fun z => q (vkey_inj z), if_neg q]
      rfl
  · rw [decide_eq_false h, if_neg (by decide), (ptW_out h).1, List.map_append]
    rfl
theorem put_W {k : Nat} {L : List (Vec × Int)} {v : Vec} {m : Int} {c : Cs} (hk : c[k]? = some (.dT (L.map enW))) (h1 : 1 ≤ v.length) (hl : L.length < 10000) (hn : (L.map Prod.fst).Nodup) : putTR (.ref k) (vecD v) (.int m) c = .ok () (c.set k (.dT ((ptW L v m).map enW))) := by
  unfold putTR
  simp only [keyT_vec h1, hk]
  rw [if_pos (by rw [List.length_map]; exact hl), putKT_W hn]
theorem dcw_at {k : Nat} {ds : List (List Key × D)} {c : Cs} (hk : c[k]? = some (.dT ds)) : dctT (.ref k) c = some ds := by
  unfold dctT
  simp only [hk]
theorem sort_iL (ns : List Int) (c : Cs) : sortY [iL ns] c = .ok (iL (sortI ns)) c := by
  show sortPY (iL ns) c = _
  have e : intsQ (iL ns) c = some ns := by
    show intsOf (ns.map D.int) = some ns
    exact intsOf_map ns
  unfold sortPY
  rw [e]
  rfl
theorem tup_iL (ns : List Int) (c : Cs) : tupleD [iL ns] c = .ok (vecD ns) c := rfl
theorem get_D (o : Option Int) : (o.map D.int).getD (.int 0) = .int (o.getD 0) := by cases o <;> rfl
/-- one row more, as the law writes it -/
theorem less_ok {x : Vec} {y : Str} {l : Ls} {c : Cs} {a b p q : Nat} {Q : D → Cs → Prop} (hx : l[a]? = some (some (vecD x))) (hy : l[b]? = some (some (.str y))) (hl : x.length ≤ 8)
    (hp : p < l.length) (hq : q < l.length) (hpq : p ≠ q) (h : Q (iL (restL x y)) c) : Ok (mLcW (kZip (aCons (mVar a) (aCons (mVar b) aNil))) [p, q] (gT [p, q]) tYesM (mOp subD (mVar p) (mCB intFD (aCons (mOp eqX (mVar q) (mC (.str "1"))) aNil))) l c) Q := by
  have hz : sizeLine = 16777216 := sizeLine_eq
  have hrest : D.lst ((x.zip y.cps.toList).map fun p => D.int (p.1 - oneK p.2)) = iL (restL x y) := by rw [zip_sub]; rfl
  refine ok_lcY (x.zip y.cps.toList) (fun p => D.tup [.int p.1, .str ⟨#[p.2]⟩]) (fun p => D.int (p.1 - oneK p.2)) (by rw [List.length_zip]; omega) ?_ (fun e he => ?_) (by rw [hrest]; exact h)
  · refine ok_kzipS (x := vecD x) (y := .str y) (xs := x.map D.int) (ys := chrs y) (ok_acons (ok_var hx (ok_acons (ok_var hy (ok_anil ⟨rfl, rfl, rfl, rfl, fun i hi => ?_⟩)))))
    have hzr := zip_rest x y.cps.toList
    have hch : chrs y = y.cps.toList.map fun k => D.str ⟨#[k]⟩ := rfl
    rw [zipW_seq (xs := x.map D.int) (ys := chrs y) rfl rfl i (by rw [hch, hzr, List.length_map]; exact hi), hch, hzr]
  · have w1 : p < (wipeL l [p, q]).length := by simpa [wipeL] using hp
    have w2 : q < (wipeL l [p, q]).length := by simpa [wipeL] using hq
    refine ⟨_, _, rfl, rfl, ?_⟩
    refine ok_op (ok_var (d := .int e.1) ?_ (ok_cb (ok_acons (ok_op (ok_var (d := .str ⟨#[e.2]⟩) ?_ (ok_c (Ok.of (eq_one e.2 c) (ok_anil ⟨_, c, rfl, ?_⟩))))))))
    · show (((wipeL l [p, q]).set p (some (.int e.1))).set q (some (.str ⟨#[e.2]⟩)))[p]? = _
      rw [List.getElem?_set_ne (fun z => hpq z.symm), List.getElem?_set_self w1]
    · show (((wipeL l [p, q]).set p (some (.int e.1))).set q (some (.str ⟨#[e.2]⟩)))[q]? = _
      rw [List.getElem?_set_self (by rw [List.length_set]; exact w2)]
    · refine ⟨_, _, rfl, ?_, rfl⟩
      unfold oneK
      by_cases h49 : e.2 = 49
      · rw [if_pos h49, decide_eq_true h49]; rfl
      · rw [if_neg h49, decide_eq_false h49]; rfl
theorem count_ok {T : Bool → List Int} {c : Cs} {Q : D → Cs → Prop} (h1 : 1 ≤ (T false).length) (h6 : ∀ b, (T b).length ≤ 6) (hb : ∀ x ∈ T false, 0 ≤ x ∧ x ≤ 6) (q : ∀ c', Pfx c c' → Q (.int (wyN (T true) (T false))) c') : Ok (g_law_count [liD T] c) Q := by
  have hz : sizeLine = 16777216 := sizeLine_eq
  have w6 := h6 false
  have n6 := h6 true
  have i0 : ∀ c', itemD (liD T) (.int 0) c' = .ok (iL (T false)) c' := fun _ => rfl
  have i1 : ∀ c', itemD (liD T) (.int 1) c' = .ok (iL (T true)) c' := fun _ => rfl
  have hT : ∀ c', ∃ d c2, (mDictT1 (mCB tupleD (aCons (mCB sortY (aCons (mOp itemD (mVar 0) (mC (.int 0))) (aNil))) (aNil))) (mC (.int 1))) [some (liD T), none, none, none, none, none, none, none, none, none, none, none] c' = .ok d c2 ∧ d = .ref c'.length ∧ c2 = c' ++ [.dT [enW (sortI (T false), 1)]] := fun c' => by
    have e : ((mCB tupleD (aCons (mCB sortY (aCons (mOp itemD (mVar 0) (mC (.int 0))) (aNil))) (aNil))) : ME) [some (liD T), none, none, none, none, none, none, none, none, none, none, none] c' = .ok (vecD (sortI (T false))) c' :=
      Ok.eq (ok_cb (ok_acons (ok_cb (ok_acons (ok_op (ok_var rfl (ok_c (Ok.of (i0 c') (ok_anil (Ok.of (sort_iL _ c') (ok_anil (Ok.of (tup_iL _ c') ⟨rfl, rfl⟩))))))))))))
    refine ⟨_, _, ?_, rfl, rfl⟩
    unfold mDictT1
    rw [e]
    show (match keyT (vecD (sortI (T false))) with
      | some k => .ok (.ref c'.length) (c' ++ [.dT [(k, D.int 1)]])
      | none => .stuck : Mi.R D) = _
    rw [keyT_vec (by rw [(sortI_perm (T false)).length_eq]; exact h1)]
    rfl
  refine Ok.fun rfl ?_
  unfold c_law_count
  obtain ⟨dd, cc, e1, rfl, rfl⟩ := hT c
  refine os_seq (os_par (ok_acons (ok_cb (ok_acons (ok_op (ok_var rfl (ok_c (Ok.of (i0 c) (ok_anil (ok_len_map (ok_acons (Ok.of e1 (ok_anil ⟨_, _, rfl, ?_⟩)))))))))))))
  have p0 := Pfx.one c [Cell.dT [enW (sortI (T false), 1)]]
  have g0 : (c ++ [Cell.dT [enW (sortI (T false), 1)]])[c.length]? = some (.dT ([(sortI (T false), 1)].map enW)) := cell_last _
  have hk0 : c.length ≤ c.length := Nat.le_refl _
  generalize c ++ [Cell.dT [enW (sortI (T false), 1)]] = c0 at p0 g0 ⊢
  generalize hkk : c.length = k at g0 ⊢
  rw [hkk] at hk0
  have K0 : KW (T false).length [(sortI (T false), 1)] := ⟨List.nodup_cons.mpr ⟨List.not_mem_nil, List.nodup_nil⟩, fun v hv => by
    rw [List.mem_singleton.mp hv]
    exact ⟨(sortI_perm _).length_eq, sortI_sorted _, fun x hx => hb x ((sortI_perm _).mem_iff.mp hx)⟩⟩
  refine os_seq (os_forX (T true) D.int (fun rest l c' => ∃ L k o1 o4 o5 o6 o7 o8 o9 o10 o11, l = [some (liD T), o1, some (.int ((T false).length : Nat)), some (.ref k), o4, o5, o6, o7, o8, o9, o10, o11] ∧ Pfx c c' ∧ c.length ≤ k ∧ c'[k]? = some (.dT (L.map enW)) ∧ KW (T false).length L ∧
    (∃ pre, T true = pre ++ rest) ∧ runW (T false).length rest L = runW (T false).length (T true) [(sortI (T false), 1)]) (by omega)
    (ok_op (ok_var rfl (ok_c (Ok.of (i1 c0) ⟨rfl, [(sortI (T false), 1)], k, _, _, _, _, _, _, _, _, _, rfl, p0, by omega, g0, K0, ⟨[], rfl⟩, rfl⟩)))) ?_ ?_)
  · rintro l c' ⟨L, k, o1, o4, o5, o6, o7, o8, o9, o10, o11, rfl, p, hk, g, K, _, hr⟩
    have hr : L = runW (T false).length (T true) [(sortI (T false), 1)] := hr
    refine os_ret (ok_dget2T (ok_var rfl ⟨_, dcw_at g, ok_op (ok_tup (ok_acons (ok_c (ok_anil ⟨Nat.le_of_ble_eq_true rfl, ok_var rfl (ok_many (ds := [D.int 0]) (by decide) (by decide) h1 (by omega) ?_)⟩))))⟩))
    rw [zeros_vec]
    refine ⟨_, keyT_vec (by rw [List.length_replicate]; exact h1), ok_c ⟨dcw_at g, ?_⟩⟩
    rw [getKT_W, get_D, hr, law_cnt h1 rfl hb]
    exact q c' p
  · rintro j rest l c' ⟨L, k, o1, o4, o5, o6, o7, o8, o9, o10, o11, rfl, p, hk, g, K, ⟨pre, hpre⟩, hr⟩
    refine ⟨_, _, rfl, ?_⟩
    have hw : (T false).length = (T false).length := rfl
    have hLl := K.len w6
    have htx : (txs (T false).length).length ≤ 64 := by
      rw [txs, List.length_map, bts_len]
      exact Nat.le_trans (Nat.pow_le_pow_right (by decide) w6) (by decide)
    refine os_seq (os_set (ok_lc (ok_ilst (ok_cb (ok_acons (ok_var rfl (ok_anil (texts_ok (n := (T false).length) (by omega) fun c3 p4 => .inl ⟨_, rfl, ?_⟩))))))))
    have p5 := p.trans p4
    have g5 := p4.get g
    refine comp_fil (enc := D.str) (F := D.str) (P := fun y => decide (Txt.count y "0" = j)) (txs (T false).length) (by omega) (fun y hy c4 p6 => ok_gn ?_) fun c4 p6 => ?_
    · have ecnt : countD (.str y) (.str "0") c4 = .ok (.int (Txt.count y "0")) c4 := rfl
      exact ok_t (ok_op (ok_m1 (ok_var rfl ⟨y, rfl, ok_c (Ok.of ecnt (ok_var rfl (Ok.of (eq_ints _ _ _) ⟨_, rfl, p6, rfl, fun _ => ok_var rfl ⟨rfl, p6⟩⟩)))⟩)))
    have p7 := p5.trans p6
    have g7 := p6.get g5
    have hF : (txs (T false).length).filter (fun y => decide (Txt.count y "0" = j)) = fitZ (T false).length j := rfl
    rw [hF]
    have hFl : (fitZ (T false).length j).length ≤ 64 := Nat.le_trans (List.length_filter_le _ _) htx
    have hrn : runW (T false).length rest (stepW (fitZ (T false).length j) L) = runW (T false).length (T true) [(sortI (T false), 1)] := hr
    have hFy : ∀ y ∈ fitZ (T false).length j, y.length = (T false).length := fit_len
    have KS := K.step (j := j)
    unfold stepW at hrn KS
    have hcur : ∀ (a post : List (Vec × Int)) (x : Vec × Int) (b r2 : List Str), L = a ++ x :: post → fitZ (T false).length j = b ++ r2 → KW (T false).length (rowW b (a.foldl (rowW (fitZ (T false).length j)) []) x) := fun a post x b r2 e1 e2 => by
      have hx := K.ent x (by rw [e1]; exact List.mem_append_right _ List.mem_cons_self)
      refine KW.row hx.len (fun z hz => (hx.bd z hz).2) (KW.rows hFy (fun e he => K.ent e (by rw [e1]; exact List.mem_append_left _ he)) (KW.nil _)) fun y hy => hFy y (by rw [e2]; exact List.mem_append_left _ hy)
    generalize fitZ (T false).length j = F at hFl hrn hFy KS hcur ⊢
    refine os_seq (os_set ⟨_, _, rfl, ?_⟩)
    have p8 := p7.trans (Pfx.one c4 [Cell.dT []])
    have g8 : (c4 ++ [Cell.dT []])[c4.length]? = some (.dT (([] : List (Vec × Int)).map enW)) := cell_last _
    have gk8 : (c4 ++ [Cell.dT []])[k]? = some (.dT (L.map enW)) := (Pfx.one c4 [Cell.dT []]).get g7
    have hkf : k ≠ c4.length := by
      have := (List.getElem?_eq_some_iff.mp g7).1
      omega
    have hcf : c.length ≤ c4.length := p7.len
    generalize c4 ++ [Cell.dT []] = c8 at p8 g8 gk8 ⊢
    generalize c4.length = f at g8 hkf hcf ⊢
    have hk8 := (List.getElem?_eq_some_iff.mp gk8).1
    refine os_seq (os_lk (c2 := c8) (k := k) rfl gk8 ?_)
    have z8 : (c8.set k (.dTz (L.map enW)))[k]? = some (.dTz (L.map enW)) := List.getElem?_set_self hk8
    have f8 : (c8.set k (.dTz (L.map enW)))[f]? = some (.dT (([] : List (Vec × Int)).map enW)) := by rw [List.getElem?_set_ne hkf]; exact g8
    have pz := pfx_set p8 hk (.dTz (L.map enW))
    generalize c8.set k (.dTz (L.map enW)) = c9 at z8 f8 pz ⊢
    have hitems : ((L.map enW).map fun kv => D.tup [keyDT kv.1, kv.2]) = L.map fun e => D.tup [vecD e.1, .int e.2] := by
      rw [List.map_map]
      refine List.map_congr_left fun e _ => ?_
      show D.tup [keyDT (vkey e.1), .int e.2] = _
      rw [keyDT_vec]
    refine os_forW (Ok.of (kItemsTK_z (k := k) rfl z8) ?_)
    refine OkS.forW (xs := L.map fun e => D.tup [vecD e.1, .int e.2]) (fun ds l c' => Pfx c c' ∧ c'[k]? = some (.dTz (L.map enW)) ∧ ∃ a post o6 o7 o8 o9 o10 o11, L = a ++ post ∧ ds = post.map (fun e => D.tup [vecD e.1, .int e.2]) ∧
      l = [some (liD T), some (.int j), some (.int ((T false).length : Nat)), some (.ref k), some (.lst (F.map D.str)), some (.ref f), o6, o7, o8, o9, o10, o11] ∧ c'[f]? = some (.dT ((a.foldl (rowW F) []).map enW))) ?_ ?_ ?_ _ fuelW 0 _ _ rfl (by rw [List.length_map]; unfold fuelW; omega) ⟨pz, z8, [], L, _, _, _, _, _, _, rfl, rfl, rfl, f8⟩
    · rintro ds l c' ⟨_, hz', _⟩ i
      rw [itemsTKW_at hz', hitems]
    · rintro l c' ⟨p9, hz9, a, post, o6, o7, o8, o9, o10, o11, e2, e3, rfl, f9⟩
      have hp : post = [] := by
        cases post with
        | nil => rfl
        | cons a b => cases e3
      subst hp
      rw [List.append_nil] at e2
      subst e2
      refine ⟨_, hz9, ?_⟩
      refine os_set (ok_var rfl ?_)
      refine ⟨L.foldl (rowW F) [], f, _, _, _, _, _, _, _, _, _, rfl, pfx_set p9 hk _, hcf, ?_, KS, ⟨pre ++ [j], by rw [List.append_assoc]; exact hpre⟩, hrn⟩
      rw [List.getElem?_set_ne hkf]
      exact f9
    · rintro d ds l c' ⟨p9, hz9, a, post, o6, o7, o8, o9, o10, o11, e2, e3, rfl, f9⟩
      obtain ⟨x, post, rfl⟩ : ∃ x post', post = x :: post' := by
        cases post with
        | nil => cases e3
        | cons x post => exact ⟨x, post, rfl⟩
      obtain ⟨e4, e5⟩ := List.cons.inj e3
      subst e4
      have hx := K.ent x (by rw [e2]; exact List.mem_append_right _ List.mem_cons_self)
      refine ⟨_, _, rfl, ?_⟩
      refine os_forX F D.str (fun r2 l c10 => Pfx c c10 ∧ c10[k]? = some (.dTz (L.map enW)) ∧ ∃ b o8 o9 o10 o11, F = b ++ r2 ∧ l = [some (liD T), some (.int j), some (.int ((T false).length : Nat)), some (.ref k), some (.lst (F.map D.str)), some (.ref f), some (vecD x.1), some (.int x.2), o8, o9, o10, o11] ∧
        c10[f]? = some (.dT ((rowW b (a.foldl (rowW F) []) x).map enW))) (by omega) (ok_var rfl ⟨rfl, p9, hz9, [], _, _, _, _, rfl, rfl, f9⟩) ?_ ?_
      · rintro l c10 ⟨p10, hz10, b, o8, o9, o10, o11, e6, rfl, f10⟩
        rw [List.append_nil] at e6
        subst e6
        refine ⟨p10, hz10, a ++ [x], post, _, _, _, _, _, _, by rw [List.append_assoc]; exact e2, e5, rfl, ?_⟩
        rw [f10, List.foldl_append]
        rfl
      · rintro y r2 l c10 ⟨p10, hz10, b, o8, o9, o10, o11, e6, rfl, f10⟩
        have hyl := hFy y (by rw [e6]; exact List.mem_append_right _ List.mem_cons_self)
        have hrl : (restL x.1 y).length = (T false).length := (rest_len (hyl.trans hx.len.symm)).trans hx.len
        have hsl : (sortI (restL x.1 y)).length = (T false).length := (sortI_perm _).length_eq.trans hrl
        have KC := hcur a post x b (y :: r2) e2 e6
        have hcl := KC.len w6
        have hxl := hx.len
        refine ⟨_, _, rfl, ?_⟩
        refine os_seq (os_set (ok_cb (ok_acons (ok_cb (ok_acons (less_ok (x := x.1) (y := y) rfl rfl (by omega) (by exact Nat.le_of_ble_eq_true rfl) (by exact Nat.le_of_ble_eq_true rfl) (by decide) (ok_anil (Ok.of (sort_iL _ c10) (ok_anil (Ok.of (tup_iL _ c10) ?_))))))))))
        have hit : itemD (vecD (sortI (restL x.1 y))) (.int 0) c10 = .ok (.int ((sortI (restL x.1 y)).getD 0 0)) c10 := by
          cases hs : sortI (restL x.1 y) with
          | nil => rw [hs] at hsl; have : 0 = (T false).length := hsl; omega
          | cons a b => exact item_seq (v := vecD (a :: b)) (i := 0) (xs := (a :: b).map D.int) rfl rfl
        have hstep : rowW (b ++ [y]) (a.foldl (rowW F) []) x = putW x.2 x.1 (rowW b (a.foldl (rowW F) []) x) y := by
          unfold rowW
          rw [List.foldl_append]
          rfl
        refine os_if (ok_t (ok_op (ok_op (ok_var rfl (ok_c (Ok.of hit (ok_c ⟨_, _, rfl, _, rfl, fun h2 => ?_, fun h2 => os_nil ?_⟩)))))))
        · have h2 : 0 ≤ (sortI (restL x.1 y)).getD 0 0 := of_decide_eq_true h2
          have hgv : getKT ((rowW b (a.foldl (rowW F) []) x).map enW) (vkey (sortI (restL x.1 y))) = _ := getKT_W _ _
          refine os_asg (ok_op (ok_dget2T (ok_var rfl ⟨_, dcw_at f10, ok_var rfl ⟨_, keyT_vec (by rw [hsl]; exact h1), ok_c ⟨dcw_at f10, ?_⟩⟩⟩)))
          rw [hgv, get_D]
          refine ok_var rfl (Ok.of (show addD (.int _) (.int _) c10 = .ok (.int _) c10 from rfl) (ok_gST (ok_var rfl (ok_var rfl (Ok.of (put_W f10 (by rw [hsl]; exact h1) (by omega) KC.nd) ?_)))))
          refine ⟨pfx_set p10 hcf _, by rw [List.getElem?_set_ne (fun z => hkf z.symm)]; exact hz10, b ++ [y], _, _, _, _, by rw [List.append_assoc]; exact e6, rfl, ?_⟩
          rw [List.getElem?_set_self (List.getElem?_eq_some_iff.mp f10).1, hstep]
          unfold putW
          dsimp only
          rw [if_pos h2]
        · have h2 : ¬ 0 ≤ (sortI (restL x.1 y)).getD 0 0 := of_decide_eq_false h2
          refine ⟨p10, hz10, b ++ [y], _, _, _, _, by rw [List.append_assoc]; exact e6, rfl, ?_⟩
          rw [hstep]
          unfold putW
          dsimp only
          rw [if_neg h2]
          exact f10

/-! ### the package's count -/
def tlF (v ones : List Int) (kk : Nat) : List (Str × D) := [("all_lacks", vecD v), ("row_ones", iL ones), ("known_ways", .ref kk)]
def tlD (v ones : List Int) (kk : Nat) : D := .obj "Tally" (tlF v ones kk)
def onesL (T : Bool → List Int) : List Int := (T true).map fun j => ((T false).length : Int) - j
theorem fldT {f : Str} {i : Nat} {l : Ls} {c : Cs} {d v : D} {fs : List (Str × D)} (h : l[i]? = some (some d)) (hf : insOf d c = some (("Tally" : Str), fs)) (hv : fs.lookup f = some v) : mFld ["Tally"] f (mVar i) l c = .ok v c :=
  Ok.eq (ok_fld (ok_var h ⟨fs, v, hf, hv, rfl, rfl⟩))
theorem tl_is (v ones : List Int) (kk : Nat) (c : Cs) (mm : Str) (h : (tlF v ones kk).lookup mm = none) : ∃ fs, insOf (tlD v ones kk) c = some (("Tally" : Str), fs) ∧ fs.lookup mm = none := ⟨_, rfl, h⟩
/-! a row's text is its number -/
theorem txt_num : ∀ {w : Nat}, w ≤ 6 → 1 ≤ w → (List.range (2 ^ w)).map (fun i => cutS (bits6 i) (some (-(w : Int))) none) = txs w
  | 0, _, h => by omega
  | 1, _, _ => by decide +kernel
  | 2, _, _ => by decide +kernel
  | 3, _, _ => by decide +kernel
  | 4, _, _ => by decide +kernel
  | 5, _, _ => by decide +kernel
  | 6, _, _ => by decide +kernel
  | w + 7, h, _ => by omega
theorem txt_at {w i : Nat} (h6 : w ≤ 6) (h1 : 1 ≤ w) (hi : i < 2 ^ w) : ∃ y, (txs w)[i]? = some y ∧ cutS (bits6 i) (some (-(w : Int))) none = y := by
  rw [← txt_num h6 h1, List.getElem?_map, List.getElem?_range hi]
  exact ⟨_, rfl, rfl⟩
theorem cnt_49 : ∀ {p : List Nat}, (∀ k ∈ p, k = 48 ∨ k = 49) → PyProof.Rows.cnt 49 p + PyProof.Rows.cnt 48 p = p.length
  | [], _ => by simp [PyProof.Rows.cnt_nil]
  | k :: p, h => by
    have ih := cnt_49 fun x hx => h x (List.mem_cons_of_mem _ hx)
    rw [PyProof.Rows.cnt_cons, PyProof.Rows.cnt_cons, List.length_cons]
    rcases h k List.mem_cons_self with rfl | rfl <;> simp <;> omega
theorem count_one {w : Nat} {y : Str} (hy : y ∈ txs w) : Txt.count y "1" + Txt.count y "0" = (w : Int) := by
  unfold txs at hy
  obtain ⟨p, hp, rfl⟩ := List.mem_map.mp hy
  obtain ⟨h1, h2⟩ := mem_bts.mp hp
  rw [show ("0" : Str) = ⟨#[48]⟩ by decide +kernel, show ("1" : Str) = ⟨#[49]⟩ by decide +kernel, PyProof.Rows.count_cnt, PyProof.Rows.count_cnt, mkS_cps, cnt_49 h2, h1]
theorem ok_sliceY {a : ME} {lo hi : MO} {l : Ls} {c : Cs} {Q : D → Cs → Prop} (h : Ok (a l c) fun x c1 => Ok (lo l c1) fun i c2 => Ok (hi l c2) fun j c3 => Ok (sliceY x i j c3) Q) : Ok (mSliceY a lo hi l c) Q := Ok.bind (h.mono fun _ _ h => Ok.bind (h.mono fun _ _ h => Ok.bind h))
/-- the rows that the package goes on with, as it finds them -/
def nextL (w : Nat) (j rest : Int) (l : Vec) : List Str := (txs w).filter fun y => decide (Txt.count y "1" = (w : Int) - j) && inRow rest (restL l y)
def nxD (l : Vec) (y : Str) : D := .tup [.str y, vecD (restL l y)]
theorem next_sum {w : Nat} {j : Int} {js l : List Int} (h : l.length = w) : ((nextL w j js.length l).map fun y => wyN js (restL l y)).sum = wyN (j :: js) l := by
  rw [← wyN_inRow h]
  unfold nextL fitZ
  rw [List.filter_filter]
  refine congrArg (fun L : List Str => (L.map fun y => wyN js (restL l y)).sum) (List.filter_congr fun y hy => ?_)
  have e := count_one hy
  rw [Bool.and_comm]
  congr 1
  by_cases q : Txt.count y "0" = j
  · rw [decide_eq_true q, decide_eq_true (by omega)]
  · rw [decide_eq_false q, decide_eq_false (by omega)]
theorem nextok_ok {T : Bool → List Int} {c : Cs} {at_ kk : Nat} {l : Vec} {j : Int} {Q : D → Cs → Prop} (w1 : 1 ≤ (T false).length) (w6 : (T false).length ≤ 6) (hj : (T true)[at_]? = some j) (hn : (T true).length ≤ 6) (hl : l.length = (T false).length)
    (q : ∀ c', Pfx c c' → Q (.lst ((nextL (T false).length j ((((T true).drop (at_ + 1)).length : Nat) : Int) l).map (nxD l))) c') : Ok (gTally__next_rows [tlD (T false) (onesL T) kk, .int (at_ : Nat), vecD l] c) Q := by
  have hz : sizeLine = 16777216 := sizeLine_eq
  have hat := (List.getElem?_eq_some_iff.mp hj).1
  have hones : (onesL T).length = (T true).length := List.length_map ..
  refine Ok.fun rfl ?_
  unfold cTally__next_rows
  have hll : lenD [vecD l] c = .ok (.int ((T false).length : Nat)) c := by
    have := len_seq (v := vecD l) (c := c) (xs := l.map D.int) rfl
    rw [List.length_map, hl] at this
    exact this
  have hlo : lenD [iL (onesL T)] c = .ok (.int ((T true).length : Nat)) c := by
    have := len_seq (v := iL (onesL T)) (c := c) (xs := (onesL T).map D.int) rfl
    rw [List.length_map, hones] at this
    exact this
  have hsub : ∀ a b : Int, subD (.int a) (.int b) c = .ok (.int (a - b)) c := fun _ _ => rfl
  refine os_seq (os_asg (ok_tup (ok_acons (ok_cb (ok_acons (ok_var rfl (ok_anil (Ok.of hll (ok_acons (ok_op (ok_op (ok_cb (ok_acons (Ok.of (fldT rfl rfl rfl) (ok_anil (Ok.of hlo (ok_var rfl (Ok.of (hsub _ _) (ok_c (Ok.of (hsub _ _) (ok_anil ⟨Nat.le_of_ble_eq_true rfl, ⟨_, _, rfl, ?_⟩⟩)))))))))))))))))))))
  have erest : ((T true).length : Int) - (at_ : Nat) - 1 = ((((T true).drop (at_ + 1)).length : Nat) : Int) := by
    rw [List.length_drop]
    omega
  rw [erest]
  generalize ((((T true).drop (at_ + 1)).length : Nat) : Int) = rest at q ⊢
  refine os_seq (os_set (ok_lstM (ok_anil ⟨Nat.zero_le _, ?_⟩)))
  have p1 := Pfx.one c [Cell.lst []]
  have g1 : (c ++ [Cell.lst []])[c.length]? = some (.lst []) := cell_last _
  have hf : c.length ≤ c.length := Nat.le_refl _
  generalize c ++ [Cell.lst []] = c1 at p1 g1 ⊢
  generalize hff : c.length = f at g1 ⊢
  rw [hff] at hf
  have hfc : c.length ≤ f := by omega
  have htl : (txs (T false).length).length = 2 ^ (T false).length := by rw [txs, List.length_map, bts_len]
  have h64 : 2 ^ (T false).length ≤ 64 := Nat.le_trans (Nat.pow_le_pow_right (by decide) w6) (by decide)
  have hp1 : (1 : Int) * 2 ^ (((T false).length : Nat) : Int).toNat = ((2 ^ (T false).length : Nat) : Int) := by
    rw [Int.one_mul, Int.toNat_natCast, Int.natCast_pow]
    rfl
  have hpow : ∀ c', shlI (.int 1) (.int ((T false).length : Nat)) c' = .ok (.int ((2 ^ (T false).length : Nat) : Int)) c' := fun c' => by
    rw [← hp1]
    exact if_pos (show CPow 1 ((T false).length : Nat) from ⟨by omega, by omega, by decide⟩)
  refine os_seq (os_forN (2 ^ (T false).length) (fun i l2 c' => ∃ o4 o7 o8 o9 o10, l2 = [some (tlD (T false) (onesL T) kk), some (.int (at_ : Nat)), some (vecD l), some (.ref f), o4, some (.int ((T false).length : Nat)), some (.int rest), o7, o8, o9, o10] ∧ Pfx c c' ∧
    c'[f]? = some (.lst ((((txs (T false).length).take i).filter fun y => decide (Txt.count y "1" = ((T false).length : Int) - j) && inRow rest (restL l y)).map (nxD l)))) (by omega)
    (ok_acons (ok_op (ok_c (ok_var rfl (Ok.of (hpow _) (ok_anil ⟨rfl, rfl⟩)))))) ⟨_, _, _, _, _, rfl, p1, by rw [List.take_zero]; exact g1⟩ ?_ ?_)
  · rintro l2 c' ⟨o4, o7, o8, o9, o10, rfl, p2, g2⟩
    rw [List.take_of_length_le (by rw [htl]; exact Nat.le_refl _)] at g2
    exact os_ret (ok_frz (ok_var rfl ⟨f, _, rfl, g2, q _ (pfx_set p2 hfc _)⟩))
  · rintro i l2 c' hi ⟨o4, o7, o8, o9, o10, rfl, p2, g2⟩
    obtain ⟨y, hy, ecut⟩ := txt_at w6 w1 hi
    have hym := List.mem_of_getElem? hy
    have hyl := (mem_txs.mp hym).1
    have hrl : (restL l y).length = (T false).length := (rest_len (hyl.trans hl.symm)).trans hl
    refine ⟨_, _, rfl, ?_⟩
    have hb6 : (bits6 i).length ≤ sizeLine := by
      show 6 ≤ sizeLine
      omega
    have hneg : ∀ a : Int, negD (.int a) c' = .ok (.int (-a)) c' := fun _ => rfl
    have hsl : sliceY (.str (bits6 i)) (some (-((T false).length : Int))) none c' = .ok (.str y) c' := by
      have e : sliceY (.str (bits6 i)) (some (-((T false).length : Int))) none c' = sliceD (.str (bits6 i)) (some (-((T false).length : Int))) none c' := rfl
      rw [e, ← ecut]
      exact Ok.eq (ok_slice_str hb6 ⟨rfl, rfl⟩)
    refine os_seq (os_set (ok_sliceY (ok_fmt6 (ok_var rfl ⟨i, rfl, by omega, ok_osome (ok_un (ok_var rfl (Ok.of (hneg _) ⟨_, rfl, ok_onone (Ok.of hsl ?_)⟩)))⟩))))
    refine os_seq (os_set (ok_cb (ok_acons (less_ok (x := l) (y := y) rfl rfl (by omega) (by exact Nat.le_of_ble_eq_true rfl) (by exact Nat.le_of_ble_eq_true rfl) (by decide) (ok_anil (Ok.of (tup_iL _ c') ?_))))))
    have ecnt : countD (.str y) (.str "1") c' = .ok (.int (Txt.count y "1")) c' := rfl
    have hone : itemD (iL (onesL T)) (.int (at_ : Nat)) c' = .ok (.int (((T false).length : Int) - j)) c' := by
      refine item_seq (xs := (onesL T).map D.int) rfl ?_
      unfold onesL
      rw [List.getElem?_map, List.getElem?_map, hj]
      rfl
    have hall : Ok ((mCB allD (aCons (mLcW (kAny (mVar 8)) [9] (gN 9) (tYesM) (mChain leD leD (mC (.int 0)) (mVar 9) (mVar 6))) (aNil))) [some (tlD (T false) (onesL T) kk), some (.int (at_ : Nat)), some (vecD l), some (.ref f), some (.int (i : Nat)), some (.int ((T false).length : Nat)), some (.int rest), some (.str y), some (vecD (restL l y)), o9, o10] c') fun d c2 => d = .bl (inRow rest (restL l y)) ∧ c2 = c' := by
      refine ok_cb (ok_acons (ok_lcY (restL l y) D.int (fun x => D.bl (decide (0 ≤ x) && decide (x ≤ rest))) (by omega) (ok_ktree (ok_var rfl ⟨rfl, rfl⟩)) (fun x hx => ok_gn ⟨rfl, ?_⟩) (ok_anil (Ok.of (all_bls _ _ c') ⟨rfl, rfl⟩))))
      refine ok_chain (ok_c (ok_var rfl (Ok.of (show leD (.int 0) (.int x) c' = .ok (.bl (decide (0 ≤ x))) c' from rfl) ⟨_, rfl, fun h0 => ok_var rfl (Ok.of (show leD (.int x) (.int rest) c' = .ok (.bl (decide (x ≤ rest))) c' from rfl) ⟨?_, rfl⟩), fun h0 => ⟨?_, rfl⟩⟩)))
      · rw [h0]; rfl
      · rw [h0]; rfl
    have htk : (txs (T false).length).take (i + 1) = (txs (T false).length).take i ++ [y] := by rw [List.take_succ, hy]; rfl
    have hfl : ∀ b : Bool, (decide (Txt.count y "1" = ((T false).length : Int) - j) && inRow rest (restL l y)) = b → (((txs (T false).length).take (i + 1)).filter fun y => decide (Txt.count y "1" = ((T false).length : Int) - j) && inRow rest (restL l y)) =
        (((txs (T false).length).take i).filter fun y => decide (Txt.count y "1" = ((T false).length : Int) - j) && inRow rest (restL l y)) ++ if b = true then [y] else [] := fun b hb => by
      rw [htk, List.filter_append]
      congr 1
      simp only [List.filter_cons, List.filter_nil, hb]
    refine os_if (ok_tand (ok_t (ok_op (ok_m1 (ok_var rfl ⟨y, rfl, ok_c (Ok.of ecnt (ok_op (Ok.of (fldT rfl rfl rfl) (ok_var rfl (Ok.of hone (Ok.of (eq_ints _ _ c') ⟨_, rfl, fun hc => ok_t (hall.mono fun d c2 ⟨e1, e2⟩ => ?_), fun hc => ⟨fun z => Bool.noConfusion z, fun _ => os_nil ?_⟩⟩))))))⟩)))))
    · subst e1
      subst e2
      refine ⟨_, rfl, fun ha => ?_, fun ha => os_nil ?_⟩
      · have hg := hfl true (by rw [hc, ha]; rfl)
        have hlen := List.length_filter_le (fun y => decide (Txt.count y "1" = ((T false).length : Int) - j) && inRow rest (restL l y)) ((txs (T false).length).take i)
        rw [List.length_take] at hlen
        refine os_expr (ok_bm (ok_var rfl ⟨isL_ref g2, ok_acons (ok_tup (ok_acons (ok_var rfl (ok_acons (ok_var rfl (ok_anil ⟨Nat.le_of_ble_eq_true rfl, ok_anil ?_⟩))))))⟩))
        refine ok_append g2 (by rw [List.length_map]; omega) ?_
        refine ⟨_, _, _, _, _, rfl, pfx_set p2 hfc _, ?_⟩
        rw [List.getElem?_set_self (List.getElem?_eq_some_iff.mp g2).1, hg, List.map_append]
        rfl
      · have hg := hfl false (by rw [hc, ha]; rfl)
        refine ⟨_, _, _, _, _, rfl, p2, ?_⟩
        rw [hg]
        simpa using g2
    · have hg := hfl false (by rw [hc]; rfl)
      refine ⟨_, _, _, _, _, rfl, p2, ?_⟩
      rw [hg]
      simpa using g2

/-! ### the package's memo -/
def mkN (a : Nat) (v : Vec) : NestedKey := .tup [.num a, .tup (v.map .num)]
def keyD (a : Nat) (v : Vec) : D := .tup [.int (a : Nat), vecD v]
theorem all_int : ∀ v : Vec, (v.map D.int).all Mi.isInt = true
  | [] => rfl
  | _ :: v => all_int v
theorem keyish_vec : ∀ {v : Vec}, 1 ≤ v.length → keyish (v.map D.int) = true
  | [], h => by cases h
  | [_], _ => rfl
  | _ :: y :: v, _ => all_int (y :: v)
theorem nks_vec : ∀ v : Vec, nks nk0 (v.map D.int) = some (v.map .num)
  | [] => rfl
  | x :: v => by
    show (match nk0 (D.int x), nks nk0 (v.map D.int) with
      | some k, some ks => some (k :: ks)
      | _, _ => none) = _
    rw [nks_vec v]
    rfl
theorem nk1_vec {v : Vec} (h : 1 ≤ v.length) : nk1 (vecD v) = some (.tup (v.map .num)) := by
  show (if keyish (v.map D.int) = true then (nks nk0 (v.map D.int)).map NestedKey.tup else none) = _
  rw [if_pos (keyish_vec h), nks_vec]
  rfl
theorem nkey_kD {a : Nat} {v : Vec} (h : 1 ≤ v.length) : nkey (keyD a v) = some (mkN a v) := by
  show (if keyish [D.int (a : Nat), vecD v] = true then (nks nk1 [D.int (a : Nat), vecD v]).map NestedKey.tup else none) = _
  have e1 : keyish [D.int (a : Nat), vecD v] = true := all_int v
  have e2 : nks nk1 [D.int (a : Nat), vecD v] = some [.num (a : Nat), .tup (v.map .num)] := by
    show (match nk1 (D.int (a : Nat)), (match nk1 (vecD v), (some [] : Option (List NestedKey)) with
      | some k, some ks => some (k :: ks)
      | _, _ => none) with
      | some k, some ks => some (k :: ks)
      | _, _ => none) = _
    rw [nk1_vec h]
    rfl
  rw [if_pos e1, e2]
  rfl
theorem num_inj : ∀ {u v : Vec}, u.map NestedKey.num = v.map NestedKey.num → u = v
  | [], [], _ => rfl
  | [], _ :: _, h => by cases h
  | _ :: _, [], h => by cases h
  | x :: u, y :: v, h => by
    obtain ⟨h1, h2⟩ := List.cons.inj h
    rw [NestedKey.num.inj h1, num_inj h2]
theorem mkN_inj {a b : Nat} {u v : Vec} (h : mkN a u = mkN b v) : a = b ∧ u = v := by
  have h := NestedKey.tup.inj h
  obtain ⟨h1, h2⟩ := List.cons.inj h
  obtain ⟨h3, _⟩ := List.cons.inj h2
  exact ⟨Int.ofNat.inj (NestedKey.num.inj h1), num_inj (NestedKey.tup.inj h3)⟩
/-- an entry: the row's index and what the columns lack, and the number of ways -/
def enM (js : List Int) (e : Nat × Vec) : NestedKey × D := (mkN e.1 e.2, .int (wyN (js.drop e.1) e.2))
theorem memM {js : List Int} {M : List (Nat × Vec)} {a : Nat} {v : Vec} : mkN a v ∈ (M.map (enM js)).map Prod.fst ↔ (a, v) ∈ M := by
  rw [List.map_map, List.mem_map]
  constructor
  · rintro ⟨e, he, h⟩
    obtain ⟨h1, h2⟩ := mkN_inj h
    have : e = (a, v) := Prod.ext h1 h2
    rw [← this]
    exact he
  · intro h
    exact ⟨_, h, rfl⟩
theorem getM {js : List Int} {a : Nat} {v : Vec} : ∀ {M : List (Nat × Vec)}, (a, v) ∈ M → getNd (M.map (enM js)) (mkN a v) = some (.int (wyN (js.drop a) v))
  | [], h => by cases h
  | e :: M, h => by
    show (if mkN e.1 e.2 = mkN a v then some (D.int (wyN (js.drop e.1) e.2)) else getNd (M.map (enM js)) (mkN a v)) = _
    by_cases q : mkN e.1 e.2 = mkN a v
    · rw [if_pos q]
      obtain ⟨h1, h2⟩ := mkN_inj q
      rw [h1, h2]
    · rw [if_neg q]
      refine getM ((List.mem_cons.mp h).resolve_left fun z => q ?_)
      rw [← z]
theorem putM {js : List Int} {a : Nat} {v : Vec} : ∀ {M : List (Nat × Vec)}, (a, v) ∉ M → putNd (M.map (enM js)) (mkN a v) (.int (wyN (js.drop a) v)) = (M ++ [(a, v)]).map (enM js)
  | [], _ => rfl
  | e :: M, h => by
    rw [List.mem_cons, not_or] at h
    have ih := putM (js := js) h.2
    show (if mkN e.1 e.2 = mkN a v then (mkN e.1 e.2, D.int (wyN (js.drop a) v)) :: M.map (enM js) else enM js e :: putNd (M.map (enM js)) (mkN a v) (.int (wyN (js.drop a) v))) = _
    rw [if_neg fun z => h.1 (by obtain ⟨h1, h2⟩ := mkN_inj z; exact (Prod.ext h1 h2).symm), ih]
    rfl
theorem putM_old {js : List Int} {a : Nat} {v : Vec} : ∀ {M : List (Nat × Vec)}, (a, v) ∈ M → putNd (M.map (enM js)) (mkN a v) (.int (wyN (js.drop a) v)) = M.map (enM js)
  | [], h => by cases h
  | e :: M, h => by
    show (if mkN e.1 e.2 = mkN a v then (mkN e.1 e.2, D.int (wyN (js.drop a) v)) :: M.map (enM js) else enM js e :: putNd (M.map (enM js)) (mkN a v) (.int (wyN (js.drop a) v))) = enM js e :: M.map (enM js)
    by_cases q : mkN e.1 e.2 = mkN a v
    · rw [if_pos q]
      obtain ⟨h1, h2⟩ := mkN_inj q
      unfold enM
      rw [h1, h2]
    · rw [if_neg q, putM_old ((List.mem_cons.mp h).resolve_left fun z => q (by rw [← z]))]
/-- what the memo holds -/
structure Mm (w : Nat) (js : List Int) (kk : Nat) (c : Cs) (M : List (Nat × Vec)) : Prop where
  at_ : c[kk]? = some (.dN PWc.P PWc.w (M.map (enM js)))
  nd : M.Nodup
  ok : ∀ e ∈ M, e.1 ≤ 6 ∧ VS w e.2
def allM (w : Nat) : List (Nat × Vec) := (List.range 7).flatMap fun a => (sv w 0).map fun v => (a, v)
theorem allM_len {w : Nat} (h : w ≤ 6) : (allM w).length ≤ 6468 := by
  have h1 := sv_len h
  have key : ∀ l : List Nat, (l.flatMap fun a => (sv w 0).map fun v => (a, v)).length = l.length * (sv w 0).length := fun l => by
    induction l with
    | nil => simp
    | cons x l ih => rw [List.flatMap_cons, List.length_append, ih, List.length_map, List.length_cons, Nat.succ_mul, Nat.add_comm]
  unfold allM
  rw [key, List.length_range]
  omega
theorem Mm.len {w kk : Nat} {js : List Int} {c : Cs} {M : List (Nat × Vec)} (h : Mm w js kk c M) (h6 : w ≤ 6) : M.length ≤ 6468 :=
  Nat.le_trans (nd_sub h.nd (l2 := allM w) fun e he => by
    obtain ⟨h1, h2⟩ := h.ok e he
    exact List.mem_flatMap.mpr ⟨e.1, List.mem_range.mpr (by omega), List.mem_map.mpr ⟨e.2, mem_sv h2.len h2.srt fun x hx => h2.bd x hx, rfl⟩⟩) (allM_len h6)
theorem Mm.pfx {w kk : Nat} {js : List Int} {c c' : Cs} {M : List (Nat × Vec)} (h : Mm w js kk c M) (p : Pfx c c') : Mm w js kk c' M := ⟨p.get h.at_, h.nd, h.ok⟩
theorem sort_vec (v : Vec) (c : Cs) : sortY [vecD v] c = .ok (iL (sortI v)) c := by
  show sortPY (vecD v) c = _
  have e : intsQ (vecD v) c = some v := by
    show intsOf (v.map D.int) = some v
    exact intsOf_map v
  unfold sortPY
  rw [e]
  rfl
theorem inM {w kk : Nat} {js : List Int} {c : Cs} {M : List (Nat × Vec)} {a : Nat} {v : Vec} (h : Mm w js kk c M) (hv : 1 ≤ v.length) : Mi.inN PWc.P PWc.w true (keyD a v) (.ref kk) c = .ok (.bl (!decide ((a, v) ∈ M))) c := by
  unfold Mi.inN
  rw [nkey_kD hv, dctN_of h.at_]
  show R.ok (D.bl (sgn true (decide (mkN a v ∈ (M.map (enM js)).map Prod.fst)))) c = _
  have e : decide (mkN a v ∈ (M.map (enM js)).map Prod.fst) = decide ((a, v) ∈ M) := by
    rw [Bool.eq_iff_iff, decide_eq_true_eq, decide_eq_true_eq]
    exact memM
  rw [e]
  rfl
theorem getNM {w kk : Nat} {js : List Int} {c : Cs} {M : List (Nat × Vec)} {a : Nat} {v : Vec} (h : Mm w js kk c M) (hv : 1 ≤ v.length) (hm : (a, v) ∈ M) : getN PWc.P PWc.w (.ref kk) (keyD a v) c = .ok (.int (wyN (js.drop a) v)) c := by
  unfold getN
  rw [nkey_kD hv, dctN_of h.at_]
  show (match getNd (M.map (enM js)) (mkN a v) with
    | some d => .ok d c
    | none => .stuck : Mi.R D) = _
  rw [getM hm]
theorem putNM {w kk : Nat} {js : List Int} {c : Cs} {M : List (Nat × Vec)} {a : Nat} {v : Vec} {x : Int} (h : Mm w js kk c M) (h6 : w ≤ 6) (hv : 1 ≤ v.length) (hm : (a, v) ∉ M) (hx : x = wyN (js.drop a) v) :
    putNR PWc.P PWc.w (.ref kk) (keyD a v) (.int x) c = .ok () (c.set kk (.dN PWc.P PWc.w ((M ++ [(a, v)]).map (enM js)))) := by
  have hl := h.len h6
  unfold putNR
  rw [nkey_kD hv, dctN_of h.at_]
  show (if (M.map (enM js)).length < 10000 then .ok () (c.set kk (.dN PWc.P PWc.w (putNd (M.map (enM js)) (mkN a v) (.int x)))) else .stuck : Mi.R Unit) = _
  rw [if_pos (by rw [List.length_map]; omega), hx, putM hm]
theorem putNM_old {w kk : Nat} {js : List Int} {c : Cs} {M : List (Nat × Vec)} {a : Nat} {v : Vec} (h : Mm w js kk c M) (h6 : w ≤ 6) (hv : 1 ≤ v.length) (hm : (a, v) ∈ M) :
    putNR PWc.P PWc.w (.ref kk) (keyD a v) (.int (wyN (js.drop a) v)) c = .ok () c := by
  have hl := h.len h6
  unfold putNR
  rw [nkey_kD hv, dctN_of h.at_]
  show (if (M.map (enM js)).length < 10000 then .ok () (c.set kk (.dN PWc.P PWc.w (putNd (M.map (enM js)) (mkN a v) (.int (wyN (js.drop a) v))))) else .stuck : Mi.R Unit) = _
  rw [if_pos (by rw [List.length_map]; omega), putM_old hm, set_same h.at_]
theorem Mm.put {w kk : Nat} {js : List Int} {c : Cs} {M : List (Nat × Vec)} {a : Nat} {v : Vec} (h : Mm w js kk c M) (ha : a ≤ 6) (hv : VS w v) (hm : (a, v) ∉ M) : Mm w js kk (c.set kk (.dN PWc.P PWc.w ((M ++ [(a, v)]).map (enM js)))) (M ++ [(a, v)]) := by
  refine ⟨List.getElem?_set_self (List.getElem?_eq_some_iff.mp h.at_).1, List.nodup_append.mpr ⟨h.nd, List.nodup_cons.mpr ⟨List.not_mem_nil, List.nodup_nil⟩, fun x hx y hy e => hm (by rw [← List.mem_singleton.mp hy, ← e]; exact hx)⟩, fun e he => ?_⟩
  rcases List.mem_append.mp he with z | z
  · exact h.ok e z
  · rw [List.mem_singleton.mp z]
    exact ⟨ha, hv⟩
theorem ok_gSN {P : Program} {w : World} {o i : ME} {d : D} {l : Ls} {c : Cs} {Q : Ls → Cs → Prop} (h : Ok (o l c) fun x c1 => Ok (i l c1) fun y c2 => Ok (putNR P w x y d c2) fun _ c3 => Q l c3) : Ok (gSN P w o i d l c) Q :=
  Ok.bind (h.mono fun _ _ h => Ok.bind (h.mono fun _ _ h => Ok.bind (h.mono fun _ _ h => ⟨_, _, rfl, h⟩)))
theorem Gr.setk {kb : Nat} {a b : Cs} (h : Gr kb a b) (x : Cell) : Gr kb a (b.set kb x) := ⟨by rw [List.length_set]; exact h.1, fun j hj hl => by rw [List.getElem?_set_ne (fun z => hj z.symm)]; exact h.2 j hj hl⟩
theorem inRow_bd {rest : Int} {r : Vec} (h : inRow rest r = true) : ∀ x ∈ r, 0 ≤ x ∧ x ≤ rest := fun x hx => by
  have := List.all_eq_true.mp h x hx
  rw [Bool.and_eq_true, decide_eq_true_eq, decide_eq_true_eq] at this
  exact this
theorem sum_ints (ns : List Int) (c : Cs) : sumY [iL ns] c = .ok (.int ns.sum) c := by
  have e : intsOf (ns.map D.int) = some ns := intsOf_map ns
  have e2 : lstC (iL ns) c = some (ns.map D.int) := rfl
  show onInts (fun ns => some ns.sum) (.lst (ns.map D.int)) c = _
  unfold onInts
  have e2 : lstC (.lst (ns.map D.int)) c = some (ns.map D.int) := rfl
  simp only [e2, e]
theorem ways_ok {T : Bool → List Int} {kk : Nat} (w1 : 1 ≤ (T false).length) (w6 : (T false).length ≤ 6) (n6 : (T true).length ≤ 6) : ∀ (n : Nat) {a : Nat} {l : Vec} {c : Cs} {M : List (Nat × Vec)} {Q : D → Cs → Prop},
    (T true).length + 1 ≤ a + n → a ≤ (T true).length → l.length = (T false).length → (∀ x ∈ l, 0 ≤ x ∧ x ≤ 6) → Mm (T false).length (T true) kk c M → (∀ c' M', Gr kk c c' → Mm (T false).length (T true) kk c' M' → Q (.int (wyN ((T true).drop a) l)) c') →
    Ok (gTally__ways_r n [tlD (T false) (onesL T) kk, .int (a : Nat), vecD l] c) Q
  | 0, a, l, c, M, Q, hn, ha, _, _, _, _ => by omega
  | n + 1, a, l, c, M, Q, hn, ha, hl, hb, hM, q => by
    have hz : sizeLine = 16777216 := sizeLine_eq
    have p := sortI_perm l
    have hs1 : (sortI l).length = (T false).length := p.length_eq.trans hl
    have hsv : VS (T false).length (sortI l) := ⟨hs1, sortI_sorted l, fun x hx => hb x (p.mem_iff.mp hx)⟩
    have hs : 1 ≤ (sortI l).length := by rw [hs1]; exact w1
    have hones : (onesL T).length = (T true).length := List.length_map ..
    have hlo : ∀ c', lenD [iL (onesL T)] c' = .ok (.int ((T true).length : Nat)) c' := fun c' => by
      have := len_seq (v := iL (onesL T)) (c := c') (xs := (onesL T).map D.int) rfl
      rw [List.length_map, hones] at this
      exact this
    -- what is returned
    have last : ∀ (c' : Cs) (M' : List (Nat × Vec)) (o4 o5 : Option D), Gr kk c c' → Mm (T false).length (T true) kk c' M' → (a, sortI l) ∈ M' →
        OkS (sRet (mOp (getN PWc.P PWc.w) (mFld ["Tally"] "known_ways" (mVar 0)) (mVar 3)) [some (tlD (T false) (onesL T) kk), some (.int (a : Nat)), some (vecD l), some (keyD a (sortI l)), o4, o5] c') fun f c => match f with
          | .rt d => Q d c
          | .nx _ => Q .non c
          | _ => False := fun c' M' o4 o5 g hM' hm => by
      refine os_ret (ok_op (Ok.of (fldT rfl rfl rfl) (ok_var rfl (Ok.of (getNM hM' hs hm) ?_))))
      rw [wyN_perm p]
      exact q c' M' g hM'
    refine Ok.fun rfl ?_
    unfold cTally__ways
    refine os_seq (os_set (ok_tup (ok_acons (ok_var rfl (ok_acons (ok_cb (ok_acons (ok_cb (ok_acons (ok_var rfl (ok_anil (Ok.of (sort_vec l c) (ok_anil (Ok.of (tup_iL _ c) (ok_anil ⟨Nat.le_of_ble_eq_true rfl, ?_⟩)))))))))))))))
    refine os_seq (os_if (ok_t (ok_op (ok_var rfl (Ok.of (fldT rfl rfl rfl) (Ok.of (inM (a := a) (v := sortI l) hM hs) ⟨_, rfl, fun hk => ?_, fun hk => os_nil ?_⟩))))))
    · have hk : (a, sortI l) ∉ M := of_decide_eq_false (by simpa using hk)
      refine os_if (ok_t (ok_op (ok_var rfl (ok_cb (ok_acons (Ok.of (fldT rfl rfl rfl) (ok_anil (Ok.of (hlo c) (Ok.of (eq_ints _ _ c) ⟨_, rfl, fun he => ?_, fun he => ?_⟩)))))))))
      · have he : a = (T true).length := Int.ofNat.inj (of_decide_eq_true he)
        have hd : (T true).drop a = [] := by rw [he]; exact List.drop_length
        have hval : ∀ b : Bool, someI l = b → (if (!b) = true then (1 : Int) else 0) = wyN ((T true).drop a) (sortI l) := fun b hb2 => by
          rw [hd, wyN_perm p]
          unfold wyN
          have : (l.all fun x => x == 0) = !someI l := by
            unfold someI
            rw [List.not_any_eq_all_not]
            refine List.all_congr rfl fun x => ?_
            show (x == 0) = !(!(x == 0))
            rw [Bool.not_not]
          rw [this, hb2]
        refine os_asg (ok_cb (ok_acons (ok_not (ok_cb (ok_acons (ok_var rfl (ok_anil (ok_anyT ⟨_, rfl, ok_anil (Ok.of (show intFD [.bl (!someI l)] c = .ok (.int (if (!someI l) = true then 1 else 0)) c from by cases someI l <;> rfl) ?_)⟩)))))))) 
        refine ok_gSN (Ok.of (fldT rfl rfl rfl) (ok_var rfl (Ok.of (putNM hM w6 hs hk (hval _ rfl)) ?_)))
        exact last _ _ _ _ ((Gr.refl kk c).setk _) (hM.put (by omega) hsv hk) (List.mem_append_right _ (List.mem_singleton.mpr rfl))
      · have hlt : a < (T true).length := by
          have : ¬ (a : Int) = (T true).length := of_decide_eq_false he
          omega
        obtain ⟨j, hj⟩ : ∃ j, (T true)[a]? = some j := ⟨_, List.getElem?_eq_getElem hlt⟩
        have hdrop : (T true).drop a = j :: (T true).drop (a + 1) := by
          rw [List.drop_eq_getElem_cons hlt]
          rw [List.getElem?_eq_getElem hlt] at hj
          rw [Option.some.inj hj]
        have hi1 : itemD (keyD a (sortI l)) (.int 1) c = .ok (vecD (sortI l)) c := rfl
        have hsum := next_sum (w := (T false).length) (j := j) (js := (T true).drop (a + 1)) (l := sortI l) hs1
        rw [← hdrop] at hsum
        have hrlen : (((T true).drop (a + 1)).length : Int) ≤ 6 := by
          rw [List.length_drop]
          omega
        have hzs : ∀ y ∈ nextL (T false).length j (((T true).drop (a + 1)).length : Nat) (sortI l), (restL (sortI l) y).length = (T false).length ∧ ∀ x ∈ restL (sortI l) y, 0 ≤ x ∧ x ≤ 6 := fun y hy => by
          unfold nextL at hy
          obtain ⟨h1, h2⟩ := List.mem_filter.mp hy
          rw [Bool.and_eq_true] at h2
          refine ⟨(rest_len ((mem_txs.mp h1).1.trans hs1.symm)).trans hs1, fun x hx => ?_⟩
          have := inRow_bd h2.2 x hx
          omega
        have hlenL : (nextL (T false).length j (((T true).drop (a + 1)).length : Nat) (sortI l)).length ≤ 64 := by
          refine Nat.le_trans (List.length_filter_le _ _) ?_
          rw [txs, List.length_map, bts_len]
          exact Nat.le_trans (Nat.pow_le_pow_right (by decide) w6) (by decide)
        refine os_asg (ok_cb (ok_acons (ok_lc (ok_ilst (ok_meth (ok_var rfl ⟨tl_is _ _ _ _ _ rfl, ok_acons (ok_var rfl (ok_acons (ok_op (ok_var rfl (ok_c (Ok.of hi1 (ok_anil (nextok_ok (l := sortI l) w1 w6 hj n6 hs1 fun c1 p1 => .inl ⟨_, rfl, ?_⟩))))))))⟩))))))
        generalize nextL (T false).length j (((T true).drop (a + 1)).length : Nat) (sortI l) = Y at hsum hzs hlenL ⊢
        refine comp_ok (fun ds acc c' => ∃ dn rest M', Y = dn ++ rest ∧ ds = rest.map (nxD (sortI l)) ∧ acc = dn.map (fun y => D.int (wyN ((T true).drop (a + 1)) (restL (sortI l) y))) ∧ Gr kk c c' ∧ Mm (T false).length (T true) kk c' M') ?_ ?_ _ _ _ ⟨[], Y, M, rfl, rfl, rfl, .of p1, hM.pfx p1⟩
        · rintro acc c' ⟨dn, rest, M', e1, e2, rfl, g', hM'⟩
          have hr : rest = [] := by
            cases rest with
            | nil => rfl
            | cons a b => cases e2
          subst hr
          rw [List.append_nil] at e1
          subst e1
          have hlst : D.lst (Y.map fun y => D.int (wyN ((T true).drop (a + 1)) (restL (sortI l) y))) = iL (Y.map fun y => wyN ((T true).drop (a + 1)) (restL (sortI l) y)) := by
            unfold iL
            rw [List.map_map]
            rfl
          rw [hlst]
          refine ok_anil (Ok.of (sum_ints _ c') (ok_gSN (Ok.of (fldT rfl rfl rfl) (ok_var rfl ?_))))
          rw [hsum]
          by_cases hm : (a, sortI l) ∈ M'
          · refine Ok.of (putNM_old hM' w6 hs hm) ?_
            exact last _ _ _ _ g' hM' hm
          · refine Ok.of (putNM hM' w6 hs hm rfl) ?_
            exact last _ _ _ _ (g'.setk _) (hM'.put (by omega) hsv hm) (List.mem_append_right _ (List.mem_singleton.mpr rfl))
        · rintro d ds acc c' ⟨dn, rest, M', e1, e2, rfl, g', hM'⟩
          obtain ⟨y, rest, rfl⟩ : ∃ y r2, rest = y :: r2 := by
            cases rest with
            | nil => cases e2
            | cons y r2 => exact ⟨y, r2, rfl⟩
          obtain ⟨e3, e4⟩ := List.cons.inj e2
          subst e3
          obtain ⟨z1, z2⟩ := hzs y (by rw [e1]; exact List.mem_append_right _ List.mem_cons_self)
          refine ⟨_, _, rfl, _, _, rfl, ?_⟩
          have hadd : addD (.int (a : Nat)) (.int 1) c' = .ok (.int ((a + 1 : Nat) : Int)) c' := rfl
          refine ok_meth (ok_var rfl ⟨tl_is _ _ _ _ _ rfl, ok_acons (ok_op (ok_var rfl (ok_c (Ok.of hadd (ok_acons (ok_var rfl (ok_anil (ways_ok w1 w6 n6 n (a := a + 1) (l := restL (sortI l) y) (by omega) (by omega) z1 z2 hM' fun c2 M2 g2 hM2 => ?_))))))))⟩)
          have hdl : dn.length ≤ 64 := by
            have := congrArg List.length e1
            rw [List.length_append] at this
            omega
          exact ⟨by rw [List.length_map]; omega, dn ++ [y], rest, M2, by rw [List.append_assoc]; exact e1, e4, by rw [List.map_append]; rfl, g'.trans g2, hM2⟩
    · have hk : (a, sortI l) ∈ M := of_decide_eq_true (by simpa using hk)
      exact last c M _ _ (Gr.refl kk c) hM hk

/-! ### how large the counts are -/
theorem rl_len : ∀ {l r : List Int}, RL l r → r.length = l.length
  | [], [], _ => rfl
  | [], _ :: _, h => h.elim
  | _ :: _, [], h => h.elim
  | _ :: _, _ :: _, ⟨_, h⟩ => congrArg (· + 1) (rl_len h)
theorem gSm_bd {B : Int} : ∀ {l : List Int} {f : List Int → Nat → Int}, (∀ r z, RL l r → 0 ≤ f r z ∧ f r z ≤ B) → 0 ≤ gSm l f ∧ gSm l f ≤ 2 ^ l.length * B
  | [], f, h => by
    have := h [] 0 trivial
    show 0 ≤ f [] 0 ∧ f [] 0 ≤ 1 * B
    omega
  | x :: l, f, h => by
    have h1 := gSm_bd (l := l) (f := fun r z => f ((x - 0) :: r) (z + 1)) (B := B) fun r z hr => h _ _ ⟨.inl rfl, hr⟩
    have h2 := gSm_bd (l := l) (f := fun r z => f ((x - 1) :: r) z) (B := B) fun r z hr => h _ _ ⟨.inr rfl, hr⟩
    have e : gSm (x :: l) f = gSm l (fun r z => f ((x - 0) :: r) (z + 1)) + gSm l (fun r z => f ((x - 1) :: r) z) := rfl
    rw [e, List.length_cons, Int.pow_succ, Int.mul_assoc, Int.mul_comm 2 B, ← Int.mul_assoc]
    omega
theorem wyN_bd : ∀ {js l : List Int}, l.length ≤ 6 → 0 ≤ wyN js l ∧ wyN js l ≤ ((64 ^ js.length : Nat) : Int)
  | [], l, _ => by
    unfold wyN
    split <;> decide
  | j :: js, l, hl => by
    have h := gSm_bd (l := l) (f := fun r z => if (z : Int) = j then wyN js r else 0) (B := ((64 ^ js.length : Nat) : Int)) fun r z hr => by
      have := wyN_bd (js := js) (l := r) (by rw [rl_len hr]; exact hl)
      split
      · exact this
      · omega
    have e : wyN (j :: js) l = gSm l fun r z => if (z : Int) = j then wyN js r else 0 := rfl
    rw [e]
    refine ⟨h.1, Int.le_trans h.2 ?_⟩
    have h2 : (2 : Int) ^ l.length = ((2 ^ l.length : Nat) : Int) := by rw [Int.natCast_pow]; rfl
    rw [h2, ← Int.natCast_mul, List.length_cons, Nat.pow_succ, Nat.mul_comm]
    exact Int.ofNat_le.mpr (Nat.mul_le_mul_left _ (Nat.le_trans (Nat.pow_le_pow_right (by decide) hl) (by decide)))
theorem repr_wy {js l : List Int} (hl : l.length ≤ 6) (hj : js.length ≤ 6) (c : Cs) : reprX [.int (wyN js l)] c = .ok (.str (PyData.int (wyN js l)).shown) c := by
  obtain ⟨h1, h2⟩ := wyN_bd (js := js) hl
  have h3 : 64 ^ js.length ≤ 64 ^ 6 := Nat.pow_le_pow_right (by decide) hj
  have h4 : (wyN js l).natAbs < 10 ^ 40 := Nat.lt_of_le_of_lt (show (wyN js l).natAbs ≤ 64 ^ 6 by omega) (by decide +kernel)
  have hd : bP (.int (wyN js l)) = true := decide_eq_true h4
  show reprQ (.int (wyN js l)) c = _
  unfold reprQ
  have e : toPyC 30 c (.int (wyN js l)) = some (.int (wyN js l)) := rfl
  rw [e]
  exact if_pos (okR_w hd (by show 45 ≤ 16777216; decide) (by simp [PyData.depth]))
/-! ### a Tally made -/
def TlI (c : Cs) (fs : List (Str × D)) (more : List Cell) : Cs := c ++ Cell.ins "Tally" fs :: more
theorem tlI_at (c : Cs) (fs : List (Str × D)) (more : List Cell) : (TlI c fs more)[c.length]? = some (.ins "Tally" fs) := by simp [TlI]
theorem tlI_set (c : Cs) (fs gs : List (Str × D)) (more : List Cell) : (TlI c fs more).set c.length (.ins "Tally" gs) = TlI c gs more := by simp [TlI, List.set_append]
theorem tlI_push (c : Cs) (fs : List (Str × D)) (more : List Cell) (x : Cell) : TlI c fs more ++ [x] = TlI c fs (more ++ [x]) := by simp [TlI]
theorem tlI_len (c : Cs) (fs : List (Str × D)) (more : List Cell) : (TlI c fs more).length = c.length + 1 + more.length := by simp [TlI]; omega
theorem tlI_pfx (c : Cs) (fs : List (Str × D)) (more : List Cell) : Pfx c (TlI c fs more) := ⟨_, rfl⟩
theorem Gr.toPfx {k : Nat} {c c1 c2 : Cs} (g : Gr k c1 c2) (p : Pfx c c1) (h : c.length ≤ k) : Pfx c c2 := by
  have hl := p.len
  refine ⟨c2.drop c.length, List.ext_getElem? fun i => ?_⟩
  by_cases hi : i < c.length
  · rw [List.getElem?_append_left hi, g.2 i (by omega) (by omega), p.at hi]
  · rw [List.getElem?_append_right (by omega), List.getElem?_drop]
    congr 1
    omega
theorem len_T (T : Bool → List Int) (b : Bool) (c : Cs) : lenD [iL (T b)] c = .ok (.int ((T b).length : Nat)) c := by
  have := len_seq (v := iL (T b)) (c := c) (xs := (T b).map D.int) rfl
  rw [List.length_map] at this
  exact this
theorem gt_six {n : Nat} (h : n ≤ 6) (c : Cs) : gtD (.int (n : Nat)) (.int 6) c = .ok (.bl false) c := by
  show R.ok (D.bl (decide ((6 : Int) < (n : Nat)))) c = _
  rw [decide_eq_false (by omega)]
section
variable {T : Bool → List Int} {kd : Nat} {c : Cs}
theorem wps_m {l : Ls} {c' : Cs} {i : Nat} {Q : D → Cs → Prop} (h : Kp T kd c') (hl : l[i]? = some (some (scoD kd))) (q : Q (iL (T false)) c') : Ok (mMeth [("Scores", gScores__warps)] "warps" (mVar i) aNil l c') Q :=
  ok_meth (ok_var hl ⟨⟨_, rfl, rfl⟩, ok_anil (Ok.of (wps_ok h) q)⟩)
theorem wfs_m {l : Ls} {c' : Cs} {i : Nat} {Q : D → Cs → Prop} (h : Kp T kd c') (hl : l[i]? = some (some (scoD kd))) (q : Q (iL (T true)) c') : Ok (mMeth [("Scores", gScores__wefts)] "wefts" (mVar i) aNil l c') Q :=
  ok_meth (ok_var hl ⟨⟨_, rfl, rfl⟩, ok_anil (Ok.of (wfs_ok h) q)⟩)
theorem tl_init {Q : D → Cs → Prop} (h : Kp T kd c) (h6 : ∀ b, (T b).length ≤ 6) (q : Q .non (TlI c (tlF (T false) (onesL T) (c.length + 1)) [.dN PWc.P PWc.w []])) : Ok (gTally____init__ [.ref c.length, scoD kd] (TlI c [] [])) Q := by
  have hz : sizeLine = 16777216 := sizeLine_eq
  have n6 := h6 true
  refine Ok.fun rfl ?_
  unfold cTally____init__
  have K0 := h.pfx (tlI_pfx c [] [])
  refine os_seq (os_for (ok_itup (ok_tup (ok_acons (ok_cb (ok_acons (wps_m K0 rfl (ok_anil (Ok.of (len_T T false _) (ok_acons (ok_cb (ok_acons (wfs_m K0 rfl (ok_anil (Ok.of (len_T T true _) (ok_anil ⟨Nat.le_of_ble_eq_true rfl, _, rfl, ?_⟩))))))))))))))))
  refine os_fcons (ok_gn (os_if (ok_t (ok_op (ok_var rfl (ok_c (Ok.of (gt_six (h6 false) _) ⟨_, rfl, fun z => Bool.noConfusion z, fun _ => os_nil ?_⟩)))))))
  refine os_fcons (ok_gn (os_if (ok_t (ok_op (ok_var rfl (ok_c (Ok.of (gt_six (h6 true) _) ⟨_, rfl, fun z => Bool.noConfusion z, fun _ => os_nil ?_⟩)))))))
  refine os_fnil ?_
  refine os_seq (os_fldX (ok_cb (ok_acons (wps_m K0 rfl (ok_anil (Ok.of (tup_iL _ _) (ok_var rfl ⟨c.length, _, _, rfl, tlI_at _ _ _, ⟨by simp, by simp⟩, ?_⟩)))))))
  rw [tlI_set]
  have e1 : putFD "all_lacks" (vecD (T false)) [] = [(("all_lacks" : Str), vecD (T false))] := rfl
  rw [e1]
  have K1 := h.pfx (tlI_pfx c [(("all_lacks" : Str), vecD (T false))] [])
  have hit : (iLst (mMeth [("Scores", gScores__wefts)] "wefts" (mVar 1) aNil)) [some (.ref c.length), some (scoD kd), some (.int ((T true).length : Nat)), none] (TlI c [(("all_lacks" : Str), vecD (T false))] []) = .ok ((T true).map D.int) (TlI c [(("all_lacks" : Str), vecD (T false))] []) :=
    Ok.eq (ok_ilst (wfs_m K1 rfl (.inl ⟨_, rfl, rfl, rfl⟩)))
  refine os_seq (os_fldX (ok_mlc hit (by rw [List.length_map]; omega) (ok_lcY (T true) D.int (fun j => D.int (((T false).length : Int) - j)) (by omega) (ok_kfix hit ⟨rfl, fun i _ => rfl⟩) (fun j hj => ok_gn ⟨rfl, ok_op (ok_cb (ok_acons (wps_m K1 rfl (ok_anil (Ok.of (len_T T false _) (ok_var rfl ⟨_, _, rfl, rfl, rfl⟩))))))⟩) ?_)))
  have e2 : D.lst ((T true).map fun j => D.int (((T false).length : Int) - j)) = iL (onesL T) := by
    unfold iL onesL
    rw [List.map_map]
    rfl
  rw [e2]
  refine ok_var rfl ⟨c.length, _, _, rfl, tlI_at _ _ _, ⟨by simp, by simp⟩, ?_⟩
  rw [tlI_set]
  have e3 : putFD "row_ones" (iL (onesL T)) [(("all_lacks" : Str), vecD (T false))] = [(("all_lacks" : Str), vecD (T false)), (("row_ones" : Str), iL (onesL T))] := by kernel_rfl
  rw [e3]
  refine os_fldX ⟨_, _, rfl, ?_⟩
  rw [tlI_push, tlI_len]
  refine ok_var rfl ⟨c.length, _, _, rfl, tlI_at _ _ _, ⟨by simp, by simp⟩, ?_⟩
  rw [tlI_set]
  have e4 : putFD "known_ways" (.ref (c.length + 1 + ([] : List Cell).length)) [(("all_lacks" : Str), vecD (T false)), (("row_ones" : Str), iL (onesL T))] = tlF (T false) (onesL T) (c.length + 1) := by
    show putFD "known_ways" (.ref (c.length + 1)) [(("all_lacks" : Str), vecD (T false)), (("row_ones" : Str), iL (onesL T))] = _
    kernel_rfl
  rw [e4]
  exact q
theorem cnt_ok {Q : D → Cs → Prop} (h : Kp T kd c) (w1 : 1 ≤ (T false).length) (h6 : ∀ b, (T b).length ≤ 6) (hb : ∀ x ∈ T false, 0 ≤ x ∧ x ≤ 6) (q : ∀ c', Pfx c c' → Q (.int (wyN (T true) (T false))) c') : Ok (gcount_cloths [scoD kd] c) Q := by
  refine Ok.fun rfl ?_
  unfold ccount_cloths
  refine os_seq (os_expr (ok_cb (ok_acons (ok_var rfl (ok_anil (nsc_ok fun _ => ?_))))))
  have hmake : Ok (mFrzI (mMake "Tally" gTally____init__ (aCons (mVar 0) (aNil))) [some (scoD kd)] c) fun d c1 => d = tlD (T false) (onesL T) (c.length + 1) ∧ Pfx c c1 ∧ Mm (T false).length (T true) (c.length + 1) c1 [] := by
    unfold mFrzI mMake
    refine Ok.bind (Ok.bind (ok_acons (ok_var rfl (ok_anil ?_))))
    unfold mkR
    refine Ok.bind (tl_init h h6 ?_)
    refine ⟨_, _, rfl, ?_⟩
    unfold frzI
    simp only [tlI_at]
    have e1 : ∀ (fs : List (Str × D)) (X a : Cell), (TlI c fs [a]).set c.length X = c ++ X :: [a] := fun fs X a => by simp [TlI, List.set_append]
    rw [e1]
    refine ⟨_, _, rfl, rfl, ⟨_, rfl⟩, ⟨?_, List.nodup_nil, nofun⟩⟩
    rw [List.getElem?_append_right (by omega)]
    show (_ :: [Cell.dN PWc.P PWc.w []])[c.length + 1 - c.length]? = _
    rw [Nat.add_sub_cancel_left]
    rfl
  refine os_ret (ok_meth (hmake.mono fun d c1 ⟨ed, p1, hM⟩ => ?_))
  subst ed
  refine ⟨tl_is _ _ _ _ _ rfl, ok_anil ?_⟩
  refine Ok.fun rfl ?_
  unfold cTally__many
  refine os_ret (ok_meth (ok_var rfl ⟨tl_is _ _ _ _ _ rfl, ok_acons (ok_c (ok_acons (Ok.of (fldT rfl rfl rfl) (ok_anil (ways_ok w1 (h6 false) (h6 true) 12 (a := 0) (l := T false) (by have := h6 true; omega) (Nat.zero_le _) rfl hb hM fun c2 M2 g2 _ => ?_)))))⟩))
  exact q c2 (g2.toPfx p1 (by omega))
end
/-! ### the law -/
section
variable {s0 : D} {i0 k w h t0 : Nat} {T : Bool → List Int} {ys : List Str} {n : Int} {c : Cs} {o4 o7 o8 o9 o10 o11 : Option D} {QS : Fl → Cs → Prop}
def LW (s0 : D) (i0 k : Nat) (ys : List Str) (o4 : Option D) (w h : Nat) (o7 o8 o9 o10 o11 : Option D) : Ls := [some s0, some (.int (i0 : Nat)), some (.ref k), some (.lst (ys.map D.str)), o4, some (.int (w : Nat)), some (.int (h : Nat)), o7, o8, o9, o10, o11]
noncomputable def ASKC : MS := (sIf (tOrM (mT (mOp neX (mCB reprX (aCons (mCB gcount_cloths (aCons (mVar 10) (aNil))) (aNil))) (mCB reprX (aCons (mVar 8) (aNil))))) (mT (mOp neX (mCB reprX (aCons (mCB gcount_cloths (aCons (mVar 10) (aNil))) (aNil))) (mCB reprX (aCons (mVar 8) (aNil)))))) (sRet (mC (.bl false))) (sNil))
theorem ne_same59 (s : Str) (c : Cs) : neX (.str s) (.str s) c = .ok (.bl false) c := by
  rw [ne_strs, decide_eq_true rfl]
  rfl
theorem askc_ok {U : Bool → List Int} {kd : Nat} {m : Int} {l : Ls} (h10 : l[10]? = some (some (scoD kd))) (h8 : l[8]? = some (some (.int m))) (K : Kp U kd c) (u1 : 1 ≤ (U false).length) (u6 : ∀ b, (U b).length ≤ 6) (hb : ∀ x ∈ U false, 0 ≤ x ∧ x ≤ 6) (hm : wyN (U true) (U false) = m)
    (q : ∀ c', Pfx c c' → QS (.nx l) c') : OkS (ASKC l c) QS := by
  have rp : ∀ c', reprX [.int (wyN (U true) (U false))] c' = .ok (.str (PyData.int (wyN (U true) (U false))).shown) c' := fun c' => repr_wy (u6 false) (u6 true) c'
  unfold ASKC
  subst hm
  refine os_if (ok_tor (ok_t (ok_op (ok_cb (ok_acons (ok_cb (ok_acons (ok_var h10 (ok_anil (cnt_ok K u1 u6 hb fun c1 p1 => ok_anil (Ok.of (rp c1) (ok_cb (ok_acons (ok_var h8 (ok_anil (Ok.of (rp c1) (Ok.of (ne_same59 _ c1) ⟨_, rfl, fun z => Bool.noConfusion z, fun _ => ?_⟩)))))))))))))))))
  refine ok_t (ok_op (ok_cb (ok_acons (ok_cb (ok_acons (ok_var h10 (ok_anil (cnt_ok (K.pfx p1) u1 u6 hb fun c2 p2 => ok_anil (Ok.of (rp c2) (ok_cb (ok_acons (ok_var h8 (ok_anil (Ok.of (rp c2) (Ok.of (ne_same59 _ c2) ⟨_, rfl, fun z => Bool.noConfusion z, fun _ => os_nil (q c2 (p1.trans p2))⟩)))))))))))))))
noncomputable def TURN59 : MS := (sSeq (sSet 7 (mIf (mT (mOp eqX (mVar 4) (mC (.int 0)))) (mCB g_law_scores (aCons (mVar 3) (aNil))) (mCB g_law_moved (aCons (mVar 2) (aCons (mCB g_law_scores (aCons (mVar 3) (aNil))) (aNil)))))) (sSeq (sSet 8 (mCB g_law_count (aCons (mVar 7) (aNil)))) (sSeq (sSet 9 (mCB g_law_mixed (aCons (mVar 2) (aCons (mOp itemD (mVar 7) (mC (.int 0))) (aNil))))) (sFor (iLst (mLst (aCons (mFrzI (mMake "Scores" gScores____init__ (aCons (mOp itemD (mVar 7) (mC (.int 0))) (aCons (mOp itemD (mVar 7) (mC (.int 1))) (aNil))))) (aCons (mFrzI (mMake "Scores" gScores____init__ (aCons (mCB tupleD (aCons (mVar 9) (aNil))) (aCons (mCB g_law_mixed (aCons (mVar 2) (aCons (mOp itemD (mVar 7) (mC (.int 1))) (aNil)))) (aNil))))) (aNil))))) (gN 10) ASKC))))
theorem st_perm {T U : Bool → List Int} (hS : ST T 0) (h : ∀ b, (U b).Perm (T b)) : ST U 0 := by
  have e : ∀ b, (U b).length = (T b).length := fun b => (h b).length_eq
  have sp : ∀ {a b : List Int}, a.Perm b → a.sum = b.sum := fun p => by
    induction p with
    | nil => rfl
    | cons x p ih => rw [List.sum_cons, List.sum_cons, ih]
    | swap x y l => simp only [List.sum_cons]; omega
    | trans p q h1 h2 => exact h1.trans h2
  refine ⟨fun b => by rw [e]; exact hS.l1 b, fun b => by rw [e]; exact hS.l8 b, fun b x hx => by rw [e]; exact hS.bd b x ((h b).mem_iff.mp hx), ?_⟩
  rw [e, e, sp (h false), sp (h true)]
  exact hS.tot
theorem turn59_ok (hr : RwS ys w) (w6 : w ≤ 6) (hlen : ys.length = h) (h6 : ys.length ≤ 6) (hb : Bx c k n) (hn : n ≤ 600000) (q : ∀ o7 o8 o9 o10 o11 c', Bx c' k (n + 300) → QS (.nx (LW s0 i0 k ys (some (.int (t0 : Nat))) w h o7 o8 o9 o10 o11)) c') :
    OkS (TURN59 (LW s0 i0 k ys (some (.int (t0 : Nat))) w h o7 o8 o9 o10 o11) c) QS := by
  unfold TURN59
  have e1 : (lstT ys w false).length = w := by simp [lstT]
  have e2 : (lstT ys w true).length = ys.length := by
    show (ys.map _).length = ys.length
    rw [List.length_map]
  have e0 : (.tup [.lst ((lstT ys w false).map D.int), .lst ((lstT ys w true).map D.int)] : D) = liD (lstT ys w) := rfl
  have hS := lst_ST hr
  have cont : ∀ T c', ST T 0 → (T false).length ≤ 6 → (T true).length ≤ 6 → Bx c' k (n + 40) → OkS ((sSeq (sSet 8 (mCB g_law_count (aCons (mVar 7) (aNil)))) (sSeq (sSet 9 (mCB g_law_mixed (aCons (mVar 2) (aCons (mOp itemD (mVar 7) (mC (.int 0))) (aNil))))) (sFor (iLst (mLst (aCons (mFrzI (mMake "Scores" gScores____init__ (aCons (mOp itemD (mVar 7) (mC (.int 0))) (aCons (mOp itemD (mVar 7) (mC (.int 1))) (aNil))))) (aCons (mFrzI (mMake "Scores" gScores____init__ (aCons (mCB tupleD (aCons (mVar 9) (aNil))) (aCons (mCB g_law_mixed (aCons (mVar 2) (aCons (mOp itemD (mVar 7) (mC (.int 1))) (aNil)))) (aNil))))) (aNil))))) (gN 10) ASKC)))
      (LW s0 i0 k ys (some (.int (t0 : Nat))) w h (some (liD T)) o8 o9 o10 o11) c') QS := fun T c' hT a1 a2 b' => by
    have t6 : ∀ b, (T b).length ≤ 6 := fun b => by cases b <;> assumption
    have tb : ∀ x ∈ T false, 0 ≤ x ∧ x ≤ 6 := fun x hx => by
      have := hT.bd false x hx
      have h2 : (T (!false)).length ≤ 6 := a2
      omega
    have i0' : ∀ c', itemD (liD T) (.int 0) c' = .ok (iL (T false)) c' := fun c' => rfl
    have i1' : ∀ c', itemD (liD T) (.int 1) c' = .ok (iL (T true)) c' := fun c' => rfl
    refine os_seq (os_set (ok_cb (ok_acons (ok_var rfl (ok_anil (count_ok (hT.l1 false) t6 tb fun c1 p1 => ?_))))))
    have b1 := bx_pfx b' p1
    refine os_seq (os_set (ok_cb (ok_acons (ok_var rfl (ok_acons (ok_op (ok_var rfl (ok_c (Ok.of (i0' _) (ok_anil (lmixV_ok (enc := D.int) (xs := T false) (v := iL (T false)) b1 (by omega) (by omega) (fun _ _ => rfl) fun ws c2 pw b2 G2 => ?_)))))))))))
    refine os_for (ok_ilst (ok_lst (ok_acons (ok_makeG (T := T) (ok_acons (ok_op (ok_var rfl (ok_c (Ok.of (i0' _) (ok_acons (ok_op (ok_var rfl (ok_c (Ok.of (i1' _) (ok_anil ⟨_, _, rfl, hT, .inl rfl, .inl rfl, fun ka c3 p3 K3 => ?_⟩)))))))))))))))
    have b3 := bx_pfx b2 p3
    refine ok_acons (Ok.mono (Q := fun d c4 => ∃ (U : Bool → List Int) (kb : Nat), d = scoD kb ∧ Kp U kb c4 ∧ Kp T ka c4 ∧ (∀ b, (U b).Perm (T b)) ∧ Bx c4 k (n + 40 + 64 + 64)) ?_ fun d c4 ⟨U, kb, ed, KU, KT, hp, b4⟩ => ?_)
    · have hmk : Ok ((aCons (mCB tupleD (aCons (mVar 9) (aNil))) (aCons (mCB g_law_mixed (aCons (mVar 2) (aCons (mOp itemD (mVar 7) (mC (.int 1))) (aNil)))) (aNil)) : MA) (LW s0 i0 k ys (some (.int (t0 : Nat))) w h (some (liD T)) (some (.int (wyN (T true) (T false)))) (some (iL ws)) o10 o11) c3) fun xs c5 => ∃ vs : List Int, xs = [vecD ws, iL vs] ∧ vs.Perm (T true) ∧ Bx c5 k (n + 40 + 64 + 64) ∧ Kp T ka c5 := by
        refine ok_acons (ok_cb (ok_acons (ok_var rfl (ok_anil (Ok.of (tup_iL _ _) (ok_acons (ok_cb (ok_acons (ok_var rfl (ok_acons (ok_op (ok_var rfl (ok_c (Ok.of (i1' _) (ok_anil (lmixV_ok (enc := D.int) (xs := T true) (v := iL (T true)) b3 (by omega) (by omega) (fun _ _ => rfl) fun vs c5 pv b5 G5 => ok_anil ⟨vs, rfl, pv, b5, K3.gr b3 G5⟩))))))))))))))))
      obtain ⟨xs, c5, ee, vs, rfl, pv, b5, K5⟩ := hmk
      have hU : ∀ b, ((fun b => if b = true then vs else ws : Bool → List Int) b).Perm (T b) := fun b => by
        cases b
        · exact pw
        · exact pv
      refine ok_makeG (T := fun b => if b = true then vs else ws) ⟨_, _, ee, _, _, rfl, st_perm hT hU, .inr rfl, .inl rfl, fun kb c6 p6 K6 => ⟨_, kb, rfl, K6, K5.pfx p6, hU, bx_pfx b5 p6⟩⟩
    · subst ed
      have U6 : ∀ b, (U b).length ≤ 6 := fun b => by rw [(hp b).length_eq]; exact t6 b
      refine ok_anil ⟨Nat.le_of_ble_eq_true rfl, .inl ⟨_, rfl, ?_⟩⟩
      have hwy : wyN (U true) (U false) = wyN (T true) (T false) := (wyN_permJ (hp true) _).trans (wyN_perm (hp false))
      refine os_fcons (ok_gn (askc_ok (U := T) rfl rfl KT (hT.l1 false) t6 tb rfl fun c5 p5 => ?_))
      refine os_fcons (ok_gn (askc_ok (U := U) rfl rfl (KU.pfx p5) (by rw [(hp false).length_eq]; exact hT.l1 false) U6 (fun x hx => tb x ((hp false).mem_iff.mp hx)) hwy fun c6 p6 => ?_))
      exact os_fnil (q _ _ _ _ _ c6 (bx_mono (bx_pfx b4 (p5.trans p6)) (by omega)))
  refine os_seq (os_set (ok_if (ok_t (ok_op (ok_var rfl (ok_c (Ok.of (eq_ints _ _ c) ⟨_, rfl, fun _ => ?_, fun _ => ?_⟩)))))))
  · refine ok_cb (ok_acons (ok_var rfl (ok_anil (Ok.of (lsc_ok hr) ?_))))
    rw [e0]
    exact cont _ c hS (by rw [e1]; exact w6) (by rw [e2]; exact h6) (bx_mono hb (by omega))
  · refine ok_cb (ok_acons (ok_var rfl (ok_acons (ok_cb (ok_acons (ok_var rfl (ok_anil (Ok.of (lsc_ok hr) (ok_anil ?_)))))))))
    rw [e0]
    exact moved_ok hS hb (by omega) fun T2 c2 hT2 hL b2 G2 => cont T2 c2 hT2 (by rw [hL, e1]; exact w6) (by rw [hL, e2]; exact h6) (bx_mono b2 (by omega))
end
theorem law_true (ns : List Int) (hl : ns.length ≤ 63) : ∃ c, glaw [.ro (ns.map D.int)] [] = .ok (.bl true) c := by
  have hz : sizeLine = 16777216 := sizeLine_eq
  have r : Ok (glaw [.ro (ns.map D.int)] []) fun d _ => d = .bl true := by
    refine Ok.fun rfl ?_
    unfold claw
    walk_at "ok"
    refine ⟨⟨by simp only [List.length_map]; split <;> split <;> omega, by simp only [List.length_map]; split <;> split <;> omega⟩, ?_⟩
    refine OkS.for (fun ds l c => (∃ o1 o2 o3 o4 o5 o6 o7 o8 o9 o10 o11, l = [some (.ro (ns.map D.int)), o1, o2, o3, o4, o5, o6, o7, o8, o9, o10, o11]) ∧ ∀ d ∈ ds, ∃ i : Nat, i ≤ 1000 ∧ d = .int i) ?_ ?_ _ _ _ ?_
    · rintro l c ⟨⟨o1, o2, o3, o4, o5, o6, o7, o8, o9, o10, o11, rfl⟩, _⟩
      exact os_ret (ok_c rfl)
    · rintro d ds l c ⟨⟨o1, o2, o3, o4, o5, o6, o7, o8, o9, o10, o11, rfl⟩, hd⟩
      obtain ⟨i, hi, rfl⟩ := hd d List.mem_cons_self
      refine ok_gn (os_seq (os_set (ok_cb (ok_acons (ok_cb (ok_acons (ok_var rfl (ok_acons (ok_var rfl (ok_anil ?_))))))))))
      refine cell_ok hl hi fun v => ok_anil ?_
      refine box_ok fun c1 b1 l1 f1 => ?_
      generalize c.length = k at b1 ⊢
      have ad : ∀ (u : Nat) (c : Cs), addD (.int 1) (.int (u : Nat)) c = .ok (.int ((1 + u : Nat) : Int)) c := fun u c => rfl
      have cont : ∀ (w h : Nat) (o11 : Option D) (c2 : Cs), 1 ≤ w → w ≤ 6 → 1 ≤ h → h ≤ 6 → Bx c2 k 100 →
          OkS ((sSeq (sSet 3 (mCB g_law_rows (aCons (mVar 2) (aCons (mVar 5) (aCons (mVar 6) (aNil)))))) (sFor (iR1 (aCons (mC (.int 2)) (aNil))) (gN 4) TURN59)) [some (.ro (ns.map D.int)), some (.int (i : Nat)), some (.ref k), o3, o4, some (.int (w : Nat)), some (.int (h : Nat)), o7, o8, o9, o10, o11] c2) fun fl c2 => match fl with
            | .nx l2 => (∃ o1 o2 o3 o4 o5 o6 o7 o8 o9 o10 o11, l2 = [some (.ro (ns.map D.int)), o1, o2, o3, o4, o5, o6, o7, o8, o9, o10, o11]) ∧ ∀ d ∈ ds, ∃ i : Nat, i ≤ 1000 ∧ d = .int i
            | .ct l2 => (∃ o1 o2 o3 o4 o5 o6 o7 o8 o9 o10 o11, l2 = [some (.ro (ns.map D.int)), o1, o2, o3, o4, o5, o6, o7, o8, o9, o10, o11]) ∧ ∀ d ∈ ds, ∃ i : Nat, i ≤ 1000 ∧ d = .int i
            | _ => False := fun w h o11 c2 w1 w6 h1 h6 b2 => by
        refine os_seq (os_set (ok_cb (ok_acons (ok_var rfl (ok_acons (ok_var rfl (ok_acons (ok_var rfl (ok_anil (rows3_ok b2 (by omega) w1 (by omega) h1 (by omega) fun ys c4 hr hlen b4 G4 => ?_))))))))))
        refine os_forR 2 (fun rest l c' => ∃ o4 o7 o8 o9 o10 o11 m, m + rest.length = 2 ∧ Bx c' k (200 + 300 * (m : Nat)) ∧ l = [some (.ro (ns.map D.int)), some (.int (i : Nat)), some (.ref k), some (.lst (ys.map D.str)), o4, some (.int (w : Nat)), some (.int (h : Nat)), o7, o8, o9, o10, o11]) (by omega) (ok_acons (ok_c (ok_anil ⟨rfl, rfl⟩))) ⟨_, _, _, _, _, _, 0, rfl, bx_mono b4 (by omega), rfl⟩ ?_ ?_
        · rintro l c7 ⟨o4, o7, o8, o9, o10, o11, m, hm, b7, rfl⟩
          exact ⟨⟨_, _, _, _, _, _, _, _, _, _, _, rfl⟩, fun d h => hd d (List.mem_cons_of_mem _ h)⟩
        · rintro t rest l c7 ⟨o4, o7, o8, o9, o10, o11, m, hm, b7, rfl⟩
          rw [List.length_cons] at hm
          refine ok_gn ?_
          exact turn59_ok hr w6 hlen (by omega) b7 (by omega) fun _ _ _ _ _ c8 b8 => ⟨_, _, _, _, _, _, m + 1, by omega, bx_mono b8 (by omega), rfl⟩
      have nx : ∀ {P : Fl → Cs → Prop} {P2 : Fl → Cs → Prop} {r : RS}, OkS r P → (∀ f c, P f c → P2 f c) → OkS r P2 := fun h w => h.mono w
      refine os_seq (os_asg (ok_if (ok_t (ok_op (ok_var rfl (ok_c (Ok.of (ne_ints _ _ c1) ⟨_, rfl, fun _ => ?_, fun _ => ?_⟩)))))))
      · refine lc_r1 (ok_acons (ok_c (ok_anil ⟨2, rfl, by omega, ?_⟩)))
        refine compD_draw (α := Nat) (enc := fun x : Nat => D.int (x : Nat)) (step := 1) (m := 2) (fun x => 1 ≤ x ∧ x ≤ 6) b1 (by simp) (by omega) (fun d c' n' Q hb' hn' G hq => ?_) (fun hs c2 hl2 hP b2 G2 => ?_)
        · refine ok_op (ok_c (ok_cb (ok_acons (ok_var rfl (ok_acons (ok_c (ok_anil (take_gr hb' (by omega) (by decide) (by decide) fun u c3 u0 u1 b3 G3 l3 => ?_))))))))
          obtain ⟨u, rfl⟩ : ∃ u' : Nat, u = u' := ⟨u.toNat, by omega⟩
          exact Ok.of (ad u c3) (hq (1 + u) c3 ⟨by omega, by omega⟩ b3 G3)
        · obtain ⟨x, y, rfl⟩ : ∃ x y, hs = [x, y] := by
            match hs, hl2 with
            | [x, y], _ => exact ⟨x, y, rfl⟩
          have hx := hP x List.mem_cons_self
          have hy := hP y (List.mem_cons_of_mem _ List.mem_cons_self)
          refine ok_gtl rfl ⟨_, _, rfl, ?_⟩
          exact nx (cont x y _ c2 hx.1 hx.2 hy.1 hy.2 (bx_mono b2 (by omega))) fun f c h => by cases f <;> first | exact h | exact h.elim
      · refine ok_lst (ok_acons (ok_c (ok_acons (ok_c (ok_anil ⟨Nat.le_of_ble_eq_true rfl, ?_⟩)))))
        refine ok_gtl rfl ⟨_, _, rfl, ?_⟩
        exact nx (cont 6 6 _ c1 (by omega) (by omega) (by omega) (by omega) (bx_mono b1 (by omega))) fun f c h => by cases f <;> first | exact h | exact h.elim
    · refine ⟨⟨_, _, _, _, _, _, _, _, _, _, _, rfl⟩, fun d h => ?_⟩
      obtain ⟨i, h1, rfl⟩ := rangeL_mem h
      refine ⟨i, ?_, by rw [Int.zero_add]⟩
      simp only [List.length_map] at h1
      revert h1
      split <;> split <;> omega
  obtain ⟨d, c, e, rfl⟩ := r
  exact ⟨c, e⟩

end L2.Lw
open PySem PySem.W PyProof.Rows
set_option maxRecDepth 100000 in
set_option maxHeartbeats 0 in
theorem PySem.Challenge.cw_weavegraph_k59_cloths_counted_holds : PySem.Challenge.rw_weavegraph_k59_cloths_counted.Holds := by
  w_on; o_law; k_head; (case hw => w_witness2)
  k_fill
  refine L2.Mi.law_g (l := PySem.Challenge.rw_weavegraph_k59_cloths_counted) (n := 63) (k := 17) (x := "_law_script") (g := fun w => L2.Lw.glaw (pwI := ⟨PySem.Challenge.rw_weavegraph_k59_cloths_counted.prog, w⟩)) rfl (by decide) rfl ⟨rfl, by decide, by decide⟩ (fun w h Y => PySem.W.kIn_of Y) (fun w h Y => ⟨fun p hp => (nomatch hp), fun p hp => (nomatch hp), fun p hp => (nomatch hp)⟩) ?F (fun w ns hl => L2.Lw.law_true (pwI := ⟨PySem.Challenge.rw_weavegraph_k59_cloths_counted.prog, w⟩) ns hl)
  case F =>
    intro w mg fa h KX G hmg
    refine' L2.Lw.law_fin (pwI := ⟨PySem.Challenge.rw_weavegraph_k59_cloths_counted.prog, w⟩) KX G hmg ?z_all ?z_any ?z_bool ?z_int ?z_isinstance ?z_len ?z_list ?z_max ?z_min ?z_range ?z_repr ?z_sorted ?z_sum ?z_tuple ?z_zip ?a_MOST_NUMBERED ?a_MOST_THREADS ?caScores ?cpScores ?cdScores ?coScores ?csScores ?caTally ?cpTally ?cdTally ?coTally ?csTally ?fn_Scores_kept_scores ?fn_Tally_all_lacks ?fn_Tally_known_ways ?fn_Tally_row_ones ?isp ?ist ?iscScores ?isoScores ?iscTally ?isoTally ?isiScores ?isyScores ?isbScores_NoneType ?isbScores_bool ?isbScores_int ?isbScores_str ?isbScores_list ?isbScores_tuple ?isbScores_dict ?isnScores_Tally ?isvScores_Tally ?kiScores ?kfScores ?knScores ?kkScores ?lScores____init__ ?cScores____init__ ?kScores____init__ ?kiTally ?kfTally ?knTally ?kkTally ?lTally____init__ ?cTally____init__ ?kTally____init__ ?mfScores__warps ?mnScores__warps ?lScores__warps ?cScores__warps ?kScores__warps ?mfScores__wefts ?mnScores__wefts ?lScores__wefts ?cScores__wefts ?kScores__wefts ?mfTally__many ?mnTally__many ?lTally__many ?cTally__many ?kTally__many ?mfTally__next_rows ?mnTally__next_rows ?lTally__next_rows ?cTally__next_rows ?kTally__next_rows ?mfTally__ways ?mnTally__ways ?lTally__ways ?cTally__ways ?kTally__ways ?a_law_box ?l_law_box ?c_law_box ?k_law_box ?a_law_cell ?l_law_cell ?c_law_cell ?k_law_cell ?a_law_take ?l_law_take ?c_law_take ?k_law_take ?a_law_rows ?l_law_rows ?c_law_rows ?k_law_rows ?a_law_scores ?l_law_scores ?c_law_scores ?k_law_scores ?a_law_moved ?l_law_moved ?c_law_moved ?k_law_moved ?a_law_texts ?l_law_texts ?c_law_texts ?k_law_texts ?a_law_count ?l_law_count ?c_law_count ?k_law_count ?a_law_mixed ?l_law_mixed ?c_law_mixed ?k_law_mixed ?ais_sequence ?lis_sequence ?cis_sequence ?kis_sequence ?aneed_integers ?lneed_integers ?cneed_integers ?kneed_integers ?ais_integer ?lis_integer ?cis_integer ?kis_integer ?aneed_range ?lneed_range ?cneed_range ?kneed_range ?aneed_scores ?lneed_scores ?cneed_scores ?kneed_scores ?acount_cloths ?lcount_cloths ?ccount_cloths ?kcount_cloths ?alaw ?llaw ?claw ?klaw
    (case z_all => k_is)
    (case z_any => k_is)
    (case z_bool => k_is)
    (case z_int => k_is)
    (case z_isinstance => k_is)
    (case z_len => k_is)
    (case z_list => k_is)
    (case z_max => k_is)
    (case z_min => k_is)
    (case z_range => k_is)
    (case z_repr => k_is)
    (case z_sorted => k_is)
    (case z_sum => k_is)
    (case z_tuple => k_is)
    (case z_zip => k_is)
    (case a_MOST_NUMBERED => k_is)
    (case a_MOST_THREADS => k_is)
    (case caScores => k_is)
    (case cpScores => k_is)
    (case cdScores => k_is)
    (case coScores => k_is)
    (case csScores => k_is)
    (case caTally => k_is)
    (case cpTally => k_is)
    (case cdTally => k_is)
    (case coTally => k_is)
    (case csTally => k_is)
    (case fn_Scores_kept_scores => k_is)
    (case fn_Tally_all_lacks => k_is)
    (case fn_Tally_known_ways => k_is)
    (case fn_Tally_row_ones => k_is)
    (case isp => first | k_is | rfl | decide +kernel)
    (case ist => first | k_is | rfl | decide +kernel)
    (case iscScores => first | k_is | rfl | decide +kernel)
    (case isoScores => first | k_is | rfl | decide +kernel)
    (case iscTally => first | k_is | rfl | decide +kernel)
    (case isoTally => first | k_is | rfl | decide +kernel)
    (case isiScores => first | k_is | rfl | decide +kernel)
    (case isyScores => first | k_is | rfl | decide +kernel)
    (case isbScores_NoneType => first | k_is | rfl | decide +kernel)
    (case isbScores_bool => first | k_is | rfl | decide +kernel)
    (case isbScores_int => first | k_is | rfl | decide +kernel)
    (case isbScores_str => first | k_is | rfl | decide +kernel)
    (case isbScores_list => first | k_is | rfl | decide +kernel)
    (case isbScores_tuple => first | k_is | rfl | decide +kernel)
    (case isbScores_dict => first | k_is | rfl | decide +kernel)
    (case isnScores_Tally => first | decide +kernel | rfl)
    (case isvScores_Tally => first | k_is | rfl | decide +kernel)
    (case kiScores => k_is)
    (case kfScores => k_is)
    (case knScores => k_is)
    (case kkScores => k_is)
    (case lScores____init__ => k_is)
    (case cScores____init__ => k_is)
    (case kScores____init__ => k_is)
    (case kiTally => k_is)
    (case kfTally => k_is)
    (case knTally => k_is)
    (case kkTally => k_is)
    (case lTally____init__ => k_is)
    (case cTally____init__ => k_is)
    (case kTally____init__ => k_is)
    (case mfScores__warps => k_is)
    (case mnScores__warps => k_is)
    (case lScores__warps => k_is)
    (case cScores__warps => k_is)
    (case kScores__warps => k_is)
    (case mfScores__wefts => k_is)
    (case mnScores__wefts => k_is)
    (case lScores__wefts => k_is)
    (case cScores__wefts => k_is)
    (case kScores__wefts => k_is)
    (case mfTally__many => k_is)
    (case mnTally__many => k_is)
    (case lTally__many => k_is)
    (case cTally__many => k_is)
    (case kTally__many => k_is)
    (case mfTally__next_rows => k_is)
    (case mnTally__next_rows => k_is)
    (case lTally__next_rows => k_is)
    (case cTally__next_rows => k_is)
    (case kTally__next_rows => k_is)
    (case mfTally__ways => k_is)
    (case mnTally__ways => k_is)
    (case lTally__ways => k_is)
    (case cTally__ways => k_is)
    (case kTally__ways => k_is)
    (case a_law_box => k_is)
    (case l_law_box => k_is)
    (case c_law_box => k_is)
    (case k_law_box => k_is)
    (case a_law_cell => k_is)
    (case l_law_cell => k_is)
    (case c_law_cell => k_is)
    (case k_law_cell => k_is)
    (case a_law_take => k_is)
    (case l_law_take => k_is)
    (case c_law_take => k_is)
    (case k_law_take => k_is)
    (case a_law_rows => k_is)
    (case l_law_rows => k_is)
    (case c_law_rows => k_is)
    (case k_law_rows => k_is)
    (case a_law_scores => k_is)
    (case l_law_scores => k_is)
    (case c_law_scores => k_is)
    (case k_law_scores => k_is)
    (case a_law_moved => k_is)
    (case l_law_moved => k_is)
    (case c_law_moved => k_is)
    (case k_law_moved => k_is)
    (case a_law_texts => k_is)
    (case l_law_texts => k_is)
    (case c_law_texts => k_is)
    (case k_law_texts => k_is)
    (case a_law_count => k_is)
    (case l_law_count => k_is)
    (case c_law_count => k_is)
    (case k_law_count => k_is)
    (case a_law_mixed => k_is)
    (case l_law_mixed => k_is)
    (case c_law_mixed => k_is)
    (case k_law_mixed => k_is)
    (case ais_sequence => k_is)
    (case lis_sequence => k_is)
    (case cis_sequence => k_is)
    (case kis_sequence => k_is)
    (case aneed_integers => k_is)
    (case lneed_integers => k_is)
    (case cneed_integers => k_is)
    (case kneed_integers => k_is)
    (case ais_integer => k_is)
    (case lis_integer => k_is)
    (case cis_integer => k_is)
    (case kis_integer => k_is)
    (case aneed_range => k_is)
    (case lneed_range => k_is)
    (case cneed_range => k_is)
    (case kneed_range => k_is)
    (case aneed_scores => k_is)
    (case lneed_scores => k_is)
    (case cneed_scores => k_is)
    (case kneed_scores => k_is)
    (case acount_cloths => k_is)
    (case lcount_cloths => k_is)
    (case ccount_cloths => k_is)
    (case kcount_cloths => k_is)
    (case alaw => k_is)
    (case llaw => k_is)
    (case claw => k_is)
    (case klaw => k_is)

