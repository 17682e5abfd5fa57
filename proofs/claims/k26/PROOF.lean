import PyProof.Rows.All
import Wide.All
import OpenK.AllK
import Wide.FinOn
import HandS.Base
import HandS.Call
import HandS.List
import HandS.Comp
import HandS.Ends
import HandS.Dict
import HandS.Iter
import HandS.Text
import HandS.Lambda
import HandS.TupAny
import HandS.TupMul
import HandS.Conv
import HandS.IsInst
import HandS.Style
import HandS.Wide
import HandS.Flow
import HandS.Zip
import HandS.Defaults
import HandS.HeadEnd
import HandS.Head2
import HandS.HeadHook2
import HandS.RaiseMore
import PyProof.ReprRoads
import HandS.Strs
import HandS.SetKeys
import PyProof.NeKinds
import PyProof.Rows.FactsN_isinstance
import HandS.HeadHook3
import HandS.More
import HandS.Small
import HandS.SortInts
import PyProof.Rows.SortShellAny
import PyProof.SliceStr2
import KE.GoesEnum
import HandS.DictComp
import HandS.SetFor
import PyProof.Rows.IntBool
import HandS.WordsDict
import HandS.WideBits
import KE.GoesMore
import HandS.Flt
import HandS.Deep
import HandS.ExcInit
import HandS.TryOnly
import PyProof.ExcBaseAll.Exception
import HandS.ExcField
import HandS.ExcIs
import HandS.Words
import PyProof.StrLawsRepr
import PyProof.ReprLen
import PyProof.ReprText
import PyProof.FitsInt
import PyProof.Rows.RegStrFacts
import PyProof.Rows.StrFin3
import PyProof.Rows.ReprOcc
import PySem.Challenge.RW_eyesonly_k26_polynomials_and_their_value
set_option Elab.async false
set_option linter.all false
set_option maxRecDepth 100000
set_option maxHeartbeats 4000000
/-! Z1: pure values over a store of mutable objects; how they stand for the layer's values and heap; the judgements by computations. -/
namespace Z
open PySem PySem.Spec L2

/-- the tables of code objects that are kept track of -/
class LamT where
  T : List (Addr × Str)
instance (priority := low) lamT0 : LamT := ⟨[]⟩
variable [LamT]
def noTb : HO → Prop
  | .tbl _ => False
  | _ => True
def plainO : HO → Prop
  | .tbl _ => False
  | .ext _ => False
  | _ => True
theorem plainO.no {o : HO} (h : plainO o) : noTb o := by cases o <;> trivial
theorem tabs_upd {H : Hp} {p : Addr} {o : HO} {T : List (Addr × Str)} (t : LamX.Tabs T H) (h : ∀ u, H p = some u → plainO u) : LamX.Tabs T (upd H p o) := fun q hq => by
  obtain ⟨ps, h1, h2, h3⟩ := t q hq
  refine ⟨ps, ?_, h2, fun pos cv hc => ?_⟩
  · rw [upd_ne fun z => ?_]
    · exact h1
    · exact (h _ (z ▸ h1) : plainO (.tbl ps))
  · obtain ⟨c, e1, e2⟩ := h3 pos cv hc
    refine ⟨c, e1, ?_⟩
    rw [upd_ne fun z => ?_]
    · exact e2
    · exact (h _ (z ▸ e2) : plainO (LamX.CodeO c q.2))
/-! ### values, the store -/
inductive PV where
  | non
  | bl (b : Bool)
  | int (i : Int)
  | str (x : Str)
  | tup (xs : List PV)
  | lst (xs : List PV)
  | scr (xs : List PV)
  | dic (kvs : List (Key × PV))
  | obj (n : Nat)
  | wt (xs : List PV)

inductive MO where
  | dead
  | lst (xs : List PV)
  | dic (kvs : List (Key × PV))
  | ldc (kvs : List (Key × PV))
  | ins (c : Str) (fs : List (Str × PV))

abbrev S := List MO

inductive Rs (α : Type) where
  | ok (a : α) (s : S)
  | exc (c : Str) (x : PV) (s : S)
  | fail

def Rs.bind {α β : Type} (r : Rs α) (k : α → S → Rs β) : Rs β :=
  match r with
  | .ok a s => k a s
  | .exc c x s => .exc c x s
  | .fail => .fail

def Post {α : Type} (r : Rs α) (Q : α → S → Prop) (E : Str → PV → S → Prop) : Prop :=
  match r with
  | .ok a s => Q a s
  | .exc c x s => E c x s
  | .fail => False

theorem Post.mono {α : Type} {r : Rs α} {Q Q' : α → S → Prop} {E E' : Str → PV → S → Prop} (h : Post r Q E) (hQ : ∀ a s, Q a s → Q' a s) (hE : ∀ c x s, E c x s → E' c x s) : Post r Q' E' := by
  cases r with
  | ok a s => exact hQ a s h
  | exc c x s => exact hE c x s h
  | fail => exact h
theorem Post.bind {α β : Type} {r : Rs α} {k : α → S → Rs β} {Q : β → S → Prop} {E : Str → PV → S → Prop} (h : Post (r.bind k) Q E) : Post r (fun a s => Post (k a s) Q E) E := by
  cases r with
  | ok a s => exact h
  | exc c x s => exact h
  | fail => exact h
theorem Post.of_bind {α β : Type} {r : Rs α} {k : α → S → Rs β} {Q : β → S → Prop} {E : Str → PV → S → Prop} (h : Post r (fun a s => Post (k a s) Q E) E) : Post (r.bind k) Q E := by
  cases r with
  | ok a s => exact h
  | exc c x s => exact h
  | fail => exact h

/-! ### heaps, worlds -/
def Sub (H H' : Hp) : Prop := ∀ b o, H b = some o → H' b = some o
theorem Sub.refl (H : Hp) : Sub H H := fun _ _ h => h
theorem Sub.trans {H H1 H2 : Hp} (a : Sub H H1) (b : Sub H1 H2) : Sub H H2 := fun c o h => b c o (a c o h)
theorem Sub.free {H H' : Hp} (e : Sub H H') {l : Addr} (h : H' l = none) : H l = none := by
  cases q : H l with
  | none => rfl
  | some o => rw [e l o q] at h; cases h
theorem Sub.sqL {K : PySem.W.Frag} {H H' : Hp} {a : Addr} {xs : List V} (e : Sub H H') (h : SqL K H a xs) : SqL K H' a xs := by
  rcases h with (h | ⟨o, h⟩) | h
  · exact .inl (.inl (e _ _ h))
  · exact .inl (.inr ⟨o, e _ _ h⟩)
  · exact .inr h
theorem Sub.sqT {K : PySem.W.Frag} {H H' : Hp} {a : Addr} {xs : List V} (e : Sub H H') (h : SqT K H a xs) : SqT K H' a xs := by
  rcases h with (h | ⟨o, h⟩) | h
  · exact .inl (.inl (e _ _ h))
  · exact .inl (.inr ⟨o, e _ _ h⟩)
  · exact .inr h
/-- a tuple of which it is known that it has no dict of its own -/
def SqN (K : PySem.W.Frag) (H : Hp) (a : Addr) (xs : List V) : Prop :=
  (∃ o : Obj, H a = some (.frz o (.tup xs)) ∧ o.dict = none) ∨ (∃ (o : Obj) (its : Array Value) (n : Nat), (K.lookup a = some o ∧ o.cls = .type "tuple" ∧ o.data = .seq its n ∧ its.size ≤ sizeLine ∧ Vals xs its.toList) ∧ o.dict = none)
theorem SqN.t {K : PySem.W.Frag} {H : Hp} {a : Addr} {xs : List V} (h : SqN K H a xs) : SqT K H a xs := by
  rcases h with ⟨o, h, _⟩ | ⟨o, its, n, h, _⟩
  · exact .inl (.inr ⟨o, h⟩)
  · exact .inr ⟨o, its, n, h⟩
theorem Sub.sqN {K : PySem.W.Frag} {H H' : Hp} {a : Addr} {xs : List V} (e : Sub H H') (h : SqN K H a xs) : SqN K H' a xs := by
  rcases h with ⟨o, h, d⟩ | h
  · exact .inl ⟨o, e _ _ h, d⟩
  · exact .inr h
theorem Sub.upd {H : Hp} {p : Addr} {o : HO} (h : H p = none) : Sub H (upd H p o) := fun b u e => by
  rw [upd_ne (ne_of_none e h)]; exact e

/-- fro: what stands for ever; ob: the addresses of the mutable objects by number; hid: what stands for a while, where no value leads -/
structure Wd where
  fro : Hp
  ob : List Addr
  hid : Hp
  lk : Hp
structure Wd.Le (W W' : Wd) : Prop where
  fro : Sub W.fro W'.fro
  hid : W'.hid = W.hid
  lk : W'.lk = W.lk
  ob : ∃ m, W'.ob = W.ob ++ m
theorem Wd.Le.refl (W : Wd) : W.Le W := ⟨Sub.refl _, rfl, rfl, [], by simp⟩
theorem Wd.Le.trans {W W1 W2 : Wd} (a : W.Le W1) (b : W1.Le W2) : W.Le W2 := by
  obtain ⟨m, e⟩ := a.ob
  obtain ⟨m', e'⟩ := b.ob
  exact ⟨a.fro.trans b.fro, b.hid.trans a.hid, b.lk.trans a.lk, m ++ m', by rw [e', e, List.append_assoc]⟩
theorem Wd.Le.at {W W' : Wd} (l : W.Le W') {n : Nat} {a : Addr} (h : W.ob[n]? = some a) : W'.ob[n]? = some a := by
  obtain ⟨m, e⟩ := l.ob
  rw [e, List.getElem?_append_left (List.getElem?_eq_some_iff.mp h).1]; exact h

mutual
inductive Rep (K : PySem.W.Frag) (W : Wd) : PV → V → Prop
  | non : Rep K W .non .non
  | bl (b : Bool) : Rep K W (.bl b) (.bl b)
  | int (i : Int) : Rep K W (.int i) (.int i)
  | str (x : Str) : Rep K W (.str x) (.str x)
  | tup {a : Addr} {vs : List V} {xs : List PV} : SqN K W.fro a vs → Reps K W xs vs → Rep K W (.tup xs) (.ref a)
  | wt {a : Addr} {vs : List V} {xs : List PV} : SqT K W.fro a vs → Reps K W xs vs → Rep K W (.wt xs) (.ref a)
  | lst {a : Addr} {vs : List V} {xs : List PV} : W.fro a = some (.lst vs) → Reps K W xs vs → Rep K W (.lst xs) (.ref a)
  | scr {a : Addr} {vs : List V} {xs : List PV} : SqL K W.fro a vs → Reps K W xs vs → Rep K W (.scr xs) (.ref a)
  | dic {a : Addr} {ws : List (Key × V)} {kvs : List (Key × PV)} : W.fro a = some (.dK ws) → KReps K W kvs ws → Rep K W (.dic kvs) (.ref a)
  | obj {a : Addr} {n : Nat} : W.ob[n]? = some a → Rep K W (.obj n) (.ref a)
inductive Reps (K : PySem.W.Frag) (W : Wd) : List PV → List V → Prop
  | nil : Reps K W [] []
  | cons {x : PV} {v : V} {xs : List PV} {vs : List V} : Rep K W x v → Reps K W xs vs → Reps K W (x :: xs) (v :: vs)
inductive KReps (K : PySem.W.Frag) (W : Wd) : List (Key × PV) → List (Key × V) → Prop
  | nil : KReps K W [] []
  | cons {k : Key} {x : PV} {v : V} {xs : List (Key × PV)} {vs : List (Key × V)} : Rep K W x v → KReps K W xs vs → KReps K W ((k, x) :: xs) ((k, v) :: vs)
end

section
variable {K : PySem.W.Frag} {W W' : Wd}
mutual
theorem Rep.mono (l : W.Le W') : ∀ {x : PV} {v : V}, Rep K W x v → Rep K W' x v
  | _, _, .non => .non
  | _, _, .bl b => .bl b
  | _, _, .int i => .int i
  | _, _, .str x => .str x
  | _, _, .tup h r => .tup (l.fro.sqN h) (Reps.mono l r)
  | _, _, .wt h r => .wt (l.fro.sqT h) (Reps.mono l r)
  | _, _, .lst h r => .lst (l.fro _ _ h) (Reps.mono l r)
  | _, _, .scr h r => .scr (l.fro.sqL h) (Reps.mono l r)
  | _, _, .dic h r => .dic (l.fro _ _ h) (KReps.mono l r)
  | _, _, .obj h => .obj (l.at h)
theorem Reps.mono (l : W.Le W') : ∀ {x : List PV} {v : List V}, Reps K W x v → Reps K W' x v
  | _, _, .nil => .nil
  | _, _, .cons r t => .cons (Rep.mono l r) (Reps.mono l t)
theorem KReps.mono (l : W.Le W') : ∀ {x : List (Key × PV)} {v : List (Key × V)}, KReps K W x v → KReps K W' x v
  | _, _, .nil => .nil
  | _, _, .cons r t => .cons (Rep.mono l r) (KReps.mono l t)
end
theorem Reps.length {xs : List PV} {vs : List V} (r : Reps K W xs vs) : xs.length = vs.length := by
  induction xs generalizing vs with
  | nil => cases r; rfl
  | cons x xs ih => cases r with | cons h t => simp [ih t]
theorem KReps.length {xs : List (Key × PV)} {vs : List (Key × V)} (r : KReps K W xs vs) : xs.length = vs.length := by
  induction xs generalizing vs with
  | nil => cases r; rfl
  | cons x xs ih => cases r with | cons h t => simp [ih t]
theorem Reps.get {xs : List PV} {vs : List V} (r : Reps K W xs vs) {i : Nat} {x : PV} (e : xs[i]? = some x) : ∃ v, vs[i]? = some v ∧ Rep K W x v := by
  induction xs generalizing vs i with
  | nil => simp at e
  | cons y ys ih =>
    cases r with
    | cons h t =>
      cases i with
      | zero => simp at e; subst e; exact ⟨_, rfl, h⟩
      | succ i => simpa using ih t (by simpa using e)
theorem Reps.get' {xs : List PV} {vs : List V} (r : Reps K W xs vs) {i : Nat} {v : V} (e : vs[i]? = some v) : ∃ x, xs[i]? = some x ∧ Rep K W x v := by
  induction xs generalizing vs i with
  | nil => cases r; simp at e
  | cons y ys ih =>
    cases r with
    | cons h t =>
      cases i with
      | zero => simp at e; subst e; exact ⟨_, rfl, h⟩
      | succ i => simpa using ih t (by simpa using e)
theorem Reps.append {xs ys : List PV} {vs us : List V} (r : Reps K W xs vs) (q : Reps K W ys us) : Reps K W (xs ++ ys) (vs ++ us) := by
  induction xs generalizing vs with
  | nil => cases r; exact q
  | cons y ys' ih => cases r with | cons h t => exact .cons h (ih t)
theorem Reps.take {xs : List PV} {vs : List V} (r : Reps K W xs vs) (n : Nat) : Reps K W (xs.take n) (vs.take n) := by
  induction xs generalizing vs n with
  | nil => cases r; simp; exact .nil
  | cons y ys' ih =>
    cases r with
    | cons h t =>
      cases n with
      | zero => exact .nil
      | succ n => exact .cons h (ih t n)
theorem Reps.drop {xs : List PV} {vs : List V} (r : Reps K W xs vs) (n : Nat) : Reps K W (xs.drop n) (vs.drop n) := by
  induction xs generalizing vs n with
  | nil => cases r; simp; exact .nil
  | cons y ys' ih =>
    cases r with
    | cons h t =>
      cases n with
      | zero => exact .cons h t
      | succ n => exact ih t n
theorem Reps.reverse {xs : List PV} {vs : List V} (r : Reps K W xs vs) : Reps K W xs.reverse vs.reverse := by
  induction xs generalizing vs with
  | nil => cases r; exact .nil
  | cons y ys' ih => cases r with | cons h t => simp only [List.reverse_cons]; exact (ih t).append (.cons h .nil)
theorem Reps.set {xs : List PV} {vs : List V} (r : Reps K W xs vs) (n : Nat) {y : PV} {u : V} (h : Rep K W y u) : Reps K W (xs.set n y) (vs.set n u) := by
  induction xs generalizing vs n with
  | nil => cases r; exact .nil
  | cons z zs ih =>
    cases r with
    | cons q t =>
      cases n with
      | zero => exact .cons h t
      | succ n => exact .cons q (ih t n)
end

/-- the written part and the module's names -/
structure G where
  K : PySem.W.Frag
  mg : Str → Option Value
abbrev gx (X : Cx) : G := ⟨X.K, X.mg⟩

inductive FReps (K : PySem.W.Frag) (W : Wd) : List (Str × PV) → List (Str × V) → Prop
  | nil : FReps K W [] []
  | cons {k : Str} {x : PV} {v : V} {xs : List (Str × PV)} {vs : List (Str × V)} : Rep K W x v → FReps K W xs vs → FReps K W ((k, x) :: xs) ((k, v) :: vs)
theorem FReps.mono {K : PySem.W.Frag} {W W' : Wd} (l : W.Le W') {x : List (Str × PV)} {v : List (Str × V)} (r : FReps K W x v) : FReps K W' x v := by
  induction r with
  | nil => exact .nil
  | cons h _ ih => exact .cons (h.mono l) ih

/-- an object of the store stands at a -/
inductive ORel (g : G) (W : Wd) (H : Hp) (a : Addr) : MO → Prop
  | dead : ORel g W H a .dead
  | lst {xs : List PV} {vs : List V} : H a = some (.lst vs) → Reps g.K W xs vs → ORel g W H a (.lst xs)
  | dic {kvs : List (Key × PV)} {ws : List (Key × V)} : H a = some (.dK ws) → KReps g.K W kvs ws → ORel g W H a (.dic kvs)
  | ldc {kvs : List (Key × PV)} {ws : List (Key × V)} {od : Obj} : W.lk a = some (.frz od (.dK ws)) → H a = some (.frz od (.dK ws)) → KReps g.K W kvs ws → ORel g W H a (.ldc kvs)
  | ins {c : Str} {C dx : Addr} {fs : List (Str × PV)} {ws : List (Str × V)} : g.mg c = some (.ref C) → H a = some (.ins C dx ws) → FReps g.K W fs ws → ORel g W H a (.ins c fs)

structure StR (g : G) (W : Wd) (H : Hp) (s : S) : Prop where
  fro : Sub W.fro H
  len : W.ob.length = s.length
  nd : W.ob.Nodup
  alv : ∀ (n : Nat) (a : Addr), W.ob[n]? = some a → ∃ o, H a = some o ∧ plainO o
  off : ∀ (n : Nat) (a : Addr) (o : MO), W.ob[n]? = some a → s[n]? = some o → o ≠ .dead → W.fro a = none
  has : ∀ (n : Nat) (a : Addr) (o : MO), W.ob[n]? = some a → s[n]? = some o → ORel g W H a o
  hid : Sub W.hid H
  hno : ∀ (n : Nat) (a : Addr), W.ob[n]? = some a → W.hid a = none
  hnf : ∀ a, W.hid a ≠ none → W.fro a = none
  ntb : ∀ b o, W.fro b = some o → noTb o
  nth : ∀ b o, W.hid b = some o → plainO o
  tab : LamX.Tabs LamT.T H
theorem StR.alive {g : G} {W : Wd} {H : Hp} {s : S} (h : StR g W H s) (n : Nat) (a : Addr) (e : W.ob[n]? = some a) : H a ≠ none := by
  obtain ⟨o, q, _⟩ := h.alv n a e
  rw [q]; simp

def EnvR (K : PySem.W.Frag) (W : Wd) (env : List (Option PV)) (σ : St) : Prop :=
  env.length = σ.length ∧ ∀ (i : Nat) (v : PV), env[i]? = some (some v) → ∃ u, σ[i]? = some (some u) ∧ Rep K W v u
abbrev En := List (Option PV)

theorem EnvR.mono {K : PySem.W.Frag} {W W' : Wd} {env : En} {σ : St} (h : EnvR K W env σ) (l : W.Le W') : EnvR K W' env σ :=
  ⟨h.1, fun i v e => let ⟨u, e', r⟩ := h.2 i v e; ⟨u, e', r.mono l⟩⟩
theorem EnvR.set {K : PySem.W.Frag} {W : Wd} {env : En} {σ : St} (h : EnvR K W env σ) (i : Nat) {v : PV} {u : V} (r : Rep K W v u) : EnvR K W (env.set i (some v)) (σ.set i (some u)) := by
  refine ⟨by simp [h.1], fun j w e => ?_⟩
  by_cases hj : i = j
  · subst hj
    have hl : i < env.length := by
      have := (List.getElem?_eq_some_iff.mp e).1
      simpa using this
    rw [List.getElem?_set_self hl] at e
    cases e
    exact ⟨u, by rw [List.getElem?_set_self (by rw [← h.1]; exact hl)], r⟩
  · rw [List.getElem?_set_ne hj] at e
    obtain ⟨u', e', r'⟩ := h.2 j w e
    exact ⟨u', by rw [List.getElem?_set_ne hj]; exact e', r'⟩
theorem EnvR.unset {K : PySem.W.Frag} {W : Wd} {env : En} {σ : St} (h : EnvR K W env σ) (i : Nat) : EnvR K W (env.set i none) (σ.set i none) := by
  refine ⟨by simp [h.1], fun j w e => ?_⟩
  by_cases hj : i = j
  · subst hj
    have hl : i < env.length := by
      have := (List.getElem?_eq_some_iff.mp e).1
      simpa using this
    rw [List.getElem?_set_self hl] at e
    cases e
  · rw [List.getElem?_set_ne hj] at e
    obtain ⟨u', e', r'⟩ := h.2 j w e
    exact ⟨u', by rw [List.getElem?_set_ne hj]; exact e', r'⟩

/-! ### the store's moves -/
section
variable {g : G} {W : Wd} {H : Hp} {s : S}
theorem ORel.mono {W' : Wd} {H' : Hp} {a : Addr} {o : MO} (r : ORel g W H a o) (l : W.Le W') (e : H' a = H a) : ORel g W' H' a o := by
  cases r with
  | dead => exact .dead
  | lst h q => exact .lst (e.trans h) (q.mono l)
  | dic h q => exact .dic (e.trans h) (q.mono l)
  | ldc k h q => exact .ldc ((congrFun l.lk a).trans k) (e.trans h) (q.mono l)
  | ins c h q => exact .ins c (e.trans h) (q.mono l)
theorem le_fro {p : Addr} {o : HO} (h : W.fro p = none) : W.Le ⟨upd W.fro p o, W.ob, W.hid, W.lk⟩ := ⟨Sub.upd h, rfl, rfl, [], by simp⟩
theorem le_ob (p : Addr) : W.Le ⟨W.fro, W.ob ++ [p], W.hid, W.lk⟩ := ⟨Sub.refl _, rfl, rfl, [p], rfl⟩
/-- a new thing that stands for ever -/
theorem StR.new {p : Addr} {o : HO} (h : StR g W H s) (hp : H p = none) (hno : noTb o := by exact True.intro) : StR g ⟨upd W.fro p o, W.ob, W.hid, W.lk⟩ (upd H p o) s := by
  have hf : W.fro p = none := h.fro.free hp
  have hne : ∀ (n : Nat) (a : Addr), W.ob[n]? = some a → a ≠ p := fun n a e z => h.alive n a e (z ▸ hp)
  refine ⟨fun b u e => ?_, h.len, h.nd, fun n a e => ?_, fun n a o' e e' d => ?_, fun n a o' e e' => ?_, h.hid.trans (Sub.upd hp), h.hno, fun a q => ?_, fun b u e => ?_, h.nth, h.tab.ext (Sub.upd hp)⟩
  · have e' : upd W.fro p o b = some u := e
    by_cases hb : b = p
    · subst hb; rw [upd_same] at e' ⊢; exact e'
    · rw [upd_ne hb] at e' ⊢; exact h.fro _ _ e'
  · rw [upd_ne (hne n a e)]; exact h.alv n a e
  · show upd W.fro p o a = none
    rw [upd_ne (hne n a e)]; exact h.off n a o' e e' d
  · exact (h.has n a o' e e').mono (le_fro hf) (upd_ne (hne n a e))
  · show upd W.fro p o a = none
    have : a ≠ p := fun z => q (by show W.hid a = none; rw [z]; exact h.hid.free hp)
    rw [upd_ne this]; exact h.hnf a q
  · have e' : upd W.fro p o b = some u := e
    by_cases hb : b = p
    · rw [hb, upd_same] at e'; cases e'; exact hno
    · rw [upd_ne hb] at e'; exact h.ntb _ _ e'
theorem StR.le_new {p : Addr} {o : HO} (h : StR g W H s) (hp : H p = none) : W.Le ⟨upd W.fro p o, W.ob, W.hid, W.lk⟩ := le_fro (h.fro.free hp)
theorem get_append_one {α : Type} {l : List α} {a b : α} {n : Nat} (e : (l ++ [a])[n]? = some b) : l[n]? = some b ∨ (n = l.length ∧ b = a) := by
  by_cases h : n < l.length
  · rw [List.getElem?_append_left h] at e; exact .inl e
  · rw [List.getElem?_append_right (by omega)] at e
    have : n - l.length = 0 := by
      by_cases h2 : n - l.length = 0
      · exact h2
      · rw [List.getElem?_eq_none (by simp; omega)] at e; cases e
    rw [this] at e
    simp at e
    exact .inr ⟨by omega, e.symm⟩
/-- a new mutable object -/
theorem StR.alloc {p : Addr} {o : HO} {m : MO} (h : StR g W H s) (hp : H p = none) (r : ORel g ⟨W.fro, W.ob ++ [p], W.hid, W.lk⟩ (upd H p o) p m) (hpo : plainO o := by exact True.intro) : StR g ⟨W.fro, W.ob ++ [p], W.hid, W.lk⟩ (upd H p o) (s ++ [m]) := by
  have hf : W.fro p = none := h.fro.free hp
  have hne : ∀ (n : Nat) (a : Addr), W.ob[n]? = some a → a ≠ p := fun n a e z => h.alive n a e (z ▸ hp)
  have key : ∀ {n : Nat} {a : Addr} {o' : MO}, (W.ob ++ [p])[n]? = some a → (s ++ [m])[n]? = some o' → (W.ob[n]? = some a ∧ s[n]? = some o') ∨ (a = p ∧ o' = m) := by
    intro n a o' e e'
    have hl := h.len
    rcases get_append_one e with q | ⟨q1, q2⟩
    · have : n < s.length := by rw [← hl]; exact (List.getElem?_eq_some_iff.mp q).1
      rw [List.getElem?_append_left this] at e'
      exact .inl ⟨q, e'⟩
    · rcases get_append_one e' with q' | ⟨_, q'⟩
      · have := (List.getElem?_eq_some_iff.mp q').1
        omega
      · exact .inr ⟨q2, q'⟩
  refine ⟨h.fro.trans (Sub.upd hp), by simp [h.len], ?_, fun n a e => ?_, fun n a o' e e' d => ?_, fun n a o' e e' => ?_, h.hid.trans (Sub.upd hp), fun n a e => ?_, h.hnf, h.ntb, h.nth, h.tab.ext (Sub.upd hp)⟩
  · refine List.nodup_append.mpr ⟨h.nd, by simp, fun a ha b hb => ?_⟩
    obtain ⟨n, hn⟩ := List.getElem?_of_mem ha
    have : b = p := by simpa using hb
    rw [this]; exact hne n a hn
  · rcases get_append_one e with q | ⟨_, q⟩
    · rw [upd_ne (hne n a q)]; exact h.alv n a q
    · rw [q, upd_same]; exact ⟨o, rfl, hpo⟩
  · rcases key e e' with ⟨q, q'⟩ | ⟨q, _⟩
    · exact h.off n a o' q q' d
    · rw [q]; exact hf
  · rcases key e e' with ⟨q, q'⟩ | ⟨q, q'⟩
    · exact (h.has n a o' q q').mono (le_ob p) (upd_ne (hne n a q))
    · rw [q, q']; exact r
  · rcases get_append_one e with q | ⟨_, q⟩
    · exact h.hno n a q
    · rw [q]; exact h.hid.free hp
theorem nd_ix {l : List Addr} (hn : l.Nodup) {i j : Nat} {x : Addr} (a : l[i]? = some x) (b : l[j]? = some x) : i = j := by
  obtain ⟨h1, e1⟩ := List.getElem?_eq_some_iff.mp a
  obtain ⟨h2, e2⟩ := List.getElem?_eq_some_iff.mp b
  exact (List.getElem_inj hn).mp (e1.trans e2.symm)
/-- a mutable object changes -/
theorem StR.put {n : Nat} {a : Addr} {o o' : MO} {u : HO} (h : StR g W H s) (ha : W.ob[n]? = some a) (ho : s[n]? = some o) (hd : o ≠ .dead) (r : ORel g W (upd H a u) a o') (hpo : plainO u := by exact True.intro) : StR g W (upd H a u) (s.set n o') := by
  have hf : W.fro a = none := h.off n a o ha ho hd
  have hlt : n < s.length := (List.getElem?_eq_some_iff.mp ho).1
  refine ⟨fun b v e => ?_, by simp [h.len], h.nd, fun m b e => ?_, fun m b x e e' d => ?_, fun m b x e e' => ?_, fun b v e => ?_, h.hno, h.hnf, h.ntb, h.nth, tabs_upd h.tab fun u' q => by
      obtain ⟨o2, q2, q3⟩ := h.alv n a ha
      rw [q] at q2; cases q2; exact q3⟩
  · have : b ≠ a := fun z => by rw [z, hf] at e; cases e
    rw [upd_ne this]; exact h.fro _ _ e
  · by_cases hb : b = a
    · rw [hb, upd_same]; exact ⟨u, rfl, hpo⟩
    · rw [upd_ne hb]; exact h.alv m b e
  · by_cases hm : n = m
    · subst hm
      have : b = a := by rw [ha] at e; exact (Option.some.inj e).symm
      rw [this]; exact hf
    · rw [List.getElem?_set_ne hm] at e'
      exact h.off m b x e e' d
  · by_cases hm : n = m
    · subst hm
      have hb : b = a := by rw [ha] at e; exact (Option.some.inj e).symm
      rw [List.getElem?_set_self hlt] at e'
      cases e'
      rw [hb]; exact r
    · rw [List.getElem?_set_ne hm] at e'
      have hb : b ≠ a := fun z => hm (nd_ix h.nd ha (z ▸ e))
      exact (h.has m b x e e').mono (Wd.Le.refl W) (upd_ne hb)
  · have : b ≠ a := fun z => by rw [z, h.hno n a ha] at e; cases e
    rw [upd_ne this]; exact h.hid _ _ e
/-- a mutable object is from here on one that stands for ever -/
theorem StR.freeze {n : Nat} {a : Addr} {o : MO} {u : HO} (h : StR g W H s) (ha : W.ob[n]? = some a) (ho : s[n]? = some o) (hd : o ≠ .dead) (hu : H a = some u) : StR g ⟨upd W.fro a u, W.ob, W.hid, W.lk⟩ H (s.set n .dead) := by
  have hf : W.fro a = none := h.off n a o ha ho hd
  have hlt : n < s.length := (List.getElem?_eq_some_iff.mp ho).1
  refine ⟨fun b v e => ?_, by simp [h.len], h.nd, h.alv, fun m b x e e' d => ?_, fun m b x e e' => ?_, h.hid, h.hno, fun b q => ?_, fun b v e => ?_, h.nth, h.tab⟩
  · by_cases hb : b = a
    · have e' : upd W.fro a u b = some v := e
      rw [hb, upd_same] at e'; cases e'; rw [hb]; exact hu
    · have e' : upd W.fro a u b = some v := e
      rw [upd_ne hb] at e'; exact h.fro _ _ e'
  · by_cases hm : n = m
    · subst hm
      rw [List.getElem?_set_self hlt] at e'
      cases e'
      exact absurd rfl d
    · rw [List.getElem?_set_ne hm] at e'
      have hb : b ≠ a := fun z => hm (nd_ix h.nd ha (z ▸ e))
      show upd W.fro a u b = none
      rw [upd_ne hb]; exact h.off m b x e e' d
  · by_cases hm : n = m
    · subst hm
      rw [List.getElem?_set_self hlt] at e'
      cases e'
      exact .dead
    · rw [List.getElem?_set_ne hm] at e'
      exact (h.has m b x e e').mono (le_fro hf) rfl
  · show upd W.fro a u b = none
    have : b ≠ a := fun z => q (by rw [z]; exact h.hno n a ha)
    rw [upd_ne this]; exact h.hnf b q
  · have e' : upd W.fro a u b = some v := e
    by_cases hb : b = a
    · rw [hb, upd_same] at e'; cases e'
      obtain ⟨o2, q2, q3⟩ := h.alv n a ha
      rw [hu] at q2; cases q2; exact q3.no
    · rw [upd_ne hb] at e'; exact h.ntb _ _ e'
theorem StR.le_freeze {n : Nat} {a : Addr} {o : MO} {u : HO} (h : StR g W H s) (ha : W.ob[n]? = some a) (ho : s[n]? = some o) (hd : o ≠ .dead) : W.Le ⟨upd W.fro a u, W.ob, W.hid, W.lk⟩ := le_fro (h.off n a o ha ho hd)
/-- what stands at a mutable object's number -/
theorem StR.obj {n : Nat} {a : Addr} {o : MO} (h : StR g W H s) (ha : W.ob[n]? = some a) (ho : s[n]? = some o) : ORel g W H a o := h.has n a o ha ho
end

/-! ### judgements by computations -/
abbrev EM := En → S → Rs PV
abbrev TM := En → S → Rs Bool
abbrev AM := En → S → Rs (List PV)
inductive Fl where
  | nx (env : En)
  | ret (v : PV)
  | brk (env : En)
  | cnt (env : En)
abbrev SM := En → S → Rs Fl

/-- what follows a value -/
def Cont (g : G) (W : Wd) (Q : VK) (v : PV) (s : S) : Prop := ∀ W' H' u, W.Le W' → StR g W' H' s → Rep g.K W' v u → Q u H'
theorem Cont.here {g : G} {W : Wd} {Q : VK} {v : PV} {s : S} (h : Cont g W Q v s) {H : Hp} {u : V} (hs : StR g W H s) (r : Rep g.K W v u) : Q u H := h W H u (Wd.Le.refl W) hs r
theorem Cont.mono {g : G} {W W1 : Wd} {Q : VK} {v : PV} {s : S} (h : Cont g W Q v s) (l : W.Le W1) : Cont g W1 Q v s := fun W' H' u l' hs r => h W' H' u (l.trans l') hs r
def xfld (c : Str) : Str := if c = "BadText" then "at" else "thing"
/-- what follows an exception -/
def XW (g : G) (W : Wd) (Ex : XK) (c : Str) (x : PV) (s : S) : Prop := ∀ W' H' C d v, W.Le W' → StR g W' H' s → g.mg c = some (.ref C) → W'.fro d = some (.xd [(xfld c, v)]) → Rep g.K W' x v → Ex (.ref C) (some d) H'
theorem XW.mono {g : G} {W W1 : Wd} {Ex : XK} {c : Str} {x : PV} {s : S} (h : XW g W Ex c x s) (l : W.Le W1) : XW g W1 Ex c x s := fun W' H' C d v l' hs e q r => h W' H' C d v (l.trans l') hs e q r

def tE (g : G) (Ex : XK) (m : EM) : TE := fun σ H Q => ∃ W s env, EnvR g.K W env σ ∧ StR g W H s ∧ Post (m env s) (Cont g W Q) (XW g W Ex)
def tT (g : G) (Ex : XK) (m : TM) : TT := fun σ H Q => ∃ W s env, EnvR g.K W env σ ∧ StR g W H s ∧ Post (m env s) (fun b s' => ∀ W' H', W.Le W' → StR g W' H' s' → Q b H') (XW g W Ex)
def tA (g : G) (Ex : XK) (m : AM) : TA := fun σ H Q => ∃ W s env, EnvR g.K W env σ ∧ StR g W H s ∧ Post (m env s) (fun vs s' => ∀ W' H' us, W.Le W' → StR g W' H' s' → Reps g.K W' vs us → Q us H') (XW g W Ex)
def FlC (g : G) (W : Wd) (D : Ends) (f : Fl) (s : S) : Prop :=
  match f with
  | .nx env => ∀ W' H' σ', W.Le W' → StR g W' H' s → EnvR g.K W' env σ' → D.nx σ' H'
  | .ret v => ∀ W' H' u, W.Le W' → StR g W' H' s → Rep g.K W' v u → D.rt u H'
  | .brk env => ∀ W' H' σ', W.Le W' → StR g W' H' s → EnvR g.K W' env σ' → D.bk σ' H'
  | .cnt env => ∀ W' H' σ', W.Le W' → StR g W' H' s → EnvR g.K W' env σ' → D.ct σ' H'
def tS (g : G) (Ex : XK) (m : SM) : TS := fun D σ H => ∃ W s env, EnvR g.K W env σ ∧ StR g W H s ∧ Post (m env s) (FlC g W D) (XW g W Ex)
theorem FlC.mono {g : G} {W W1 : Wd} {D : Ends} {f : Fl} {s : S} (h : FlC g W D f s) (l : W.Le W1) : FlC g W1 D f s := by
  cases f with
  | nx env => exact fun W' H' σ' l' => h W' H' σ' (l.trans l')
  | ret v => exact fun W' H' u l' => h W' H' u (l.trans l')
  | brk env => exact fun W' H' σ' l' => h W' H' σ' (l.trans l')
  | cnt env => exact fun W' H' σ' l' => h W' H' σ' (l.trans l')

/-- a rule with a weaker reading -/
theorem pe_weak {X : Cx} {e : Expr} {t t' : TE} (h : PE X e t) (w : ∀ σ H Q, t' σ H Q → t σ H Q) : PE X e t' := ⟨fun pins s σ H Q I q => h.run pins s σ H Q I (w σ H Q q)⟩
theorem pt_weak {X : Cx} {e : Expr} {t t' : TT} (h : PT X e t) (w : ∀ σ H Q, t' σ H Q → t σ H Q) : PT X e t' := ⟨fun pins s σ H Q I q => h.run pins s σ H Q I (w σ H Q q)⟩
theorem pw_weak {X : Cx} {e : Expr} {t t' : TT} (h : PW X e t) (w : ∀ σ H Q, t' σ H Q → t σ H Q) : PW X e t' := ⟨fun wh pins s σ H Q I q => h.run wh pins s σ H Q I (w σ H Q q)⟩
theorem pa_weak {X : Cx} {e : List Expr} {t t' : TA} (h : PA X e t) (w : ∀ σ H Q, t' σ H Q → t σ H Q) : PA X e t' := ⟨fun p pins s σ H Q I q => h.run p pins s σ H Q I (w σ H Q q)⟩
theorem ps_weak {X : Cx} {e : Stmt} {t t' : TS} (h : PS X e t) (w : ∀ D σ H, t' D σ H → t D σ H) : PS X e t' := ⟨fun pins s σ H D I q => h.run pins s σ H D I (w D σ H q)⟩
theorem pss_weak {X : Cx} {e : List Stmt} {t t' : TS} (h : PSs X e t) (w : ∀ D σ H, t' D σ H → t D σ H) : PSs X e t' := ⟨fun pins s σ H D I q => h.run pins s σ H D I (w D σ H q)⟩

section
variable {g : G} {Ex : XK} {W : Wd} {s : S} {env : En} {σ : St} {H : Hp}
/-- the first part of a bind -/
theorem tE_bind {α : Type} {m : EM} {k : PV → S → Rs α} {Q : α → S → Prop} {R : VK} (he : EnvR g.K W env σ) (hs : StR g W H s) (h : Post ((m env s).bind k) Q (XW g W Ex))
    (hk : ∀ v s1 W1 H1 u, W.Le W1 → EnvR g.K W1 env σ → StR g W1 H1 s1 → Rep g.K W1 v u → Post (k v s1) Q (XW g W1 Ex) → R u H1) : tE g Ex m σ H R :=
  ⟨W, s, env, he, hs, h.bind.mono (fun v s1 q W1 H1 u l hs1 r => hk v s1 W1 H1 u l (he.mono l) hs1 r (q.mono (fun _ _ z => z) fun _ _ _ z => z.mono l)) fun _ _ _ z => z⟩
theorem tA_bind {α : Type} {m : AM} {k : List PV → S → Rs α} {Q : α → S → Prop} {R : List V → Hp → Prop} (he : EnvR g.K W env σ) (hs : StR g W H s) (h : Post ((m env s).bind k) Q (XW g W Ex))
    (hk : ∀ v s1 W1 H1 u, W.Le W1 → EnvR g.K W1 env σ → StR g W1 H1 s1 → Reps g.K W1 v u → Post (k v s1) Q (XW g W1 Ex) → R u H1) : tA g Ex m σ H R :=
  ⟨W, s, env, he, hs, h.bind.mono (fun v s1 q W1 H1 u l hs1 r => hk v s1 W1 H1 u l (he.mono l) hs1 r (q.mono (fun _ _ z => z) fun _ _ _ z => z.mono l)) fun _ _ _ z => z⟩
theorem tT_bind {α : Type} {m : TM} {k : Bool → S → Rs α} {Q : α → S → Prop} {R : Bool → Hp → Prop} (he : EnvR g.K W env σ) (hs : StR g W H s) (h : Post ((m env s).bind k) Q (XW g W Ex))
    (hk : ∀ v s1 W1 H1, W.Le W1 → EnvR g.K W1 env σ → StR g W1 H1 s1 → Post (k v s1) Q (XW g W1 Ex) → R v H1) : tT g Ex m σ H R :=
  ⟨W, s, env, he, hs, h.bind.mono (fun v s1 q W1 H1 l hs1 => hk v s1 W1 H1 l (he.mono l) hs1 (q.mono (fun _ _ z => z) fun _ _ _ z => z.mono l)) fun _ _ _ z => z⟩
end
end Z

set_option Elab.async false
set_option linter.all false
set_option maxRecDepth 100000
set_option maxHeartbeats 4000000
/-! ZT: new tuples of which it is known that they have no dict of their own. -/
namespace Z
open PySem PySem.Spec PyProof.Rows L2
variable [LamT]

/-- the new object p is a tuple of vs, exactly -/
def NewT (H : Hp) (vs : List V) (Q : VK) : Prop := ∀ (p : Addr) (o : Obj), H p = none → o.dict = none → Q (.ref p) (upd H p (.frz o (.tup vs)))
section
variable {X : Cx} {pos : Pos}
abbrev tupO (us : List Value) : Obj := { cls := .type "tuple", data := .seq us.toArray }
theorem tupO_isTup (us : List Value) {h : Heap} {p : Addr} (e : h.get? p = some (tupO us)) : IsTup h p us.toArray := ⟨_, e, rfl, 0, rfl⟩
/-- a tuple is laid at the heap's end -/
theorem lay_tup {pins : List (Addr × Obj)} {σ : L2.St} {H : Hp} {s : Shared} {vs : List V} {us : List Value} {Q : VK} (I : Inv X pins σ H s) (hz : vs.length ≤ sizeLine) (rv : Vals vs us) (hn : NewT H vs Q) (tk : Nat) :
    EP X pins σ Q (.ref s.heap.objs.size) { s with heap := s.heap.push (tupO us), toks := tk } := by
  have fresh := I.hok.fresh (Nat.le_refl s.heap.objs.size)
  have e : (s.heap.push (tupO us)).get? s.heap.objs.size = some (tupO us) := Heap.get?_push_size _ rfl
  exact ⟨.ref _, _, I.laid (t' := tk) (o := .frz (tupO us) (.tup vs)) (fun b u q => Heap.get?_push_of_some _ q) (Nat.le_refl _) ⟨e, hz, us, rv, tupO_isTup us e⟩, rfl, hn _ _ fresh rfl⟩
def tTupN (t : TA) : TE := fun σ H Q => t σ H fun xs H1 => xs.length ≤ sizeLine ∧ NewT H1 xs Q
theorem pe_tupN {es : List Expr} {t : TA} {x1} (h : PA X es t) : PE X (.Tuple es x1 pos) (tTupN t) := by
  refine ⟨fun pins s σ H Q I hq => wpAny_Tuple_spliced (thn (h.run pos pins s σ H _ I hq) fun us s1 ⟨xs, H1, I1, rv, hz, hn⟩ => ⟨by rw [← rv.length]; exact hz, ?_⟩)⟩
  exact lay_tup I1 hz rv hn _
/-- t + u -/
def rCatN (K : PySem.W.Frag) : R2 := fun x y H Q => ∃ a b xs ys, x = .ref a ∧ y = .ref b ∧ SqT K H a xs ∧ SqT K H b ys ∧ xs.length + ys.length ≤ sizeLine ∧
  (xs = [] → Q (.ref b) H) ∧ (xs ≠ [] → ys = [] → Q (.ref a) H) ∧ (xs ≠ [] → ys ≠ [] → NewT H (xs ++ ys) Q)
theorem op_catN : OpR X (binaryOp .Add) (rCatN X.K) := by
  intro pins s σ H x y v u Q I rx ry ⟨a, b, xs, ys, ex, ey, sa, sb, hz, q0, q1, q2⟩
  by_cases ne : xs = [] ∨ ys = []
  · refine op_catA pins s σ H x y v u Q I rx ry ⟨a, b, xs, ys, ex, ey, sa, sb, hz, q0, q1, fun h1 h2 => ?_⟩
    exact absurd ne (by simp [h1, h2])
  · subst ex; subst ey
    cases rx; cases ry
    have nx : xs ≠ [] := fun z => ne (.inl z)
    have ny : ys ≠ [] := fun z => ne (.inr z)
    obtain ⟨us, ra, ta, _⟩ := I.tuple sa
    obtain ⟨ws, rb, tb, _⟩ := I.tuple sb
    refine HT.cat_tup ta tb (fun z => nx (ra.nil_iff.mp z)) (fun z => absurd (rb.nil_iff.mp z) ny) (fun _ => ?_) (by rw [← ra.length, ← rb.length]; exact hz)
    exact lay_tup I (by rw [List.length_append]; exact hz) (ra.append rb) (q2 nx ny) _
/-- tuple(a list) -/
theorem call_tupleN : CallR X (.type "tuple") (fun xs H Q => ∃ p ys, xs = [.ref p] ∧ SqL X.K H p ys ∧ NewT H ys Q) := by
  intro pins s σ H xs us Q I r ⟨p, ys, ex, sq, hn⟩
  subst ex
  obtain ⟨u, eu, ru⟩ := vals1 r
  subst eu
  cases ru
  obtain ⟨ws, rw', pl, hz⟩ := I.list sq
  refine call_tuple_list pl.isList (fun h' kp => ?_) (by have := rw'.length; simp only [List.size_toArray]; omega)
  exact lay_tup (I.kept (t' := s.toks) kp) hz rw' hn _
/-- t[lo:hi] -/
def rSlN (K : PySem.W.Frag) : V → Option Int → Option Int → Hp → VK → Prop := fun x lo hi H Q => ∃ a xs, x = .ref a ∧ SqT K H a xs ∧
  (HT.sIx xs.length 0 lo = 0 ∧ HT.sIx xs.length xs.length hi = xs.length → Q (.ref a) H) ∧ (¬ (HT.sIx xs.length 0 lo = 0 ∧ HT.sIx xs.length xs.length hi = xs.length) → NewT H (cutV xs lo hi) Q)
theorem sl_tupN : SlR X (rSlN X.K) := by
  intro pins s σ H x v vl vu lo hi sl Q I rx hs pl pu ⟨a, xs, ex, sq, q1, q2⟩
  by_cases hw : HT.sIx xs.length 0 lo = 0 ∧ HT.sIx xs.length xs.length hi = xs.length
  · exact sl_tupA pins s σ H x v vl vu lo hi sl Q I rx hs pl pu ⟨a, xs, ex, sq, q1, fun n => absurd hw n⟩
  · subst ex
    cases rx
    obtain ⟨us, ru, tu, hz⟩ := I.tuple sq
    have el : us.toArray.size = xs.length := by rw [List.size_toArray, ← ru.length]
    refine ⟨"tuple", _, PyProof.Rows.slot_tuple_getitem.lookup, tu.typeIs, HT.getItem_tuple_cut tu hs pl pu (by rw [el]; exact hw) ?_ (by rw [el]; exact hz)⟩
    rw [el]
    exact lay_tup I (Nat.le_trans (cutV_length xs lo hi) hz) ((ru.drop _).take _) (q2 hw) _
end
end Z

set_option Elab.async false
set_option linter.all false
set_option maxRecDepth 100000
set_option maxHeartbeats 4000000
/-! Z2: expressions. -/
namespace Z
open PySem PySem.Spec L2
variable [LamT]

abbrev O1 := PV → S → Option (PV × S)
abbrev O2 := PV → PV → S → Option (PV × S)
abbrev OL := List PV → S → Option (PV × S)
def lift (o : Option (PV × S)) : Rs PV :=
  match o with
  | some (v, s) => .ok v s
  | none => .fail
theorem Post.lift {o : Option (PV × S)} {Q : PV → S → Prop} {E : Str → PV → S → Prop} (h : Post (lift o) Q E) : ∃ v s, o = some (v, s) ∧ Q v s := by
  cases o with
  | none => exact h.elim
  | some p => exact ⟨p.1, p.2, rfl, h⟩

/-! ### what the computations are -/
def eV (i : Nat) : EM := fun env s =>
  match env[i]? with
  | some (some v) => .ok v s
  | _ => .fail
def eC (v : PV) : EM := fun _ s => .ok v s
def eUn (f : O1) (a : EM) : EM := fun env s => (a env s).bind fun x s1 => lift (f x s1)
def eOp (f : O2) (a b : EM) : EM := fun env s => (a env s).bind fun x s1 => (b env s1).bind fun y s2 => lift (f x y s2)
def aNil : AM := fun _ s => .ok [] s
def aCons (a : EM) (b : AM) : AM := fun env s => (a env s).bind fun x s1 => (b env s1).bind fun xs s2 => .ok (x :: xs) s2
def eLs (f : OL) (a : AM) : EM := fun env s => (a env s).bind fun xs s1 => lift (f xs s1)
def eIf (t : TM) (a b : EM) : EM := fun env s => (t env s).bind fun c s1 => if c then a env s1 else b env s1
/-- and, or, not as values: all but the last are truths -/
def eAnd (a b : EM) : EM := fun env s => (a env s).bind fun x s1 =>
  match x with
  | .bl true => b env s1
  | .bl false => .ok (.bl false) s1
  | _ => .fail
def eOr (a b : EM) : EM := fun env s => (a env s).bind fun x s1 =>
  match x with
  | .bl true => .ok (.bl true) s1
  | .bl false => b env s1
  | _ => .fail
def eNot (a : EM) : EM := fun env s => (a env s).bind fun x s1 =>
  match x with
  | .bl k => .ok (.bl (!k)) s1
  | _ => .fail
/-- tests -/
def tB (a : EM) : TM := fun env s => (a env s).bind fun x s1 =>
  match x with
  | .bl k => .ok k s1
  | _ => .fail
def tAnd (a b : TM) : TM := fun env s => (a env s).bind fun c s1 => if c then b env s1 else .ok false s1
def tOr (a b : TM) : TM := fun env s => (a env s).bind fun c s1 => if c then .ok true s1 else b env s1
def tNot (a : TM) : TM := fun env s => (a env s).bind fun c s1 => .ok (!c) s1
/-- a chain of two comparisons -/
def eCh (f f' : O2) (a b c : EM) : EM := fun env s => (a env s).bind fun x s1 => (b env s1).bind fun y s2 => (lift (f x y s2)).bind fun r s3 =>
  match r with
  | .bl true => (c env s3).bind fun z s4 => lift (f' y z s4)
  | .bl false => .ok (.bl false) s3
  | _ => .fail

section
variable {X : Cx} {Ex : XK} {pos : Pos} {a b : Expr} {ma mb : EM}

theorem se_var {i : Nat} {x : Str} (hN : X.N[i]? = some x) (hv : Vis X.env.scope x) (hd : (x == ("__debug__" : Str)) = false := by decide) (hcd : (x == ("__classdict__" : Str)) = false := by decide) : PE X (.Name x pos) (tE (gx X) Ex (eV i)) := by
  refine pe_weak (pe_var hN hv hd hcd) fun σ H Q ⟨W, s, env, he, hs, h⟩ => ?_
  unfold eV at h
  split at h
  · rename_i v e
    obtain ⟨u, e', r⟩ := he.2 i v e
    exact ⟨u, e', Cont.here h hs r⟩
  · exact h.elim
theorem se_const {e : Expr} {v : V} {pv : PV} (h : PE X e (tC v)) (r : ∀ W, Rep X.K W pv v) : PE X e (tE (gx X) Ex (eC pv)) :=
  pe_weak h fun σ H Q ⟨W, s, env, he, hs, q⟩ => Cont.here q hs (r W)
theorem se_int {i : Int} {j : Nat} : PE X (.Constant (.int i) j pos) (tE (gx X) Ex (eC (.int i))) := se_const pe_int fun _ => .int _
theorem se_bl {i : Bool} {j : Nat} : PE X (.Constant (.bool i) j pos) (tE (gx X) Ex (eC (.bl i))) := se_const pe_bl fun _ => .bl _
theorem se_non {j : Nat} : PE X (.Constant .none j pos) (tE (gx X) Ex (eC .non)) := se_const pe_non fun _ => .non
theorem se_str {x : Str} {j : Nat} : PE X (.Constant (.str x) j pos) (tE (gx X) Ex (eC (.str x))) := se_const pe_str fun _ => .str _

/-! ### operators -/
def rM (g : G) (f : O2) : R2 := fun x y H Q => ∃ W s px py v s', Rep g.K W px x ∧ Rep g.K W py y ∧ StR g W H s ∧ f px py s = some (v, s') ∧ Cont g W Q v s'
def rU1 (g : G) (f : O1) : V → Hp → VK → Prop := fun x H Q => ∃ W s px v s', Rep g.K W px x ∧ StR g W H s ∧ f px s = some (v, s') ∧ Cont g W Q v s'
def rL (g : G) (f : OL) : List V → Hp → VK → Prop := fun xs H Q => ∃ W s pxs v s', Reps g.K W pxs xs ∧ StR g W H s ∧ f pxs s = some (v, s') ∧ Cont g W Q v s'

theorem tOp_of {f : O2} {σ : L2.St} {H : Hp} {Q : VK} (h : tE (gx X) Ex (eOp f ma mb) σ H Q) : tOp (rM (gx X) f) (tE (gx X) Ex ma) (tE (gx X) Ex mb) σ H Q := by
  obtain ⟨W, s, env, he, hs, h⟩ := h
  refine tE_bind he hs h fun x s1 W1 H1 u l1 he1 hs1 r1 h1 => ?_
  refine tE_bind he1 hs1 h1 fun y s2 W2 H2 u2 l2 he2 hs2 r2 h2 => ?_
  obtain ⟨v, s', e, hc⟩ := h2.lift
  exact ⟨W2, s2, x, y, v, s', r1.mono l2, r2, hs2, e, hc.mono (l1.trans l2)⟩
theorem se_op {op : Operator} {f : O2} (ho : OpR X (binaryOp op) (rM (gx X) f)) (ha : PE X a (tE (gx X) Ex ma)) (hb : PE X b (tE (gx X) Ex mb)) : PE X (.BinOp a op b pos) (tE (gx X) Ex (eOp f ma mb)) :=
  pe_weak (pe_op ho ha hb) fun _ _ _ h => tOp_of h
theorem se_cmp {op : CmpOp} {f : O2} (ho : OpR X (compareOp op) (rM (gx X) f)) (ha : PE X a (tE (gx X) Ex ma)) (hb : PE X b (tE (gx X) Ex mb)) (hm : behindInMarks op b = false) : PE X (.Compare a [op] [b] pos) (tE (gx X) Ex (eOp f ma mb)) :=
  pe_weak (pe_cmpR ho ha hb hm) fun _ _ _ h => tOp_of h
theorem tE_bl {m : EM} {σ : L2.St} {H : Hp} {Q : Bool → Hp → Prop} (h : tT (gx X) Ex (tB m) σ H Q) : tE (gx X) Ex m σ H (fun x H1 => ∃ k, x = .bl k ∧ Q k H1) := by
  obtain ⟨W, s, env, he, hs, h⟩ := h
  refine tE_bind he hs h fun x s1 W1 H1 u l1 he1 hs1 r1 h1 => ?_
  cases x with
  | bl k => cases r1; exact ⟨k, rfl, h1 W1 H1 l1 hs1⟩
  | _ => exact h1.elim
theorem st_cmp {op : CmpOp} {f : O2} (ho : OpR X (compareOp op) (rM (gx X) f)) (ha : PE X a (tE (gx X) Ex ma)) (hb : PE X b (tE (gx X) Ex mb)) (hm : behindInMarks op b = false) : PT X (.Compare a [op] [b] pos) (tT (gx X) Ex (tB (eOp f ma mb))) :=
  pt_weak (pt_cmpR ho ha hb hm) fun _ _ _ h => tOp_of (tE_bl h)
theorem tCh_of {f f' : O2} {mc : EM} {σ : L2.St} {H : Hp} {Q : VK} (h : tE (gx X) Ex (eCh f f' ma mb mc) σ H Q) : tChain (rM (gx X) f) (rM (gx X) f') (tE (gx X) Ex ma) (tE (gx X) Ex mb) (tE (gx X) Ex mc) σ H Q := by
  obtain ⟨W, s, env, he, hs, h⟩ := h
  refine tE_bind he hs h fun x s1 W1 H1 u l1 he1 hs1 r1 h1 => ?_
  refine tE_bind he1 hs1 h1 fun y s2 W2 H2 u2 l2 he2 hs2 r2 h2 => ?_
  obtain ⟨v, s', e, hc⟩ := h2.bind.lift
  refine ⟨W2, s2, x, y, v, s', r1.mono l2, r2, hs2, e, fun W3 H3 u3 l3 hs3 r3 => ?_⟩
  cases v with
  | bl k =>
    cases r3
    refine ⟨k, rfl, ?_⟩
    cases k with
    | true =>
      rw [if_pos rfl]
      refine tE_bind (he2.mono l3) hs3 (hc.mono (fun _ _ z => z) fun _ _ _ z => z.mono l3) fun z s4 W4 H4 u4 l4 he4 hs4 r4 h4 => ?_
      obtain ⟨v', s5, e', hc'⟩ := h4.lift
      exact ⟨W4, s4, y, z, v', s5, (r2.mono l3).mono l4, r4, hs4, e', hc'.mono (((l1.trans l2).trans l3).trans l4)⟩
    | false =>
      rw [if_neg Bool.false_ne_true]
      exact hc W3 H3 _ ((l1.trans l2).trans l3) hs3 (.bl false)
  | _ => exact hc.elim
theorem se_chain {op op' : CmpOp} {f f' : O2} {c : Expr} {mc : EM} (ho : OpR X (compareOp op) (rM (gx X) f)) (ho' : OpR X (compareOp op') (rM (gx X) f')) (ha : PE X a (tE (gx X) Ex ma)) (hb : PE X b (tE (gx X) Ex mb)) (hc : PE X c (tE (gx X) Ex mc))
    (h1 : lastMarks [op, op'] [b, c] = false := by with_unfolding_all rfl) : PE X (.Compare a [op, op'] [b, c] pos) (tE (gx X) Ex (eCh f f' ma mb mc)) :=
  pe_weak (pe_chain ho ho' ha hb hc h1) fun _ _ _ h => tCh_of h
theorem st_chain {op op' : CmpOp} {f f' : O2} {c : Expr} {mc : EM} (ho : OpR X (compareOp op) (rM (gx X) f)) (ho' : OpR X (compareOp op') (rM (gx X) f')) (ha : PE X a (tE (gx X) Ex ma)) (hb : PE X b (tE (gx X) Ex mb)) (hc : PE X c (tE (gx X) Ex mc))
    (h1 : lastMarks [op, op'] [b, c] = false := by with_unfolding_all rfl) : PT X (.Compare a [op, op'] [b, c] pos) (tT (gx X) Ex (tB (eCh f f' ma mb mc))) :=
  pt_weak (pt_chain ho ho' ha hb hc h1) fun _ _ _ h => tCh_of (tE_bl h)
theorem se_un {op : UnaryOp} {f : O1} (ho : UnR X (unaryOp op) (rU1 (gx X) f)) (ha : PE X a (tE (gx X) Ex ma)) : PE X (.UnaryOp op a pos) (tE (gx X) Ex (eUn f ma)) := by
  refine pe_weak (pe_un ho ha) fun σ H Q ⟨W, s, env, he, hs, h⟩ => ?_
  refine tE_bind he hs h fun x s1 W1 H1 u l1 he1 hs1 r1 h1 => ?_
  obtain ⟨v, s', e, hc⟩ := h1.lift
  exact ⟨W1, s1, x, v, s', r1, hs1, e, hc.mono l1⟩

/-! ### and, or, not, if -/
theorem se_one {op : BoolOp} {m : EM} (h : PE X a (tE (gx X) Ex m)) : PE X (.BoolOp op [a] pos) (tE (gx X) Ex m) := pe_one h
theorem se_and {rest : List Expr} (ha : PE X a (tE (gx X) Ex ma)) (hb : PE X (.BoolOp .And (b :: rest) pos) (tE (gx X) Ex mb)) : PE X (.BoolOp .And (a :: b :: rest) pos) (tE (gx X) Ex (eAnd ma mb)) := by
  refine pe_weak (pe_and ha hb) fun σ H Q ⟨W, s, env, he, hs, h⟩ => ?_
  refine tE_bind he hs h fun x s1 W1 H1 u l1 he1 hs1 r1 h1 => ?_
  cases x with
  | bl k =>
    cases r1
    refine ⟨k, rfl, ?_⟩
    cases k with
    | true => rw [if_pos rfl]; exact ⟨W1, s1, env, he1, hs1, Post.mono h1 (fun _ _ z => z.mono l1) fun _ _ _ z => z⟩
    | false => rw [if_neg Bool.false_ne_true]; exact h1 W1 H1 _ l1 hs1 (.bl false)
  | _ => exact h1.elim
theorem se_or {rest : List Expr} (ha : PE X a (tE (gx X) Ex ma)) (hb : PE X (.BoolOp .Or (b :: rest) pos) (tE (gx X) Ex mb)) : PE X (.BoolOp .Or (a :: b :: rest) pos) (tE (gx X) Ex (eOr ma mb)) := by
  refine pe_weak (pe_or ha hb) fun σ H Q ⟨W, s, env, he, hs, h⟩ => ?_
  refine tE_bind he hs h fun x s1 W1 H1 u l1 he1 hs1 r1 h1 => ?_
  cases x with
  | bl k =>
    cases r1
    refine ⟨k, rfl, ?_⟩
    cases k with
    | true => rw [if_pos rfl]; exact h1 W1 H1 _ l1 hs1 (.bl true)
    | false => rw [if_neg Bool.false_ne_true]; exact ⟨W1, s1, env, he1, hs1, Post.mono h1 (fun _ _ z => z.mono l1) fun _ _ _ z => z⟩
  | _ => exact h1.elim
theorem se_not (ha : PE X a (tE (gx X) Ex ma)) : PE X (.UnaryOp .Not a pos) (tE (gx X) Ex (eNot ma)) := by
  refine pe_weak (pe_not ha) fun σ H Q ⟨W, s, env, he, hs, h⟩ => ?_
  refine tE_bind he hs h fun x s1 W1 H1 u l1 he1 hs1 r1 h1 => ?_
  cases x with
  | bl k => cases r1; exact ⟨k, rfl, h1 W1 H1 _ l1 hs1 (.bl _)⟩
  | _ => exact h1.elim
theorem se_if {c : Expr} {mc : TM} (hc : PT X c (tT (gx X) Ex mc)) (ha : PE X a (tE (gx X) Ex ma)) (hb : PE X b (tE (gx X) Ex mb)) : PE X (.IfExp c a b pos) (tE (gx X) Ex (eIf mc ma mb)) := by
  refine pe_weak (pe_ifExp hc ha hb) fun σ H Q ⟨W, s, env, he, hs, h⟩ => ?_
  refine tT_bind he hs h fun k s1 W1 H1 l1 he1 hs1 h1 => ?_
  cases k with
  | true => rw [if_pos rfl]; exact ⟨W1, s1, env, he1, hs1, Post.mono h1 (fun _ _ z => z.mono l1) fun _ _ _ z => z⟩
  | false => rw [if_neg Bool.false_ne_true]; exact ⟨W1, s1, env, he1, hs1, Post.mono h1 (fun _ _ z => z.mono l1) fun _ _ _ z => z⟩

/-! ### tests -/
theorem st_val {m : EM} (h : PE X a (tE (gx X) Ex m)) (he : ∀ whole, isTrue a X.env whole = (do let v ← whole; standAt a.pos; holding [v] (truthy v)) := by intro _; rfl) : PT X a (tT (gx X) Ex (tB m)) :=
  pt_weak (pt_val h he) fun _ _ _ q => tE_bl q
theorem sw_and1 {mc : TM} (h : PT X a (tT (gx X) Ex mc)) : PW X (.BoolOp .And [a] pos) (tT (gx X) Ex mc) := pw_and1 h
theorem sw_or1 {mc : TM} (h : PT X a (tT (gx X) Ex mc)) : PW X (.BoolOp .Or [a] pos) (tT (gx X) Ex mc) := pw_or1 h
theorem sw_and {rest : List Expr} {ta tb : TM} (ha : PT X a (tT (gx X) Ex ta)) (hb : PW X (.BoolOp .And (b :: rest) pos) (tT (gx X) Ex tb)) : PW X (.BoolOp .And (a :: b :: rest) pos) (tT (gx X) Ex (tAnd ta tb)) := by
  refine pw_weak (pw_and ha hb) fun σ H Q ⟨W, s, env, he, hs, h⟩ => ?_
  refine tT_bind he hs h fun k s1 W1 H1 l1 he1 hs1 h1 => ?_
  cases k with
  | true => rw [if_pos rfl]; exact ⟨W1, s1, env, he1, hs1, Post.mono h1 (fun _ _ z W' H' l => z W' H' (l1.trans l)) fun _ _ _ z => z⟩
  | false => rw [if_neg Bool.false_ne_true]; exact h1 W1 H1 l1 hs1
theorem sw_or {rest : List Expr} {ta tb : TM} (ha : PT X a (tT (gx X) Ex ta)) (hb : PW X (.BoolOp .Or (b :: rest) pos) (tT (gx X) Ex tb)) : PW X (.BoolOp .Or (a :: b :: rest) pos) (tT (gx X) Ex (tOr ta tb)) := by
  refine pw_weak (pw_or ha hb) fun σ H Q ⟨W, s, env, he, hs, h⟩ => ?_
  refine tT_bind he hs h fun k s1 W1 H1 l1 he1 hs1 h1 => ?_
  cases k with
  | true => rw [if_pos rfl]; exact h1 W1 H1 l1 hs1
  | false => rw [if_neg Bool.false_ne_true]; exact ⟨W1, s1, env, he1, hs1, Post.mono h1 (fun _ _ z W' H' l => z W' H' (l1.trans l)) fun _ _ _ z => z⟩
theorem st_w {mc : TM} (h : PW X a (tT (gx X) Ex mc)) : PT X a (tT (gx X) Ex mc) := h.pt
theorem st_not {mc : TM} (h : PT X a (tT (gx X) Ex mc)) : PT X (.UnaryOp .Not a pos) (tT (gx X) Ex (tNot mc)) := by
  refine pt_weak (pt_not h) fun σ H Q ⟨W, s, env, he, hs, h⟩ => ?_
  refine tT_bind he hs h fun k s1 W1 H1 l1 he1 hs1 h1 => h1 W1 H1 l1 hs1

/-! ### arguments, displays -/
theorem sa_nil : PA X [] (tA (gx X) Ex aNil) := pa_weak pa_nil fun σ H Q ⟨W, s, env, he, hs, h⟩ => h W H [] (Wd.Le.refl W) hs .nil
theorem sa_cons {e : Expr} {es : List Expr} {m : EM} {ms : AM} (ha : PE X e (tE (gx X) Ex m)) (hr : PA X es (tA (gx X) Ex ms)) (hs : starEach (e :: es) X.env = (false, eval e X.env) :: starEach es X.env := by rfl) : PA X (e :: es) (tA (gx X) Ex (aCons m ms)) := by
  refine pa_weak (pa_cons ha hr hs) fun σ H Q ⟨W, s, env, he, hs, h⟩ => ?_
  refine tE_bind he hs h fun x s1 W1 H1 u l1 he1 hs1 r1 h1 => ?_
  refine tA_bind he1 hs1 h1 fun xs s2 W2 H2 us l2 he2 hs2 r2 h2 => ?_
  exact h2 W2 H2 _ (l1.trans l2) hs2 (.cons (r1.mono l2) r2)

/-- what a new thing is -/
def newT (xs : List PV) (s : S) : Option (PV × S) := if xs.length ≤ 16000000 then some (.tup xs, s) else none
def newL (mu : Bool) (xs : List PV) (s : S) : Option (PV × S) :=
  if xs.length ≤ 16000000 then (if mu then some (.obj s.length, s ++ [.lst xs]) else some (.lst xs, s)) else none
theorem big_line {n : Nat} (h : n ≤ 16000000) : n ≤ sizeLine := by rw [sizeLine_eq]; omega
theorem newT_ok {g : G} {W : Wd} {H : Hp} {s s' : S} {xs : List PV} {vs : List V} {v : PV} {Q : VK} (hs : StR g W H s) (r : Reps g.K W xs vs) (e : newT xs s = some (v, s')) (hc : Cont g W Q v s') :
    vs.length ≤ sizeLine ∧ NewT H vs Q := by
  unfold newT at e
  split at e
  · rename_i hl
    cases e
    refine ⟨by rw [← r.length]; exact big_line hl, fun p o hp hd => ?_⟩
    have l : W.Le ⟨upd W.fro p (.frz o (.tup vs)), W.ob, W.hid, W.lk⟩ := hs.le_new hp
    exact hc _ _ _ l (hs.new hp) (.tup (.inl ⟨o, upd_same, hd⟩) (r.mono l))
  · cases e
theorem newL_ok {g : G} {W : Wd} {H : Hp} {s s' : S} {xs : List PV} {vs : List V} {v : PV} {Q : VK} {mu : Bool} (hs : StR g W H s) (r : Reps g.K W xs vs) (e : newL mu xs s = some (v, s')) (hc : Cont g W Q v s') :
    vs.length ≤ sizeLine ∧ ∀ p, H p = none → Q (.ref p) (upd H p (.lst vs)) := by
  unfold newL at e
  split at e
  · rename_i hl
    refine ⟨by rw [← r.length]; exact big_line hl, fun p hp => ?_⟩
    cases mu with
    | true =>
      cases e
      have l : W.Le ⟨W.fro, W.ob ++ [p], W.hid, W.lk⟩ := le_ob p
      exact hc _ _ _ l (hs.alloc hp (.lst upd_same (r.mono l))) (.obj (by rw [← hs.len]; simp))
    | false =>
      cases e
      have l : W.Le ⟨upd W.fro p (.lst vs), W.ob, W.hid, W.lk⟩ := hs.le_new hp
      exact hc _ _ _ l (hs.new hp) (.lst upd_same (r.mono l))
  · cases e
def eTup (m : AM) : EM := eLs newT m
def eLst (mu : Bool) (m : AM) : EM := eLs (newL mu) m
theorem se_tup {es : List Expr} {m : AM} {x1} (h : PA X es (tA (gx X) Ex m)) : PE X (.Tuple es x1 pos) (tE (gx X) Ex (eTup m)) := by
  refine pe_weak (pe_tupN h) fun σ H Q ⟨W, s, env, he, hs, h⟩ => ?_
  refine tA_bind he hs h fun xs s1 W1 H1 us l1 he1 hs1 r1 h1 => ?_
  obtain ⟨v, s', e, hc⟩ := h1.lift
  exact newT_ok hs1 r1 e (hc.mono l1)
theorem se_lst {es : List Expr} {m : AM} (mu : Bool) (h : PA X es (tA (gx X) Ex m)) : PE X (.List es pos) (tE (gx X) Ex (eLst mu m)) := by
  refine pe_weak (pe_lst h) fun σ H Q ⟨W, s, env, he, hs, h⟩ => ?_
  refine tA_bind he hs h fun xs s1 W1 H1 us l1 he1 hs1 r1 h1 => ?_
  obtain ⟨v, s', e, hc⟩ := h1.lift
  exact newL_ok hs1 r1 e (hc.mono l1)

/-! ### calls of built-ins by values -/
theorem tCB_of {f : OL} {m : AM} {σ : L2.St} {H : Hp} {Q : VK} (h : tE (gx X) Ex (eLs f m) σ H Q) : tCB (rL (gx X) f) (tA (gx X) Ex m) σ H Q := by
  obtain ⟨W, s, env, he, hs, h⟩ := h
  refine tA_bind he hs h fun xs s1 W1 H1 us l1 he1 hs1 r1 h1 => ?_
  obtain ⟨v, s', e, hc⟩ := h1.lift
  exact ⟨W1, s1, xs, v, s', r1, hs1, e, hc.mono l1⟩
theorem se_callB {x : Str} {id : String} {p : Pos} {e : Expr} {es : List Expr} {f : OL} {m : AM} (hc : CallR X (.builtin id) (rL (gx X) f)) (hg : Gl X x) (hm : X.mg x = none) (hv : bootBuiltins x = some (.builtin id)) (ha : PA X (e :: es) (tA (gx X) Ex m))
    (hn : x ≠ "__name__" := by decide) (hdb : (x == ("__debug__" : Str)) = false := by decide) (he : starEach (e :: es) X.env = (false, eval e X.env) :: starEach es X.env := by rfl) (hpl : (backTo pos (starEach es X.env)).any (·.1) = false := by rfl) :
    PE X (.Call (.Name x p) (e :: es) [] pos) (tE (gx X) Ex (eLs f m)) := pe_weak (pe_callB hc hg hm hv ha hn hdb he hpl) fun _ _ _ h => tCB_of h
theorem se_callTy {x : Str} {T : String} {p : Pos} {e : Expr} {es : List Expr} {f : OL} {m : AM} (hc : CallR X (.type T) (rL (gx X) f)) (hg : Gl X x) (hm : X.mg x = none) (hv : bootBuiltins x = some (.type T)) (ha : PA X (e :: es) (tA (gx X) Ex m))
    (hn : x ≠ "__name__" := by decide) (hdb : (x == ("__debug__" : Str)) = false := by decide) (he : starEach (e :: es) X.env = (false, eval e X.env) :: starEach es X.env := by rfl) (hpl : (backTo pos (starEach es X.env)).any (·.1) = false := by rfl) :
    PE X (.Call (.Name x p) (e :: es) [] pos) (tE (gx X) Ex (eLs f m)) := pe_weak (pe_callTy hc hg hm hv ha hn hdb he hpl) fun _ _ _ h => tCB_of h
end
end Z

set_option Elab.async false
set_option linter.all false
set_option maxRecDepth 100000
set_option maxHeartbeats 4000000
/-! Z3: the operators by values. -/
namespace Z
open PySem PySem.Spec L2
variable [LamT]

section
variable {X : Cx}
theorem Reps.atI {K : PySem.W.Frag} {W : Wd} {xs : List PV} {vs : List V} (r : Reps K W xs vs) {i : Int} {x : PV} (e : L2.atI xs i = some x) : ∃ v, L2.atI vs i = some v ∧ Rep K W x v := by
  unfold L2.atI at e ⊢
  rw [r.length] at e
  cases q : ixN vs.length i with
  | none => rw [q] at e; cases e
  | some j => rw [q] at e; exact r.get e
theorem tup_sq {g : G} {W : Wd} {H : Hp} {s : S} {a : Addr} {vs : List V} (hs : StR g W H s) (h : SqN g.K W.fro a vs) : SqT g.K H a vs := (hs.fro.sqN h).t
theorem tup_sqT {g : G} {W : Wd} {H : Hp} {s : S} {a : Addr} {vs : List V} (hs : StR g W H s) (h : SqT g.K W.fro a vs) : SqT g.K H a vs := hs.fro.sqT h
/-- a list's items: of one that stands for ever, of a mutable one -/
def lsOf (s : S) (x : PV) : Option (List PV) :=
  match x with
  | .lst xs => some xs
  | .obj n => match s[n]? with
    | some (.lst xs) => some xs
    | _ => none
  | _ => none
theorem lsOf_ok {g : G} {W : Wd} {H : Hp} {s : S} {x : PV} {v : V} {xs : List PV} (hs : StR g W H s) (r : Rep g.K W x v) (e : lsOf s x = some xs) : ∃ a vs, v = .ref a ∧ H a = some (.lst vs) ∧ Reps g.K W xs vs := by
  cases r with
  | lst h q => cases e; exact ⟨_, _, rfl, hs.fro _ _ h, q⟩
  | obj h =>
    rename_i a n
    have e' : (match s[n]? with | some (.lst xs) => some xs | _ => none) = some xs := e
    cases hn : s[n]? with
    | none => rw [hn] at e'; cases e'
    | some o =>
      rw [hn] at e'
      have q := hs.obj h hn
      cases o with
      | lst ys => cases e'; cases q with | lst h1 q => exact ⟨_, _, rfl, h1, q⟩
      | _ => cases e'
  | _ => cases e
/-- .. the script too: what is read alone -/
def rdOf (s : S) (x : PV) : Option (List PV) :=
  match x with
  | .scr xs => some xs
  | x => lsOf s x
theorem rdOf_ok {g : G} {W : Wd} {H : Hp} {s : S} {x : PV} {v : V} {xs : List PV} (hs : StR g W H s) (r : Rep g.K W x v) (e : rdOf s x = some xs) : ∃ a vs, v = .ref a ∧ SqL g.K H a vs ∧ Reps g.K W xs vs := by
  by_cases h : ∃ ys, x = .scr ys
  · obtain ⟨ys, rfl⟩ := h
    cases e
    cases r with | scr h q => exact ⟨_, _, rfl, hs.fro.sqL h, q⟩
  · have e' : lsOf s x = some xs := by
      cases x with
      | scr ys => exact absurd ⟨ys, rfl⟩ h
      | _ => exact e
    obtain ⟨a, vs, h1, h2, h3⟩ := lsOf_ok hs r e'
    exact ⟨a, vs, h1, .inl (.inl h2), h3⟩
/-- items of a list or a tuple -/
def sqOf (s : S) (x : PV) : Option (List PV) :=
  match x with
  | .tup xs => some xs
  | x => rdOf s x
theorem sqOf_ok {g : G} {W : Wd} {H : Hp} {s : S} {x : PV} {v : V} {xs : List PV} (hs : StR g W H s) (r : Rep g.K W x v) (e : sqOf s x = some xs) : ∃ a vs, v = .ref a ∧ (SqL g.K H a vs ∨ SqT g.K H a vs) ∧ Reps g.K W xs vs := by
  by_cases h : ∃ ys, x = .tup ys
  · obtain ⟨ys, rfl⟩ := h
    cases e
    cases r with | tup h q => exact ⟨_, _, rfl, .inr (tup_sq hs h), q⟩
  · have e' : rdOf s x = some xs := by
      cases x with
      | tup ys => exact absurd ⟨ys, rfl⟩ h
      | _ => exact e
    obtain ⟨a, vs, h1, h2, h3⟩ := rdOf_ok hs r e'
    exact ⟨a, vs, h1, .inl h2, h3⟩

/-! ### + - * // % ** -/
def b2 (k : Bool) : Int := if k then 1 else 0
def oAdd (mu : Bool) : O2 := fun x y s =>
  match x, y with
  | .int i, .int j => some (.int (i + j), s)
  | .int i, .bl k => some (.int (i + b2 k), s)
  | .str a, .str b => if a.length + b.length ≤ 16000000 then some (.str (a ++ b), s) else none
  | .tup xs, .tup ys => newT (xs ++ ys) s
  | x, y => match lsOf s x, lsOf s y with
    | some xs, some ys => newL mu (xs ++ ys) s
    | _, _ => none
def oSub : O2 := fun x y s =>
  match x, y with
  | .int i, .int j => some (.int (i - j), s)
  | _, _ => none
def oMulI : O2 := fun x y s =>
  match x, y with
  | .int i, .int j => if (-(2 ^ 64) < i ∧ i < 2 ^ 64) ∨ (-(2 ^ 64) < j ∧ j < 2 ^ 64) then some (.int (i * j), s) else none
  | _, _ => none
def oRep (mu : Bool) : O2 := fun x y s =>
  match lsOf s x, y with
  | some xs, .int k => if -(2 ^ 63) ≤ k ∧ k < 2 ^ 63 then newL mu (List.replicate k.toNat xs).flatten s else none
  | _, _ => none
def oFdiv : O2 := fun x y s =>
  match x, y with
  | .int i, .int j => if j ≠ 0 ∧ (j.natAbs < 1073741824 ∨ (0 < j ∧ j < 2 ^ 64)) then some (.int (i.fdiv j), s) else none
  | _, _ => none
def oMod : O2 := fun x y s =>
  match x, y with
  | .int i, .int j => if j ≠ 0 then some (.int (i.fmod j), s) else none
  | _, _ => none
def oPow : O2 := fun x y s =>
  match x, y with
  | .int i, .int j => if 0 ≤ j ∧ j ≤ 1000000 ∧ i.natAbs < 2 ^ 64 then some (.int (i ^ j.toNat), s) else none
  | _, _ => none
def uNeg : O1 := fun x s =>
  match x with
  | .int i => some (.int (-i), s)
  | _ => none

theorem r_sub : OpR X (binaryOp .Sub) (rM (gx X) oSub) := by
  intro pins s σ H x y v u Q I rx ry ⟨W, st, px, py, r, s', r1, r2, hs, e, hc⟩
  unfold oSub at e
  split at e <;> try (cases e; done)
  cases e; cases r1; cases r2
  exact op_sub pins s σ H _ _ v u Q I rx ry ⟨_, _, rfl, rfl, hc.here hs (.int _)⟩
theorem r_mod : OpR X (binaryOp .Mod) (rM (gx X) oMod) := by
  intro pins s σ H x y v u Q I rx ry ⟨W, st, px, py, r, s', r1, r2, hs, e, hc⟩
  unfold oMod at e
  split at e <;> try (cases e; done)
  split at e <;> try (cases e; done)
  rename_i h
  cases e; cases r1; cases r2
  exact op_modN pins s σ H _ _ v u Q I rx ry ⟨_, _, rfl, rfl, h, hc.here hs (.int _)⟩
theorem r_fdiv : OpR X (binaryOp .FloorDiv) (rM (gx X) oFdiv) := by
  intro pins s σ H x y v u Q I rx ry ⟨W, st, px, py, r, s', r1, r2, hs, e, hc⟩
  unfold oFdiv at e
  split at e <;> try (cases e; done)
  split at e <;> try (cases e; done)
  rename_i h
  cases e; cases r1; cases r2
  rcases h with ⟨h1, h2 | ⟨h2, h3⟩⟩
  · exact op_fdivN pins s σ H _ _ v u Q I rx ry ⟨_, _, rfl, rfl, ⟨h1, h2⟩, hc.here hs (.int _)⟩
  · have q := hc.here hs (.int _)
    rw [Int.fdiv_eq_ediv_of_nonneg _ (by omega)] at q
    exact op_fdivW pins s σ H _ _ v u Q I rx ry ⟨_, _, rfl, rfl, wide_div h2 (b := 64) (by omega) (by decide) (by decide), q⟩
theorem r_pow : OpR X (binaryOp .Pow) (rM (gx X) oPow) := by
  intro pins s σ H x y v u Q I rx ry ⟨W, st, px, py, r, s', r1, r2, hs, e, hc⟩
  unfold oPow at e
  split at e <;> try (cases e; done)
  split at e <;> try (cases e; done)
  rename_i h
  cases e; cases r1; cases r2
  exact op_pow pins s σ H _ _ v u Q I rx ry ⟨_, _, rfl, rfl, h, hc.here hs (.int _)⟩
theorem r_mulI : OpR X (binaryOp .Mult) (rM (gx X) oMulI) := by
  intro pins s σ H x y v u Q I rx ry ⟨W, st, px, py, r, s', r1, r2, hs, e, hc⟩
  unfold oMulI at e
  split at e <;> try (cases e; done)
  split at e <;> try (cases e; done)
  rename_i h
  cases e; cases r1; cases r2
  exact op_mul pins s σ H _ _ v u Q I rx ry ⟨_, _, rfl, rfl, h, hc.here hs (.int _)⟩
theorem Reps.flat {K : PySem.W.Frag} {W : Wd} {xs : List PV} {vs : List V} (r : Reps K W xs vs) : ∀ n, Reps K W (List.replicate n xs).flatten (List.replicate n vs).flatten
  | 0 => .nil
  | n + 1 => by rw [List.replicate_succ, List.replicate_succ, List.flatten_cons, List.flatten_cons]; exact r.append (Reps.flat r n)
theorem flat_len {α : Type} (xs : List α) : ∀ n, (List.replicate n xs).flatten.length = xs.length * n
  | 0 => rfl
  | n + 1 => by rw [List.replicate_succ, List.flatten_cons, List.length_append, flat_len xs n, Nat.mul_succ, Nat.add_comm]
theorem r_rep (mu : Bool) : OpR X (binaryOp .Mult) (rM (gx X) (oRep mu)) := by
  intro pins s σ H x y v u Q I rx ry ⟨W, st, px, py, r, s', r1, r2, hs, e, hc⟩
  unfold oRep at e
  split at e <;> try (cases e; done)
  rename_i xs k e1
  split at e <;> try (cases e; done)
  rename_i h
  cases r2
  obtain ⟨a, vs, rfl, h1, h2⟩ := lsOf_ok hs r1 e1
  obtain ⟨hz, q⟩ := newL_ok hs (h2.flat k.toNat) e hc
  exact op_rep pins s σ H _ _ v u Q I rx ry ⟨a, k, vs, rfl, rfl, h1, h.1, h.2, by rw [flat_len] at hz; exact hz, q⟩
theorem r_add (mu : Bool) : OpR X (binaryOp .Add) (rM (gx X) (oAdd mu)) := by
  intro pins s σ H x y v u Q I rx ry ⟨W, st, px, py, r, s', r1, r2, hs, e, hc⟩
  unfold oAdd at e
  split at e
  · cases e; cases r1; cases r2
    exact op_add pins s σ H _ _ v u Q I rx ry ⟨_, _, rfl, rfl, hc.here hs (.int _)⟩
  · cases e; cases r1; cases r2
    exact op_add_ib pins s σ H _ _ v u Q I rx ry ⟨_, _, rfl, rfl, hc.here hs (.int _)⟩
  · split at e <;> try (cases e; done)
    rename_i h
    cases e; cases r1; cases r2
    exact op_add_str pins s σ H _ _ v u Q I rx ry ⟨_, _, rfl, rfl, big_line h, hc.here hs (.str _)⟩
  · cases r1 with
    | tup h1 q1 =>
      cases r2 with
      | tup h2 q2 =>
        rename_i a xs b ys
        obtain ⟨hz, q⟩ := newT_ok hs (q1.append q2) e hc
        refine op_catN pins s σ H _ _ v u Q I rx ry ⟨_, _, _, _, rfl, rfl, tup_sq hs h1, tup_sq hs h2, by rw [List.length_append] at hz; exact hz, fun hx => ?_, fun _ hy => ?_, fun _ _ => q⟩
        · subst hx
          cases q1
          unfold newT at e
          split at e <;> cases e
          exact hc.here hs (.tup h2 q2)
        · subst hy
          cases q2
          unfold newT at e
          split at e <;> cases e
          rw [List.append_nil] at hc
          exact hc.here hs (.tup h1 q1)
  · split at e <;> try (cases e; done)
    rename_i xs ys e1 e2
    obtain ⟨a, vs, rfl, h1, q1⟩ := lsOf_ok hs r1 e1
    obtain ⟨b, us, rfl, h2, q2⟩ := lsOf_ok hs r2 e2
    obtain ⟨hz, q⟩ := newL_ok hs (q1.append q2) e hc
    exact op_cat pins s σ H _ _ v u Q I rx ry ⟨a, b, vs, us, rfl, rfl, h1, h2, by rw [List.length_append] at hz; exact hz, q⟩
theorem r_neg : UnR X (unaryOp .USub) (rU1 (gx X) uNeg) := by
  intro pins s σ H x v Q I rx ⟨W, st, px, r, s', r1, hs, e, hc⟩
  unfold uNeg at e
  split at e <;> try (cases e; done)
  cases e; cases r1
  exact un_neg pins s σ H _ v Q I rx ⟨_, rfl, hc.here hs (.int _)⟩

/-! ### order -/
def oRel (p : Int → Int → Bool) : O2 := fun x y s =>
  match x, y with
  | .int i, .int j => some (.bl (p i j), s)
  | _, _ => none
abbrev oLt := oRel fun i j => decide (i < j)
abbrev oLe := oRel fun i j => decide (i ≤ j)
abbrev oGt := oRel fun i j => decide (j < i)
abbrev oGe := oRel fun i j => decide (j ≤ i)
theorem r_rel {op : CmpOp} {p : Int → Int → Bool} (h : OpR X (compareOp op) (rI0 fun i j => .bl (p i j))) : OpR X (compareOp op) (rM (gx X) (oRel p)) := by
  intro pins s σ H x y v u Q I rx ry ⟨W, st, px, py, r, s', r1, r2, hs, e, hc⟩
  unfold oRel at e
  split at e <;> try (cases e; done)
  cases e; cases r1; cases r2
  exact h pins s σ H _ _ v u Q I rx ry ⟨_, _, rfl, rfl, hc.here hs (.bl _)⟩
theorem r_lt : OpR X (compareOp .Lt) (rM (gx X) oLt) := r_rel op_lt
theorem r_le : OpR X (compareOp .LtE) (rM (gx X) oLe) := r_rel op_le
theorem r_gt : OpR X (compareOp .Gt) (rM (gx X) oGt) := r_rel op_gt
theorem r_ge : OpR X (compareOp .GtE) (rM (gx X) oGe) := r_rel op_ge

/-! ### is None, is True -/
def oIsN : O2 := fun x y s =>
  match x, y with
  | .non, .non => some (.bl true, s)
  | _, .non => some (.bl false, s)
  | .bl a, .bl b => some (.bl (a == b), s)
  | _, _ => none
def oIsNot : O2 := fun x y s =>
  match x, y with
  | .non, .non => some (.bl false, s)
  | _, .non => some (.bl true, s)
  | .bl a, .bl b => some (.bl (!(a == b)), s)
  | _, _ => none
theorem Rep.non_iff {K : PySem.W.Frag} {W : Wd} {x : PV} {v : V} (r : Rep K W x v) (h : x ≠ .non) : decide (v = .non) = false := by
  cases r <;> first | exact absurd rfl h | rfl | exact decide_eq_false (fun z => by cases z)
theorem dec_bls (a b : Bool) : decide (a = b) = (a == b) := by cases a <;> cases b <;> rfl
theorem r_is : OpR X (compareOp .Is) (rM (gx X) oIsN) := by
  intro pins s σ H x y v u Q I rx ry ⟨W, st, px, py, r, s', r1, r2, hs, e, hc⟩
  unfold oIsN at e
  split at e
  · cases e; cases r1; cases r2
    exact op_isN pins s σ H _ _ v u Q I rx ry ⟨rfl, hc.here hs (.bl _)⟩
  · rename_i hx
    cases e; cases r2
    have hx' : px ≠ .non := fun z => hx z
    exact op_isN pins s σ H _ _ v u Q I rx ry ⟨rfl, by rw [r1.non_iff hx']; exact hc.here hs (.bl _)⟩
  · cases e; cases r1; cases r2
    exact op_isBl pins s σ H _ _ v u Q I rx ry ⟨_, _, rfl, rfl, by rw [dec_bls]; exact hc.here hs (.bl _)⟩
  · cases e
theorem r_isnot : OpR X (compareOp .IsNot) (rM (gx X) oIsNot) := by
  intro pins s σ H x y v u Q I rx ry ⟨W, st, px, py, r, s', r1, r2, hs, e, hc⟩
  unfold oIsNot at e
  split at e
  · cases e; cases r1; cases r2
    exact op_notN pins s σ H _ _ v u Q I rx ry ⟨rfl, hc.here hs (.bl _)⟩
  · rename_i hx
    cases e; cases r2
    have hx' : px ≠ .non := fun z => hx z
    exact op_notN pins s σ H _ _ v u Q I rx ry ⟨rfl, by rw [r1.non_iff hx']; exact hc.here hs (.bl _)⟩
  · cases e; cases r1; cases r2
    exact op_notBl pins s σ H _ _ v u Q I rx ry ⟨_, _, rfl, rfl, by rw [dec_bls]; exact hc.here hs (.bl _)⟩
  · cases e
end
end Z

set_option Elab.async false
set_option linter.all false
set_option maxRecDepth 100000
set_option maxHeartbeats 4000000
/-! Z4: == and != by values (printed by gen4.py). -/
namespace Z
open PySem PySem.Spec L2
variable [LamT]

mutual
def PV.depth : PV → Nat
  | .tup xs => depths xs + 1
  | .lst xs => depths xs + 1
  | _ => 0
def depths : List PV → Nat
  | [] => 0
  | x :: xs => max (PV.depth x) (depths xs)
end
mutual
def peq : PV → PV → Option Bool
  | .non, .non => some true
  | .non, .bl _ => some false
  | .non, .int _ => some false
  | .non, .str _ => some false
  | .non, .lst _ => some false
  | .non, .tup _ => some false
  | .bl _, .non => some false
  | .bl p, .bl q => some (p == q)
  | .bl p, .int q => some ((if p then 1 else 0) == q)
  | .bl _, .str _ => some false
  | .bl _, .lst _ => some false
  | .bl _, .tup _ => some false
  | .int _, .non => some false
  | .int p, .bl q => some (p == (if q then 1 else 0))
  | .int p, .int q => some (p == q)
  | .int _, .str _ => some false
  | .int _, .lst _ => some false
  | .int _, .tup _ => some false
  | .str _, .non => some false
  | .str _, .bl _ => some false
  | .str _, .int _ => some false
  | .str p, .str q => some (p == q)
  | .str _, .lst _ => some false
  | .str _, .tup _ => some false
  | .lst _, .non => some false
  | .lst _, .bl _ => some false
  | .lst _, .int _ => some false
  | .lst _, .str _ => some false
  | .lst _, .tup _ => some false
  | .tup _, .non => some false
  | .tup _, .bl _ => some false
  | .tup _, .int _ => some false
  | .tup _, .str _ => some false
  | .tup _, .lst _ => some false
  | .lst xs, .lst ys => if xs.length = ys.length then peqs xs ys else some false
  | .tup xs, .tup ys =>
    match peqs xs ys with
    | some b => some (b && xs.length == ys.length)
    | none => none
  | _, _ => none
def peqs : List PV → List PV → Option Bool
  | x :: xs, y :: ys =>
    match peq x y, peqs xs ys with
    | some a, some b => some (a && b)
    | _, _ => none
  | [], _ => some true
  | _ :: _, [] => some true
end
/-- the answers pair by pair -/
def ans (xs ys : List PV) (j : Nat) : Bool := (peq (xs.getD j .non) (ys.getD j .non)).getD false
theorem peqs_ans : ∀ (xs ys : List PV) {b : Bool}, peqs xs ys = some b → b = (List.range (min xs.length ys.length)).all (ans xs ys) ∧ ∀ (j : Nat) (x y : PV), xs[j]? = some x → ys[j]? = some y → peq x y = some (ans xs ys j)
  | [], ys, b, h => by
    unfold peqs at h
    cases h
    exact ⟨by simp, fun j x y e => by simp at e⟩
  | x :: xs, [], b, h => by
    unfold peqs at h
    cases h
    exact ⟨by simp, fun j x y _ e => by simp at e⟩
  | x :: xs, y :: ys, b, h => by
    unfold peqs at h
    split at h
    · rename_i c d e1 e2
      cases h
      obtain ⟨h1, h2⟩ := peqs_ans xs ys e2
      have z : ∀ j, ans (x :: xs) (y :: ys) (j + 1) = ans xs ys j := fun j => rfl
      have z0 : ans (x :: xs) (y :: ys) 0 = c := by show (peq x y).getD false = c; rw [e1]; rfl
      refine ⟨?_, fun j u v q1 q2 => ?_⟩
      · have e : min (x :: xs).length (y :: ys).length = min xs.length ys.length + 1 := by simp only [List.length_cons]; omega
        rw [e, List.range_succ_eq_map, List.all_cons, List.all_map, z0, h1]
        rfl
      · cases j with
        | zero => simp at q1 q2; subst q1 q2; rw [z0]; exact e1
        | succ j => rw [z]; exact h2 j u v (by simpa using q1) (by simpa using q2)
    · cases h
theorem depth_le : ∀ {xs : List PV} {j : Nat} {x : PV}, xs[j]? = some x → x.depth ≤ depths xs
  | [], _, _, e => by simp at e
  | y :: ys, 0, x, e => by simp at e; subst e; simp only [depths]; omega
  | y :: ys, j + 1, x, e => by
    have := depth_le (xs := ys) (j := j) (x := x) (by simpa using e)
    simp only [depths]; omega
/-- all three ways to ask -/
structure Eq3 (A : Around) (s : Shared) (v u : Value) (b : Bool) : Prop where
  eq : SeqAt.EqAt A s v u b
  rc : SeqAt.RcAt A s v u b
  ne : SeqAt.RcNeAt A s v u (!b)

section
variable {X : Cx} {pins : List (Addr × Obj)} {σ : L2.St} {H : Hp} {s : Shared} {W : Wd} {st : S}
theorem lst_heap (I : Inv X pins σ H s) (hs : Sub W.fro H) {a : Addr} {vs : List V} (h : W.fro a = some (.lst vs)) : ∃ its : List Value, Vals vs its ∧ s.heap.IsList a its.toArray := by
  obtain ⟨its, r, p, _⟩ := I.list (.inl (.inl (hs _ _ h)))
  exact ⟨its, r, p.isList⟩
theorem tup_heap (I : Inv X pins σ H s) (hs : Sub W.fro H) {a : Addr} {vs : List V} (h : SqN X.K W.fro a vs) : ∃ its : List Value, Vals vs its ∧ s.heap.IsTuple a its.toArray := by
  obtain ⟨its, r, p, _⟩ := I.tuple (hs.sqN h).t
  exact ⟨its, r, p⟩
theorem no_both {h : Heap} {a : Addr} {x y : Array Value} (h1 : h.IsList a x) (h2 : h.IsTuple a y) : False := by
  obtain ⟨o, e, c, _⟩ := h1
  obtain ⟨o', e', c', _⟩ := h2
  rw [e] at e'; cases e'
  rw [c] at c'
  simp at c'
theorem same_list {h : Heap} {a : Addr} {x y : Array Value} (h1 : h.IsList a x) (h2 : h.IsList a y) : x = y := by
  obtain ⟨o, e, _, n, d⟩ := h1
  obtain ⟨o', e', _, n', d'⟩ := h2
  rw [e] at e'; cases e'
  rw [d] at d'; cases d'; rfl
theorem same_tup {h : Heap} {a : Addr} {x y : Array Value} (h1 : h.IsTuple a x) (h2 : h.IsTuple a y) : x = y := by
  obtain ⟨o, e, _, n, d⟩ := h1
  obtain ⟨o', e', _, n', d'⟩ := h2
  rw [e] at e'; cases e'
  rw [d] at d'; cases d'; rfl

mutual
theorem peq_refl (I : Inv X pins σ H s) (hs : Sub W.fro H) : ∀ (x y : PV) {v : V} {b : Bool}, Rep X.K W x v → Rep X.K W y v → peq x y = some b → b = true
  | .non, .non, _, _, r1, r2, e => by unfold peq at e; cases e; cases r1; cases r2; simp
  | .non, .bl q, _, _, r1, r2, e => by cases r1 <;> cases r2
  | .non, .int q, _, _, r1, r2, e => by cases r1 <;> cases r2
  | .non, .str q, _, _, r1, r2, e => by cases r1 <;> cases r2
  | .non, .lst q, _, _, r1, r2, e => by cases r1 <;> cases r2
  | .non, .tup q, _, _, r1, r2, e => by cases r1 <;> cases r2
  | .bl p, .non, _, _, r1, r2, e => by cases r1 <;> cases r2
  | .bl p, .bl q, _, _, r1, r2, e => by unfold peq at e; cases e; cases r1; cases r2; simp
  | .bl p, .int q, _, _, r1, r2, e => by cases r1 <;> cases r2
  | .bl p, .str q, _, _, r1, r2, e => by cases r1 <;> cases r2
  | .bl p, .lst q, _, _, r1, r2, e => by cases r1 <;> cases r2
  | .bl p, .tup q, _, _, r1, r2, e => by cases r1 <;> cases r2
  | .int p, .non, _, _, r1, r2, e => by cases r1 <;> cases r2
  | .int p, .bl q, _, _, r1, r2, e => by cases r1 <;> cases r2
  | .int p, .int q, _, _, r1, r2, e => by unfold peq at e; cases e; cases r1; cases r2; simp
  | .int p, .str q, _, _, r1, r2, e => by cases r1 <;> cases r2
  | .int p, .lst q, _, _, r1, r2, e => by cases r1 <;> cases r2
  | .int p, .tup q, _, _, r1, r2, e => by cases r1 <;> cases r2
  | .str p, .non, _, _, r1, r2, e => by cases r1 <;> cases r2
  | .str p, .bl q, _, _, r1, r2, e => by cases r1 <;> cases r2
  | .str p, .int q, _, _, r1, r2, e => by cases r1 <;> cases r2
  | .str p, .str q, _, _, r1, r2, e => by unfold peq at e; cases e; cases r1; cases r2; simp
  | .str p, .lst q, _, _, r1, r2, e => by cases r1 <;> cases r2
  | .str p, .tup q, _, _, r1, r2, e => by cases r1 <;> cases r2
  | .lst p, .non, _, _, r1, r2, e => by cases r1 <;> cases r2
  | .lst p, .bl q, _, _, r1, r2, e => by cases r1 <;> cases r2
  | .lst p, .int q, _, _, r1, r2, e => by cases r1 <;> cases r2
  | .lst p, .str q, _, _, r1, r2, e => by cases r1 <;> cases r2
  | .lst p, .tup q, _, _, r1, r2, e => by cases r1 with | lst h _ => (cases r2 with | tup h2 _ => exact (no_both (lst_heap I hs h).choose_spec.2 (tup_heap I hs h2).choose_spec.2).elim)
  | .tup p, .non, _, _, r1, r2, e => by cases r1 <;> cases r2
  | .tup p, .bl q, _, _, r1, r2, e => by cases r1 <;> cases r2
  | .tup p, .int q, _, _, r1, r2, e => by cases r1 <;> cases r2
  | .tup p, .str q, _, _, r1, r2, e => by cases r1 <;> cases r2
  | .tup p, .lst q, _, _, r1, r2, e => by cases r1 with | tup h _ => (cases r2 with | lst h2 _ => exact (no_both (lst_heap I hs h2).choose_spec.2 (tup_heap I hs h).choose_spec.2).elim)
  | .lst xs, .lst ys, _, b, r1, r2, e => by
    cases r1 with
    | lst h1 q1 =>
      cases r2 with
      | lst h2 q2 =>
        rename_i a vs ws
        have e3 : vs = ws := by rw [h1] at h2; cases h2; rfl
        subst e3
        unfold peq at e
        rw [if_pos (by rw [q1.length, q2.length])] at e
        exact peqs_refl I hs xs ys q1 q2 e
  | .tup xs, .tup ys, _, b, r1, r2, e => by
    cases r1 with
    | tup h1 q1 =>
      cases r2 with
      | tup h2 q2 =>
        rename_i a vs ws
        have e3 : vs = ws := I.tuple_inj (hs.sqN h1).t (hs.sqN h2).t
        subst e3
        unfold peq at e
        split at e
        · rename_i c e1
          cases e
          have := peqs_refl I hs xs ys q1 q2 e1
          subst this
          rw [q1.length, q2.length]; simp
        · cases e
  | .scr _, _, _, _, _, _, e => by unfold peq at e; cases e
  | .dic _, _, _, _, _, _, e => by unfold peq at e; cases e
  | .obj _, _, _, _, _, _, e => by unfold peq at e; cases e
  | .wt _, _, _, _, _, _, e => by unfold peq at e; cases e
  | .non, .scr _, _, _, _, _, e => by unfold peq at e; cases e
  | .non, .dic _, _, _, _, _, e => by unfold peq at e; cases e
  | .non, .obj _, _, _, _, _, e => by unfold peq at e; cases e
  | .non, .wt _, _, _, _, _, e => by unfold peq at e; cases e
  | .bl _, .scr _, _, _, _, _, e => by unfold peq at e; cases e
  | .bl _, .dic _, _, _, _, _, e => by unfold peq at e; cases e
  | .bl _, .obj _, _, _, _, _, e => by unfold peq at e; cases e
  | .bl _, .wt _, _, _, _, _, e => by unfold peq at e; cases e
  | .int _, .scr _, _, _, _, _, e => by unfold peq at e; cases e
  | .int _, .dic _, _, _, _, _, e => by unfold peq at e; cases e
  | .int _, .obj _, _, _, _, _, e => by unfold peq at e; cases e
  | .int _, .wt _, _, _, _, _, e => by unfold peq at e; cases e
  | .str _, .scr _, _, _, _, _, e => by unfold peq at e; cases e
  | .str _, .dic _, _, _, _, _, e => by unfold peq at e; cases e
  | .str _, .obj _, _, _, _, _, e => by unfold peq at e; cases e
  | .str _, .wt _, _, _, _, _, e => by unfold peq at e; cases e
  | .lst _, .scr _, _, _, _, _, e => by unfold peq at e; cases e
  | .lst _, .dic _, _, _, _, _, e => by unfold peq at e; cases e
  | .lst _, .obj _, _, _, _, _, e => by unfold peq at e; cases e
  | .lst _, .wt _, _, _, _, _, e => by unfold peq at e; cases e
  | .tup _, .scr _, _, _, _, _, e => by unfold peq at e; cases e
  | .tup _, .dic _, _, _, _, _, e => by unfold peq at e; cases e
  | .tup _, .obj _, _, _, _, _, e => by unfold peq at e; cases e
  | .tup _, .wt _, _, _, _, _, e => by unfold peq at e; cases e
theorem peqs_refl (I : Inv X pins σ H s) (hs : Sub W.fro H) : ∀ (xs ys : List PV) {vs : List V} {b : Bool}, Reps X.K W xs vs → Reps X.K W ys vs → peqs xs ys = some b → b = true
  | [], _, _, _, _, _, e => by unfold peqs at e; cases e; rfl
  | _ :: _, [], _, _, _, _, e => by unfold peqs at e; cases e; rfl
  | x :: xs, y :: ys, _, _, r1, r2, e => by
    cases r1 with
    | cons a1 t1 =>
      cases r2 with
      | cons a2 t2 =>
        unfold peqs at e
        split at e
        · rename_i c d e1 e2
          cases e
          rw [peq_refl I hs x y a1 a2 e1, peqs_refl I hs xs ys t1 t2 e2]; rfl
        · cases e
end

mutual
theorem peq_ok (I : Inv X pins σ H s) (hs : Sub W.fro H) : ∀ (x y : PV) (A : Around) {v u : V} {vv uu : Value} {b : Bool}, Rep X.K W x v → Rep X.K W y u → RelV v vv → RelV u uu → peq x y = some b → A.units + x.depth < cLine → Eq3 A s vv uu b
  | .non, .non, A, _, _, _, _, _, r1, r2, v1, v2, e, hu => by unfold peq at e; cases e; cases r1; cases v1; cases r2; cases v2; exact ⟨.same _, .none_none, .none_none⟩
  | .non, .bl q, A, _, _, _, _, _, r1, r2, v1, v2, e, hu => by unfold peq at e; cases e; cases r1; cases v1; cases r2; cases v2; exact ⟨.none_bool q, .none_bool q, .none_bool q⟩
  | .non, .int q, A, _, _, _, _, _, r1, r2, v1, v2, e, hu => by unfold peq at e; cases e; cases r1; cases v1; cases r2; obtain ⟨tq, rfl⟩ := v2; exact ⟨.none_int q tq, .none_int q tq, .none_int q tq⟩
  | .non, .str q, A, _, _, _, _, _, r1, r2, v1, v2, e, hu => by unfold peq at e; cases e; cases r1; cases v1; cases r2; obtain ⟨tq, rfl⟩ := v2; exact ⟨.none_str q tq, .none_str q tq, .none_str q tq⟩
  | .non, .lst q, A, _, _, _, _, _, r1, r2, v1, v2, e, hu => by unfold peq at e; cases e; cases r1; cases v1; cases r2 with | lst hq _ => cases v2; obtain ⟨itsq, _, hlq⟩ := lst_heap I hs hq; exact ⟨.none_list hlq (by have := hu; omega), .none_list hlq (by have := hu; omega), .none_list hlq (by have := hu; omega)⟩
  | .non, .tup q, A, _, _, _, _, _, r1, r2, v1, v2, e, hu => by unfold peq at e; cases e; cases r1; cases v1; cases r2 with | tup hq _ => cases v2; obtain ⟨itsq, _, hlq⟩ := tup_heap I hs hq; exact ⟨.none_tuple hlq (by have := hu; omega), .none_tuple hlq (by have := hu; omega), .none_tuple hlq (by have := hu; omega)⟩
  | .bl p, .non, A, _, _, _, _, _, r1, r2, v1, v2, e, hu => by unfold peq at e; cases e; cases r1; cases v1; cases r2; cases v2; exact ⟨.bool_none p, .bool_none p, .bool_none p⟩
  | .bl p, .bl q, A, _, _, _, _, _, r1, r2, v1, v2, e, hu => by unfold peq at e; cases e; cases r1; cases v1; cases r2; cases v2; exact ⟨.bool_bool p q, .bool_bool p q, .bool_bool p q⟩
  | .bl p, .int q, A, _, _, _, _, _, r1, r2, v1, v2, e, hu => by unfold peq at e; cases e; cases r1; cases v1; cases r2; obtain ⟨tq, rfl⟩ := v2; exact ⟨.bool_int p q tq, .bool_int p q tq, .bool_int p q tq⟩
  | .bl p, .str q, A, _, _, _, _, _, r1, r2, v1, v2, e, hu => by unfold peq at e; cases e; cases r1; cases v1; cases r2; obtain ⟨tq, rfl⟩ := v2; exact ⟨.bool_str p q tq, .bool_str p q tq, .bool_str p q tq⟩
  | .bl p, .lst q, A, _, _, _, _, _, r1, r2, v1, v2, e, hu => by unfold peq at e; cases e; cases r1; cases v1; cases r2 with | lst hq _ => cases v2; obtain ⟨itsq, _, hlq⟩ := lst_heap I hs hq; exact ⟨.bool_list p hlq (by have := hu; omega), .bool_list p hlq (by have := hu; omega), .bool_list p hlq (by have := hu; omega)⟩
  | .bl p, .tup q, A, _, _, _, _, _, r1, r2, v1, v2, e, hu => by unfold peq at e; cases e; cases r1; cases v1; cases r2 with | tup hq _ => cases v2; obtain ⟨itsq, _, hlq⟩ := tup_heap I hs hq; exact ⟨.bool_tuple p hlq (by have := hu; omega), .bool_tuple p hlq (by have := hu; omega), .bool_tuple p hlq (by have := hu; omega)⟩
  | .int p, .non, A, _, _, _, _, _, r1, r2, v1, v2, e, hu => by unfold peq at e; cases e; cases r1; obtain ⟨tp, rfl⟩ := v1; cases r2; cases v2; exact ⟨.int_none p tp, .int_none p tp, .int_none p tp⟩
  | .int p, .bl q, A, _, _, _, _, _, r1, r2, v1, v2, e, hu => by unfold peq at e; cases e; cases r1; obtain ⟨tp, rfl⟩ := v1; cases r2; cases v2; exact ⟨.int_bool p tp q, .int_bool p tp q, .int_bool p tp q⟩
  | .int p, .int q, A, _, _, _, _, _, r1, r2, v1, v2, e, hu => by unfold peq at e; cases e; cases r1; obtain ⟨tp, rfl⟩ := v1; cases r2; obtain ⟨tq, rfl⟩ := v2; exact ⟨.int_int p tp q tq, .int_int p tp q tq, .int_int p tp q tq⟩
  | .int p, .str q, A, _, _, _, _, _, r1, r2, v1, v2, e, hu => by unfold peq at e; cases e; cases r1; obtain ⟨tp, rfl⟩ := v1; cases r2; obtain ⟨tq, rfl⟩ := v2; exact ⟨.int_str p tp q tq, .int_str p tp q tq, .int_str p tp q tq⟩
  | .int p, .lst q, A, _, _, _, _, _, r1, r2, v1, v2, e, hu => by unfold peq at e; cases e; cases r1; obtain ⟨tp, rfl⟩ := v1; cases r2 with | lst hq _ => cases v2; obtain ⟨itsq, _, hlq⟩ := lst_heap I hs hq; exact ⟨.int_list p tp hlq (by have := hu; omega), .int_list p tp hlq (by have := hu; omega), .int_list p tp hlq (by have := hu; omega)⟩
  | .int p, .tup q, A, _, _, _, _, _, r1, r2, v1, v2, e, hu => by unfold peq at e; cases e; cases r1; obtain ⟨tp, rfl⟩ := v1; cases r2 with | tup hq _ => cases v2; obtain ⟨itsq, _, hlq⟩ := tup_heap I hs hq; exact ⟨.int_tuple p tp hlq (by have := hu; omega), .int_tuple p tp hlq (by have := hu; omega), .int_tuple p tp hlq (by have := hu; omega)⟩
  | .str p, .non, A, _, _, _, _, _, r1, r2, v1, v2, e, hu => by unfold peq at e; cases e; cases r1; obtain ⟨tp, rfl⟩ := v1; cases r2; cases v2; exact ⟨.str_none p tp, .str_none p tp, .str_none p tp⟩
  | .str p, .bl q, A, _, _, _, _, _, r1, r2, v1, v2, e, hu => by unfold peq at e; cases e; cases r1; obtain ⟨tp, rfl⟩ := v1; cases r2; cases v2; exact ⟨.str_bool p tp q, .str_bool p tp q, .str_bool p tp q⟩
  | .str p, .int q, A, _, _, _, _, _, r1, r2, v1, v2, e, hu => by unfold peq at e; cases e; cases r1; obtain ⟨tp, rfl⟩ := v1; cases r2; obtain ⟨tq, rfl⟩ := v2; exact ⟨.str_int p tp q tq, .str_int p tp q tq, .str_int p tp q tq⟩
  | .str p, .str q, A, _, _, _, _, _, r1, r2, v1, v2, e, hu => by unfold peq at e; cases e; cases r1; obtain ⟨tp, rfl⟩ := v1; cases r2; obtain ⟨tq, rfl⟩ := v2; exact ⟨.str_str p tp q tq, .str_str p tp q tq, .str_str p tp q tq⟩
  | .str p, .lst q, A, _, _, _, _, _, r1, r2, v1, v2, e, hu => by unfold peq at e; cases e; cases r1; obtain ⟨tp, rfl⟩ := v1; cases r2 with | lst hq _ => cases v2; obtain ⟨itsq, _, hlq⟩ := lst_heap I hs hq; exact ⟨.str_list p tp hlq (by have := hu; omega), .str_list p tp hlq (by have := hu; omega), .str_list p tp hlq (by have := hu; omega)⟩
  | .str p, .tup q, A, _, _, _, _, _, r1, r2, v1, v2, e, hu => by unfold peq at e; cases e; cases r1; obtain ⟨tp, rfl⟩ := v1; cases r2 with | tup hq _ => cases v2; obtain ⟨itsq, _, hlq⟩ := tup_heap I hs hq; exact ⟨.str_tuple p tp hlq (by have := hu; omega), .str_tuple p tp hlq (by have := hu; omega), .str_tuple p tp hlq (by have := hu; omega)⟩
  | .lst p, .non, A, _, _, _, _, _, r1, r2, v1, v2, e, hu => by unfold peq at e; cases e; cases r1 with | lst hp _ => cases v1; obtain ⟨itsp, _, hlp⟩ := lst_heap I hs hp; cases r2; cases v2; exact ⟨.list_none hlp (by have := hu; omega), .list_none hlp (by have := hu; omega), .list_none hlp (by have := hu; omega)⟩
  | .lst p, .bl q, A, _, _, _, _, _, r1, r2, v1, v2, e, hu => by unfold peq at e; cases e; cases r1 with | lst hp _ => cases v1; obtain ⟨itsp, _, hlp⟩ := lst_heap I hs hp; cases r2; cases v2; exact ⟨.list_bool q hlp (by have := hu; omega), .list_bool q hlp (by have := hu; omega), .list_bool q hlp (by have := hu; omega)⟩
  | .lst p, .int q, A, _, _, _, _, _, r1, r2, v1, v2, e, hu => by unfold peq at e; cases e; cases r1 with | lst hp _ => cases v1; obtain ⟨itsp, _, hlp⟩ := lst_heap I hs hp; cases r2; obtain ⟨tq, rfl⟩ := v2; exact ⟨.list_int q tq hlp (by have := hu; omega), .list_int q tq hlp (by have := hu; omega), .list_int q tq hlp (by have := hu; omega)⟩
  | .lst p, .str q, A, _, _, _, _, _, r1, r2, v1, v2, e, hu => by unfold peq at e; cases e; cases r1 with | lst hp _ => cases v1; obtain ⟨itsp, _, hlp⟩ := lst_heap I hs hp; cases r2; obtain ⟨tq, rfl⟩ := v2; exact ⟨.list_str q tq hlp (by have := hu; omega), .list_str q tq hlp (by have := hu; omega), .list_str q tq hlp (by have := hu; omega)⟩
  | .lst p, .tup q, A, _, _, _, _, _, r1, r2, v1, v2, e, hu => by unfold peq at e; cases e; cases r1 with | lst hp _ => cases v1; obtain ⟨itsp, _, hlp⟩ := lst_heap I hs hp; cases r2 with | tup hq _ => cases v2; obtain ⟨itsq, _, hlq⟩ := tup_heap I hs hq; exact ⟨.list_tuple hlp hlq (by have := hu; omega), .list_tuple hlp hlq (by have := hu; omega), .list_tuple hlp hlq (by have := hu; omega)⟩
  | .tup p, .non, A, _, _, _, _, _, r1, r2, v1, v2, e, hu => by unfold peq at e; cases e; cases r1 with | tup hp _ => cases v1; obtain ⟨itsp, _, hlp⟩ := tup_heap I hs hp; cases r2; cases v2; exact ⟨.tuple_none hlp (by have := hu; omega), .tuple_none hlp (by have := hu; omega), .tuple_none hlp (by have := hu; omega)⟩
  | .tup p, .bl q, A, _, _, _, _, _, r1, r2, v1, v2, e, hu => by unfold peq at e; cases e; cases r1 with | tup hp _ => cases v1; obtain ⟨itsp, _, hlp⟩ := tup_heap I hs hp; cases r2; cases v2; exact ⟨.tuple_bool q hlp (by have := hu; omega), .tuple_bool q hlp (by have := hu; omega), .tuple_bool q hlp (by have := hu; omega)⟩
  | .tup p, .int q, A, _, _, _, _, _, r1, r2, v1, v2, e, hu => by unfold peq at e; cases e; cases r1 with | tup hp _ => cases v1; obtain ⟨itsp, _, hlp⟩ := tup_heap I hs hp; cases r2; obtain ⟨tq, rfl⟩ := v2; exact ⟨.tuple_int q tq hlp (by have := hu; omega), .tuple_int q tq hlp (by have := hu; omega), .tuple_int q tq hlp (by have := hu; omega)⟩
  | .tup p, .str q, A, _, _, _, _, _, r1, r2, v1, v2, e, hu => by unfold peq at e; cases e; cases r1 with | tup hp _ => cases v1; obtain ⟨itsp, _, hlp⟩ := tup_heap I hs hp; cases r2; obtain ⟨tq, rfl⟩ := v2; exact ⟨.tuple_str q tq hlp (by have := hu; omega), .tuple_str q tq hlp (by have := hu; omega), .tuple_str q tq hlp (by have := hu; omega)⟩
  | .tup p, .lst q, A, _, _, _, _, _, r1, r2, v1, v2, e, hu => by unfold peq at e; cases e; cases r1 with | tup hp _ => cases v1; obtain ⟨itsp, _, hlp⟩ := tup_heap I hs hp; cases r2 with | lst hq _ => cases v2; obtain ⟨itsq, _, hlq⟩ := lst_heap I hs hq; exact ⟨.tuple_list hlp hlq (by have := hu; omega), .tuple_list hlp hlq (by have := hu; omega), .tuple_list hlp hlq (by have := hu; omega)⟩
  | .lst xs, .lst ys, A, _, _, _, _, b, r1, r2, v1, v2, e, hu => by
    have r1' := r1
    have r2' := r2
    cases r1 with
    | lst h1 q1 =>
      cases r2 with
      | lst h2 q2 =>
        cases v1
        cases v2
        rename_i a vs a' ws
        obtain ⟨its, w1, l1⟩ := lst_heap I hs h1
        obtain ⟨its', w2, l2⟩ := lst_heap I hs h2
        have hu' : A.units + (depths xs + 1) < cLine := by simpa only [PV.depth] using hu
        have n1 : its.toArray.size = xs.length := by rw [List.size_toArray, ← w1.length, q1.length]
        have n2 : its'.toArray.size = ys.length := by rw [List.size_toArray, ← w2.length, q2.length]
        have top : SeqAt.RcAt A s (.ref a) (.ref a') b ∧ SeqAt.RcNeAt A s (.ref a) (.ref a') (!b) := by
          have e' := e
          unfold peq at e'
          split at e'
          · rename_i hl
            obtain ⟨eb, el⟩ := peqs_ans xs ys e'
            have hsz : its.toArray.size = its'.toArray.size := by rw [n1, n2, hl]
            have eb' : b = (List.range its.toArray.size).all (ans xs ys) := by rw [eb, n1, ← hl, Nat.min_self]
            have he := peqs_ok I hs xs ys A.in1 its its' q1 q2 w1 w2 el (by show A.units + 1 + _ < _; omega)
            rw [eb']
            exact ⟨.lists l1 l2 hsz (by omega) (fun j h1 h2 => he j h1 h2), .lists l1 l2 hsz (by omega) (fun j h1 h2 => he j h1 h2)⟩
          · rename_i hl
            cases e'
            have hsz : (its.toArray.size != its'.toArray.size) = true := by rw [n1, n2]; simpa using hl
            exact ⟨.lists_lengths l1 l2 hsz (by omega), .lists_lengths l1 l2 hsz (by omega)⟩
        refine ⟨?_, top.1, top.2⟩
        by_cases ha : a = a'
        · subst ha
          rw [peq_refl I hs _ _ r1' r2' e]
          exact .same _
        · exact .of_refs ha top.1
  | .tup xs, .tup ys, A, _, _, _, _, b, r1, r2, v1, v2, e, hu => by
    have r1' := r1
    have r2' := r2
    cases r1 with
    | tup h1 q1 =>
      cases r2 with
      | tup h2 q2 =>
        cases v1
        cases v2
        rename_i a vs a' ws
        obtain ⟨its, w1, l1⟩ := tup_heap I hs h1
        obtain ⟨its', w2, l2⟩ := tup_heap I hs h2
        have hu' : A.units + (depths xs + 1) < cLine := by simpa only [PV.depth] using hu
        have n1 : its.toArray.size = xs.length := by rw [List.size_toArray, ← w1.length, q1.length]
        have n2 : its'.toArray.size = ys.length := by rw [List.size_toArray, ← w2.length, q2.length]
        have top : SeqAt.RcAt A s (.ref a) (.ref a') b ∧ SeqAt.RcNeAt A s (.ref a) (.ref a') (!b) := by
          have e' := e
          unfold peq at e'
          split at e'
          · rename_i c e1
            cases e'
            obtain ⟨eb, el⟩ := peqs_ans xs ys e1
            have eb' : (c && xs.length == ys.length) = ((List.range (min its.toArray.size its'.toArray.size)).all (ans xs ys) && its.toArray.size == its'.toArray.size) := by rw [eb, n1, n2]
            have he := peqs_ok I hs xs ys A.in1 its its' q1 q2 w1 w2 el (by show A.units + 1 + _ < _; omega)
            rw [eb']
            exact ⟨.tuples l1 l2 (by omega) (fun j h1 h2 => he j h1 h2), .tuples l1 l2 (by omega) (fun j h1 h2 => he j h1 h2)⟩
          · cases e'
        refine ⟨?_, top.1, top.2⟩
        by_cases ha : a = a'
        · subst ha
          rw [peq_refl I hs _ _ r1' r2' e]
          exact .same _
        · exact .of_refs ha top.1
  | .scr _, _, _, _, _, _, _, _, _, _, _, _, e, _ => by unfold peq at e; cases e
  | .dic _, _, _, _, _, _, _, _, _, _, _, _, e, _ => by unfold peq at e; cases e
  | .obj _, _, _, _, _, _, _, _, _, _, _, _, e, _ => by unfold peq at e; cases e
  | .wt _, _, _, _, _, _, _, _, _, _, _, _, e, _ => by unfold peq at e; cases e
  | .non, .scr _, _, _, _, _, _, _, _, _, _, _, e, _ => by unfold peq at e; cases e
  | .non, .dic _, _, _, _, _, _, _, _, _, _, _, e, _ => by unfold peq at e; cases e
  | .non, .obj _, _, _, _, _, _, _, _, _, _, _, e, _ => by unfold peq at e; cases e
  | .non, .wt _, _, _, _, _, _, _, _, _, _, _, e, _ => by unfold peq at e; cases e
  | .bl _, .scr _, _, _, _, _, _, _, _, _, _, _, e, _ => by unfold peq at e; cases e
  | .bl _, .dic _, _, _, _, _, _, _, _, _, _, _, e, _ => by unfold peq at e; cases e
  | .bl _, .obj _, _, _, _, _, _, _, _, _, _, _, e, _ => by unfold peq at e; cases e
  | .bl _, .wt _, _, _, _, _, _, _, _, _, _, _, e, _ => by unfold peq at e; cases e
  | .int _, .scr _, _, _, _, _, _, _, _, _, _, _, e, _ => by unfold peq at e; cases e
  | .int _, .dic _, _, _, _, _, _, _, _, _, _, _, e, _ => by unfold peq at e; cases e
  | .int _, .obj _, _, _, _, _, _, _, _, _, _, _, e, _ => by unfold peq at e; cases e
  | .int _, .wt _, _, _, _, _, _, _, _, _, _, _, e, _ => by unfold peq at e; cases e
  | .str _, .scr _, _, _, _, _, _, _, _, _, _, _, e, _ => by unfold peq at e; cases e
  | .str _, .dic _, _, _, _, _, _, _, _, _, _, _, e, _ => by unfold peq at e; cases e
  | .str _, .obj _, _, _, _, _, _, _, _, _, _, _, e, _ => by unfold peq at e; cases e
  | .str _, .wt _, _, _, _, _, _, _, _, _, _, _, e, _ => by unfold peq at e; cases e
  | .lst _, .scr _, _, _, _, _, _, _, _, _, _, _, e, _ => by unfold peq at e; cases e
  | .lst _, .dic _, _, _, _, _, _, _, _, _, _, _, e, _ => by unfold peq at e; cases e
  | .lst _, .obj _, _, _, _, _, _, _, _, _, _, _, e, _ => by unfold peq at e; cases e
  | .lst _, .wt _, _, _, _, _, _, _, _, _, _, _, e, _ => by unfold peq at e; cases e
  | .tup _, .scr _, _, _, _, _, _, _, _, _, _, _, e, _ => by unfold peq at e; cases e
  | .tup _, .dic _, _, _, _, _, _, _, _, _, _, _, e, _ => by unfold peq at e; cases e
  | .tup _, .obj _, _, _, _, _, _, _, _, _, _, _, e, _ => by unfold peq at e; cases e
  | .tup _, .wt _, _, _, _, _, _, _, _, _, _, _, e, _ => by unfold peq at e; cases e
theorem peqs_ok (I : Inv X pins σ H s) (hs : Sub W.fro H) : ∀ (xs ys : List PV) (A : Around) (us ws : List Value) {vs vs' : List V}, Reps X.K W xs vs → Reps X.K W ys vs' → Vals vs us → Vals vs' ws →
    (∀ (j : Nat) (x y : PV), xs[j]? = some x → ys[j]? = some y → peq x y = some (ans xs ys j)) → A.units + depths xs < cLine → ∀ (j : Nat) (h1 : j < us.toArray.size) (h2 : j < ws.toArray.size), SeqAt.EqAt A s us.toArray[j] ws.toArray[j] (ans xs ys j)
  | [], _, _, _, _, _, _, r1, _, w1, _, _, _, j, h1, _ => by cases r1; cases w1; exact absurd h1 (Nat.not_lt_zero _)
  | _ :: _, [], _, _, _, _, _, _, r2, _, w2, _, _, j, _, h2 => by cases r2; cases w2; exact absurd h2 (Nat.not_lt_zero _)
  | x :: xs, y :: ys, A, us, ws, _, _, r1, r2, w1, w2, el, hu, j, h1, h2 => by
    cases r1 with
    | cons a1 t1 =>
      cases r2 with
      | cons a2 t2 =>
        cases w1 with
        | cons b1 u1 =>
          cases w2 with
          | cons b2 u2 =>
            have hu' : A.units + max x.depth (depths xs) < cLine := by simpa only [depths] using hu
            cases j with
            | zero => exact (peq_ok I hs x y A a1 a2 b1 b2 (el 0 x y rfl rfl) (by omega)).eq
            | succ j => exact peqs_ok I hs xs ys A _ _ t1 t2 u1 u2 (fun k u v q1 q2 => el (k + 1) u v q1 q2) (by omega) j (by simpa using h1) (by simpa using h2)
end

/-! ### == and != -/
def top (s : S) (x : PV) : PV :=
  match lsOf s x with
  | some xs => .lst xs
  | none => x
def oEqB (x y : PV) (s : S) : Option Bool :=
  match top s x, top s y with
  | .tup xs, .tup [] => some xs.isEmpty
  | .lst xs, .lst [] => some xs.isEmpty
  | x, y => if x.depth ≤ 60 then peq x y else none
def oEq : O2 := fun x y s =>
  match oEqB x y s with
  | some b => some (.bl b, s)
  | none => none
def oNe : O2 := fun x y s =>
  match oEqB x y s with
  | some b => some (.bl (!b), s)
  | none => none
/-- the store's list, as if it stood for ever -/
theorem top_rep (hs : StR (gx X) W H st) {x : PV} {v : V} (r : Rep X.K W x v) : Rep X.K ⟨H, W.ob, W.hid, W.lk⟩ (top st x) v := by
  have l : W.Le ⟨H, W.ob, W.hid, W.lk⟩ := ⟨hs.fro, rfl, rfl, [], by simp⟩
  unfold top
  cases e : lsOf st x with
  | none => exact r.mono l
  | some xs =>
    obtain ⟨a, vs, rfl, h1, h2⟩ := lsOf_ok hs r e
    exact .lst h1 (h2.mono l)
theorem oEqB_ok (I : Inv X pins σ H s) (hu : X.A.units + 64 < cLine) (hs : StR (gx X) W H st) {x y : PV} {v u : V} {vv uu : Value} {b : Bool} (r1 : Rep X.K W x v) (r2 : Rep X.K W y u) (v1 : RelV v vv) (v2 : RelV u uu) (e : oEqB x y st = some b) :
    SeqAt.RcAt X.A s vv uu b ∧ SeqAt.RcNeAt X.A s vv uu (!b) := by
  have q1 := top_rep hs r1
  have q2 := top_rep hs r2
  have hf : Sub (⟨H, W.ob, W.hid, W.lk⟩ : Wd).fro H := Sub.refl H
  unfold oEqB at e
  generalize top st x = x' at q1 e
  generalize top st y = y' at q2 e
  split at e
  · rename_i xs
    cases e
    cases q1 with
    | tup h1 p1 =>
      cases q2 with
      | tup h2 p2 =>
        cases v1; cases v2
        obtain ⟨its, w1, l1⟩ := tup_heap I hf h1
        obtain ⟨its', w2, l2⟩ := tup_heap I hf h2
        cases p2; cases w2
        have n1 : its.length = xs.length := by rw [← w1.length, p1.length]
        have z : xs.isEmpty = ((List.range (min its.toArray.size ([] : List Value).toArray.size)).all (fun _ => true) && its.toArray.size == ([] : List Value).toArray.size) := by
          cases xs with
          | nil => cases its with | nil => rfl | cons _ _ => simp at n1
          | cons _ _ => cases its with | nil => simp at n1 | cons _ _ => simp
        rw [z]
        exact ⟨.tuples l1 l2 (by omega) (fun j _ h => absurd h (Nat.not_lt_zero _)), .tuples l1 l2 (by omega) (fun j _ h => absurd h (Nat.not_lt_zero _))⟩
  · rename_i xs
    cases e
    cases q1 with
    | lst h1 p1 =>
      cases q2 with
      | lst h2 p2 =>
        cases v1; cases v2
        obtain ⟨its, w1, l1⟩ := lst_heap I hf h1
        obtain ⟨its', w2, l2⟩ := lst_heap I hf h2
        cases p2; cases w2
        have n1 : its.length = xs.length := by rw [← w1.length, p1.length]
        cases xs with
        | nil =>
          cases its with
          | nil => exact ⟨.lists l1 l2 (e := fun _ => true) rfl (by omega) (fun j _ h => absurd h (Nat.not_lt_zero _)), .lists l1 l2 (e := fun _ => true) rfl (by omega) (fun j _ h => absurd h (Nat.not_lt_zero _))⟩
          | cons _ _ => simp at n1
        | cons _ _ =>
          cases its with
          | nil => simp at n1
          | cons _ _ => exact ⟨.lists_lengths l1 l2 (by simp) (by omega), .lists_lengths l1 l2 (by simp) (by omega)⟩
  · split at e
    · have := peq_ok I hf x' y' X.A q1 q2 v1 v2 e (by omega)
      exact ⟨this.rc, this.ne⟩
    · cases e
theorem r_eq (hu : X.A.units + 64 < cLine) : OpR X (compareOp .Eq) (rM (gx X) oEq) := by
  intro pins s σ H x y v u Q I rx ry ⟨W, st, px, py, r, s', r1, r2, hs, e, hc⟩
  unfold oEq at e
  split at e <;> try (cases e; done)
  rename_i b eb
  cases e
  exact (oEqB_ok I hu hs r1 r2 rx ry eb).1 _ _ _ _ ⟨.bl b, H, I, rfl, hc.here hs (.bl b)⟩
theorem r_ne (hu : X.A.units + 64 < cLine) : OpR X (compareOp .NotEq) (rM (gx X) oNe) := by
  intro pins s σ H x y v u Q I rx ry ⟨W, st, px, py, r, s', r1, r2, hs, e, hc⟩
  unfold oNe at e
  split at e <;> try (cases e; done)
  rename_i b eb
  cases e
  exact (oEqB_ok I hu hs r1 r2 rx ry eb).2 _ _ _ _ ⟨.bl (!b), H, I, rfl, hc.here hs (.bl (!b))⟩
end
end Z

set_option Elab.async false
set_option linter.all false
set_option maxRecDepth 100000
set_option maxHeartbeats 4000000
/-! Z5: in, len, isinstance, conversions, subscripts, slices, methods of built-ins. -/
namespace Z
open PySem PySem.Spec L2
variable [LamT]
section
variable {X : Cx} {Ex : XK} {pos : Pos}

/-! ### in -/
def pflat : PV → Bool
  | .non => true
  | .bl _ => true
  | .int _ => true
  | .str _ => true
  | _ => false
def feq (y x : PV) : Bool := (peq y x).getD false
theorem flat_of {K : PySem.W.Frag} {W : Wd} {x : PV} {v : V} (r : Rep K W x v) (h : pflat x = true) : flatV v = true := by
  cases r <;> first | rfl | cases h
theorem feq_of {K : PySem.W.Frag} {W : Wd} {x y : PV} {v u : V} (r1 : Rep K W y u) (r2 : Rep K W x v) (h1 : pflat y = true) (h2 : pflat x = true) : eqV u v = feq y x := by
  cases r1 <;> cases r2 <;> first | cases h1; done | cases h2; done | (unfold feq peq; rfl)
theorem any_feq {K : PySem.W.Frag} {W : Wd} {x : PV} {v : V} (r2 : Rep K W x v) (h2 : pflat x = true) : ∀ {ys : List PV} {us : List V}, Reps K W ys us → ys.all pflat = true → inV v us = ys.any fun y => feq y x
  | _, _, .nil, _ => rfl
  | y :: ys, u :: us, .cons r t, h => by
    rw [List.all_cons, Bool.and_eq_true] at h
    show (eqV u v || inV v us) = _
    rw [feq_of r r2 h.1 h2, any_feq r2 h2 t h.2, List.any_cons]
theorem all_flat {K : PySem.W.Frag} {W : Wd} : ∀ {ys : List PV} {us : List V}, Reps K W ys us → ys.all pflat = true → us.all flatV = true
  | _, _, .nil, _ => rfl
  | y :: ys, u :: us, .cons r t, h => by
    rw [List.all_cons, Bool.and_eq_true] at h
    rw [List.all_cons, flat_of r h.1, all_flat t h.2]; rfl
def inB (x y : PV) (s : S) : Option Bool :=
  match x, y with
  | .str a, .str z => if a.cps.size = 1 then some (decide (a.cps.getD 0 0 ∈ z.cps.toList)) else some (!(Builtin.Str.occurrences z a 0 z.length 1).isEmpty)
  | x, y =>
    match sqOf s y with
    | some ys => if pflat x && ys.all pflat then some (ys.any fun y => feq y x) else none
    | none => none
def oIn : O2 := fun x y s =>
  match inB x y s with
  | some b => some (.bl b, s)
  | none => none
def oNotIn : O2 := fun x y s =>
  match inB x y s with
  | some b => some (.bl (!b), s)
  | none => none
theorem one_sign {a : Str} (h : a.cps.size = 1) : a = ⟨#[a.cps.getD 0 0]⟩ := by
  obtain ⟨⟨l⟩⟩ := a
  cases l with
  | nil => simp at h
  | cons c r => cases r with | nil => rfl | cons _ _ => simp at h
theorem r_in : OpR X (compareOp .In) (rM (gx X) oIn) := by
  intro pins s σ H x y v u Q I rx ry ⟨W, st, px, py, r, s', r1, r2, hs, e, hc⟩
  unfold oIn at e
  split at e <;> try (cases e; done)
  rename_i b eb
  cases e
  unfold inB at eb
  split at eb
  · cases r1; cases r2
    rename_i a z
    split at eb
    · rename_i h
      cases eb
      exact op_in_sign pins s σ H _ _ v u Q I rx ry ⟨_, _, congrArg V.str (one_sign h), rfl, hc.here hs (.bl _)⟩
    · cases eb
      exact op_in_str pins s σ H _ _ v u Q I rx ry ⟨_, _, rfl, rfl, hc.here hs (.bl _)⟩
  · split at eb <;> try (cases eb; done)
    rename_i ys e1
    split at eb <;> try (cases eb; done)
    rename_i h
    cases eb
    rw [Bool.and_eq_true] at h
    obtain ⟨a, us, rfl, h1, h2⟩ := sqOf_ok hs r2 e1
    refine op_in_seq pins s σ H _ _ v u Q I rx ry ⟨a, us, rfl, h1, flat_of r1 h.1, all_flat h2 h.2, ?_⟩
    rw [if_neg Bool.false_ne_true, any_feq r1 h.1 h2 h.2]
    exact hc.here hs (.bl _)
theorem r_notin : OpR X (compareOp .NotIn) (rM (gx X) oNotIn) := by
  intro pins s σ H x y v u Q I rx ry ⟨W, st, px, py, r, s', r1, r2, hs, e, hc⟩
  unfold oNotIn at e
  split at e <;> try (cases e; done)
  rename_i b eb
  cases e
  unfold inB at eb
  split at eb
  · cases r1; cases r2
    rename_i a z
    split at eb
    · rename_i h
      cases eb
      exact op_notIn_sign pins s σ H _ _ v u Q I rx ry ⟨_, _, congrArg V.str (one_sign h), rfl, hc.here hs (.bl _)⟩
    · cases eb
      exact op_notIn_str pins s σ H _ _ v u Q I rx ry ⟨_, _, rfl, rfl, hc.here hs (.bl _)⟩
  · split at eb <;> try (cases eb; done)
    rename_i ys e1
    split at eb <;> try (cases eb; done)
    rename_i h
    cases eb
    rw [Bool.and_eq_true] at h
    obtain ⟨a, us, rfl, h1, h2⟩ := sqOf_ok hs r2 e1
    refine op_notIn_seq pins s σ H _ _ v u Q I rx ry ⟨a, us, rfl, h1, flat_of r1 h.1, all_flat h2 h.2, ?_⟩
    rw [if_pos rfl, any_feq r1 h.1 h2 h.2]
    exact hc.here hs (.bl _)

/-! ### len, conversions, max, min, all, any, sum -/
def bLen : OL := fun xs s =>
  match xs with
  | [.str a] => if a.length ≤ 16000000 then some (.int a.length, s) else none
  | [x] => match sqOf s x with
    | some ys => some (.int ys.length, s)
    | none => none
  | _ => none
theorem Reps.one {K : PySem.W.Frag} {W : Wd} {x : PV} {vs : List V} (r : Reps K W [x] vs) : ∃ v, vs = [v] ∧ Rep K W x v := by
  cases r with | cons h t => cases t; exact ⟨_, rfl, h⟩
theorem Reps.two {K : PySem.W.Frag} {W : Wd} {x y : PV} {vs : List V} (r : Reps K W [x, y] vs) : ∃ v u, vs = [v, u] ∧ Rep K W x v ∧ Rep K W y u := by
  cases r with | cons h t => obtain ⟨u, rfl, q⟩ := t.one; exact ⟨_, _, rfl, h, q⟩
theorem c_len : CallR X (.builtin "len") (rL (gx X) bLen) := by
  intro pins s σ H xs us Q I rs ⟨W, st, pxs, r, s', r1, hs, e, hc⟩
  unfold bLen at e
  split at e
  · split at e <;> cases e
    rename_i h
    obtain ⟨v, rfl, q⟩ := r1.one
    cases q
    exact call_len pins s σ H _ us Q I rs ⟨_, _, rfl, ⟨big_line h, rfl⟩, hc.here hs (.int _)⟩
  · split at e <;> try (cases e; done)
    rename_i ys e1
    cases e
    obtain ⟨v, rfl, q⟩ := r1.one
    obtain ⟨a, vs, rfl, h1, h2⟩ := sqOf_ok hs q e1
    refine call_len pins s σ H _ us Q I rs ⟨_, vs.length, rfl, ?_, by rw [← h2.length]; exact hc.here hs (.int _)⟩
    rcases h1 with h1 | h1
    · exact .inl ⟨vs, h1, rfl⟩
    · exact .inr ⟨vs, h1, rfl⟩
  · cases e
def bInt : OL := fun xs s =>
  match xs with
  | [.int i] => some (.int i, s)
  | [.bl k] => some (.int (b2 k), s)
  | _ => none
theorem c_int : CallR X (.type "int") (rL (gx X) bInt) := by
  intro pins s σ H xs us Q I rs ⟨W, st, pxs, r, s', r1, hs, e, hc⟩
  unfold bInt at e
  split at e <;> try (cases e; done)
  · cases e
    obtain ⟨v, rfl, q⟩ := r1.one
    cases q
    exact call_int1 pins s σ H _ us Q I rs (.inl ⟨_, rfl, hc.here hs (.int _)⟩)
  · cases e
    obtain ⟨v, rfl, q⟩ := r1.one
    cases q
    exact call_int1 pins s σ H _ us Q I rs (.inr ⟨_, rfl, hc.here hs (.int _)⟩)
def bBool : OL := fun xs s =>
  match xs with
  | [.int i] => some (.bl (i != 0), s)
  | [.bl k] => some (.bl k, s)
  | _ => none
theorem c_bool : CallR X (.type "bool") (rL (gx X) bBool) := by
  intro pins s σ H xs us Q I rs ⟨W, st, pxs, r, s', r1, hs, e, hc⟩
  unfold bBool at e
  split at e <;> try (cases e; done)
  · cases e
    obtain ⟨v, rfl, q⟩ := r1.one
    cases q
    exact call_bool1 pins s σ H _ us Q I rs (.inl ⟨_, rfl, hc.here hs (.bl _)⟩)
  · cases e
    obtain ⟨v, rfl, q⟩ := r1.one
    cases q
    exact call_bool1 pins s σ H _ us Q I rs (.inr ⟨_, rfl, hc.here hs (.bl _)⟩)
/-- str of an int -/
def bStr : OL := fun xs s =>
  match xs with
  | [.int i] => if i.natAbs.log2 < 1920 then some (.str (toString i), s) else none
  | _ => none
theorem c_str : CallR X (.type "str") (rL (gx X) bStr) := by
  intro pins s σ H xs us Q I rs ⟨W, st, pxs, r, s', r1, hs, e, hc⟩
  unfold bStr at e
  split at e <;> try (cases e; done)
  split at e <;> try (cases e; done)
  rename_i h
  cases e
  obtain ⟨v, rfl, q⟩ := r1.one
  cases q
  exact call_str_int pins s σ H _ us Q I rs ⟨_, rfl, h, hc.here hs (.str _)⟩
def bList (mu : Bool) : OL := fun xs s =>
  match xs with
  | [x] => match sqOf s x with
    | some ys => newL mu ys s
    | none => none
  | _ => none
theorem c_list (mu : Bool) : CallR X (.type "list") (rL (gx X) (bList mu)) := by
  intro pins s σ H xs us Q I rs ⟨W, st, pxs, r, s', r1, hs, e, hc⟩
  unfold bList at e
  split at e <;> try (cases e; done)
  split at e <;> try (cases e; done)
  rename_i ys e1
  obtain ⟨v, rfl, q⟩ := r1.one
  obtain ⟨a, vs, rfl, h1, h2⟩ := sqOf_ok hs q e1
  exact call_list_of pins s σ H _ us Q I rs ⟨a, vs, rfl, h1, (newL_ok hs h2 e hc).2⟩
def bTuple : OL := fun xs s =>
  match xs with
  | [.tup ys] => some (.tup ys, s)
  | [x] => match rdOf s x with
    | some ys => newT ys s
    | none => none
  | _ => none
theorem c_tuple : CallR X (.type "tuple") (rL (gx X) bTuple) := by
  intro pins s σ H xs us Q I rs ⟨W, st, pxs, r, s', r1, hs, e, hc⟩
  unfold bTuple at e
  split at e
  · cases e
    obtain ⟨v, rfl, q⟩ := r1.one
    have q' := q
    cases q with
    | tup h1 h2 => exact call_tuple_of pins s σ H _ us Q I rs ⟨_, _, rfl, .inr ⟨tup_sq hs h1, hc.here hs q'⟩⟩
  · split at e <;> try (cases e; done)
    rename_i ys e1
    obtain ⟨v, rfl, q⟩ := r1.one
    obtain ⟨a, vs, rfl, h1, h2⟩ := rdOf_ok hs q e1
    exact call_tupleN pins s σ H _ us Q I rs ⟨a, vs, rfl, h1, (newT_ok hs h2 e hc).2⟩
  · cases e
def bMax2 : OL := fun xs s =>
  match xs with
  | [.int i, .int j] => some (.int (if j > i then j else i), s)
  | _ => none
theorem c_max2 (hcm : X.calm = true) : CallR X (.builtin "max") (rL (gx X) bMax2) := by
  intro pins s σ H xs us Q I rs ⟨W, st, pxs, r, s', r1, hs, e, hc⟩
  unfold bMax2 at e
  split at e <;> try (cases e; done)
  cases e
  obtain ⟨v, u, rfl, q1, q2⟩ := r1.two
  cases q1; cases q2
  exact call_max2 hcm pins s σ H _ us Q I rs ⟨_, _, rfl, hc.here hs (.int _)⟩
def bMin2 : OL := fun xs s =>
  match xs with
  | [.int i, .int j] => some (.int (if j < i then j else i), s)
  | _ => none
theorem c_min2 (hcm : X.calm = true) : CallR X (.builtin "min") (rL (gx X) bMin2) := by
  intro pins s σ H xs us Q I rs ⟨W, st, pxs, r, s', r1, hs, e, hc⟩
  unfold bMin2 at e
  split at e <;> try (cases e; done)
  cases e
  obtain ⟨v, u, rfl, q1, q2⟩ := r1.two
  cases q1; cases q2
  exact call_min2 hcm pins s σ H _ us Q I rs ⟨_, _, rfl, hc.here hs (.int _)⟩
/-- all items are truths -/
def bls : List PV → Option (List Bool)
  | [] => some []
  | .bl b :: r => match bls r with
    | some bs => some (b :: bs)
    | none => none
  | _ => none
theorem bls_ok {K : PySem.W.Frag} {W : Wd} : ∀ {xs : List PV} {vs : List V} {bs : List Bool}, Reps K W xs vs → bls xs = some bs → vs = bs.map V.bl
  | _, _, _, .nil, e => by cases e; rfl
  | x :: xs, _, bs, .cons h t, e => by
    cases x with
    | bl b =>
      cases h
      unfold bls at e
      split at e <;> cases e
      rename_i bs' e'
      rw [bls_ok t e']; rfl
    | _ => cases e
theorem bls_map (bs : List Bool) : bls (bs.map PV.bl) = some bs := by
  induction bs with
  | nil => rfl
  | cons b r ih => simp only [List.map_cons, bls, ih]
def bAll : OL := fun xs s =>
  match xs with
  | [x] => match rdOf s x with
    | some ys => match bls ys with
      | some bs => some (.bl (bs.all id), s)
      | none => none
    | none => none
  | _ => none
def bAny : OL := fun xs s =>
  match xs with
  | [x] => match rdOf s x with
    | some ys => match bls ys with
      | some bs => some (.bl (bs.any id), s)
      | none => none
    | none => none
  | _ => none
theorem c_all (hcm : X.calm = true) : CallR X (.builtin "all") (rL (gx X) bAll) := by
  intro pins s σ H xs us Q I rs ⟨W, st, pxs, r, s', r1, hs, e, hc⟩
  unfold bAll at e
  split at e <;> try (cases e; done)
  split at e <;> try (cases e; done)
  rename_i ys e1
  split at e <;> try (cases e; done)
  rename_i bs e2
  cases e
  obtain ⟨v, rfl, q⟩ := r1.one
  obtain ⟨a, vs, rfl, h1, h2⟩ := rdOf_ok hs q e1
  rw [bls_ok h2 e2] at h1
  exact cr_all hcm pins s σ H _ us Q I rs ⟨a, bs, rfl, h1, hc.here hs (.bl _)⟩
theorem c_any (hcm : X.calm = true) : CallR X (.builtin "any") (rL (gx X) bAny) := by
  intro pins s σ H xs us Q I rs ⟨W, st, pxs, r, s', r1, hs, e, hc⟩
  unfold bAny at e
  split at e <;> try (cases e; done)
  split at e <;> try (cases e; done)
  rename_i ys e1
  split at e <;> try (cases e; done)
  rename_i bs e2
  cases e
  obtain ⟨v, rfl, q⟩ := r1.one
  obtain ⟨a, vs, rfl, h1, h2⟩ := rdOf_ok hs q e1
  rw [bls_ok h2 e2] at h1
  exact cr_any hcm pins s σ H _ us Q I rs ⟨a, bs, rfl, h1, hc.here hs (.bl _)⟩
def intsOf : List PV → Option (List Int)
  | [] => some []
  | .int b :: r => match intsOf r with
    | some bs => some (b :: bs)
    | none => none
  | _ => none
theorem intsOf_ok {K : PySem.W.Frag} {W : Wd} : ∀ {xs : List PV} {vs : List V} {bs : List Int}, Reps K W xs vs → intsOf xs = some bs → vs = bs.map V.int
  | _, _, _, .nil, e => by cases e; rfl
  | x :: xs, _, bs, .cons h t, e => by
    cases x with
    | int b =>
      cases h
      unfold intsOf at e
      split at e <;> cases e
      rename_i bs' e'
      rw [intsOf_ok t e']; rfl
    | _ => cases e
theorem intsOf_map (bs : List Int) : intsOf (bs.map PV.int) = some bs := by
  induction bs with
  | nil => rfl
  | cons b r ih => simp only [List.map_cons, intsOf, ih]
def strsOf : List PV → Option (List Str)
  | [] => some []
  | .str b :: r => match strsOf r with
    | some bs => some (b :: bs)
    | none => none
  | _ => none
theorem strsOf_ok {K : PySem.W.Frag} {W : Wd} : ∀ {xs : List PV} {vs : List V} {bs : List Str}, Reps K W xs vs → strsOf xs = some bs → vs = bs.map V.str
  | _, _, _, .nil, e => by cases e; rfl
  | x :: xs, _, bs, .cons h t, e => by
    cases x with
    | str b =>
      cases h
      unfold strsOf at e
      split at e <;> cases e
      rename_i bs' e'
      rw [strsOf_ok t e']; rfl
    | _ => cases e
theorem strsOf_map (bs : List Str) : strsOf (bs.map PV.str) = some bs := by
  induction bs with
  | nil => rfl
  | cons b r ih => simp only [List.map_cons, strsOf, ih]
def bSum : OL := fun xs s =>
  match xs with
  | [x] => match rdOf s x with
    | some ys => match intsOf ys with
      | some ns => some (.int ns.sum, s)
      | none => none
    | none => none
  | _ => none
theorem c_sum (hcm : X.calm = true) : CallR X (.builtin "sum") (rL (gx X) bSum) := by
  intro pins s σ H xs us Q I rs ⟨W, st, pxs, r, s', r1, hs, e, hc⟩
  unfold bSum at e
  split at e <;> try (cases e; done)
  split at e <;> try (cases e; done)
  rename_i ys e1
  split at e <;> try (cases e; done)
  rename_i bs e2
  cases e
  obtain ⟨v, rfl, q⟩ := r1.one
  obtain ⟨a, vs, rfl, h1, h2⟩ := rdOf_ok hs q e1
  rw [intsOf_ok h2 e2] at h1
  exact cr_sum hcm pins s σ H _ us Q I rs ⟨a, bs, rfl, h1, hc.here hs (.int _)⟩
/-- the greatest, the least of a list that is not empty -/
def top1 : List Int → Option Int
  | [] => none
  | x :: xs => some (xs.foldl max x)
def bot1 : List Int → Option Int
  | [] => none
  | x :: xs => some (xs.foldl min x)
theorem foldl_max_mem : ∀ (xs : List Int) (x : Int), xs.foldl max x ∈ x :: xs
  | [], x => by simp
  | y :: ys, x => by
    rw [List.foldl_cons]
    rcases List.mem_cons.mp (foldl_max_mem ys (max x y)) with h | h
    · rcases Int.le_total x y with q | q
      · rw [Int.max_eq_right q] at h ⊢; rw [h]; simp
      · rw [Int.max_eq_left q] at h ⊢; rw [h]; simp
    · exact List.mem_cons_of_mem _ (List.mem_cons_of_mem _ h)
theorem foldl_max_ge : ∀ (xs : List Int) (x y : Int), y ∈ x :: xs → y ≤ xs.foldl max x
  | [], x, y, h => by simp at h; subst h; exact Int.le_refl _
  | z :: zs, x, y, h => by
    rw [List.foldl_cons]
    rcases List.mem_cons.mp h with h | h
    · subst h
      exact Int.le_trans (Int.le_max_left _ _) (foldl_max_ge zs _ _ (List.mem_cons_self ..))
    · rcases List.mem_cons.mp h with h | h
      · subst h
        exact Int.le_trans (Int.le_max_right _ _) (foldl_max_ge zs _ _ (List.mem_cons_self ..))
      · exact foldl_max_ge zs _ y (List.mem_cons_of_mem _ h)
theorem foldl_min_mem : ∀ (xs : List Int) (x : Int), xs.foldl min x ∈ x :: xs
  | [], x => by simp
  | y :: ys, x => by
    rw [List.foldl_cons]
    rcases List.mem_cons.mp (foldl_min_mem ys (min x y)) with h | h
    · rcases Int.le_total x y with q | q
      · rw [Int.min_eq_left q] at h ⊢; rw [h]; simp
      · rw [Int.min_eq_right q] at h ⊢; rw [h]; simp
    · exact List.mem_cons_of_mem _ (List.mem_cons_of_mem _ h)
theorem foldl_min_le : ∀ (xs : List Int) (x y : Int), y ∈ x :: xs → xs.foldl min x ≤ y
  | [], x, y, h => by simp at h; subst h; exact Int.le_refl _
  | z :: zs, x, y, h => by
    rw [List.foldl_cons]
    rcases List.mem_cons.mp h with h | h
    · subst h
      exact Int.le_trans (foldl_min_le zs _ _ (List.mem_cons_self ..)) (Int.min_le_left _ _)
    · rcases List.mem_cons.mp h with h | h
      · subst h
        exact Int.le_trans (foldl_min_le zs _ _ (List.mem_cons_self ..)) (Int.min_le_right _ _)
      · exact foldl_min_le zs _ y (List.mem_cons_of_mem _ h)
def bMaxL : OL := fun xs s =>
  match xs with
  | [x] => match rdOf s x with
    | some ys => match intsOf ys with
      | some ns => match top1 ns with
        | some m => some (.int m, s)
        | none => none
      | none => none
    | none => none
  | _ => none
def bMinL : OL := fun xs s =>
  match xs with
  | [x] => match rdOf s x with
    | some ys => match intsOf ys with
      | some ns => match bot1 ns with
        | some m => some (.int m, s)
        | none => none
      | none => none
    | none => none
  | _ => none
theorem c_maxL (hcm : X.calm = true) : CallR X (.builtin "max") (rL (gx X) bMaxL) := by
  intro pins s σ H xs us Q I rs ⟨W, st, pxs, r, s', r1, hs, e, hc⟩
  unfold bMaxL at e
  split at e <;> try (cases e; done)
  split at e <;> try (cases e; done)
  rename_i ys e1
  split at e <;> try (cases e; done)
  rename_i ns e2
  split at e <;> try (cases e; done)
  rename_i m e3
  cases e
  obtain ⟨v, rfl, q⟩ := r1.one
  obtain ⟨a, vs, rfl, h1, h2⟩ := rdOf_ok hs q e1
  rw [intsOf_ok h2 e2] at h1
  cases ns with
  | nil => cases e3
  | cons n ns =>
    cases e3
    refine cr_max hcm pins s σ H _ us Q I rs ⟨a, n :: ns, rfl, h1, by simp, fun m' hm hl => ?_⟩
    have z : m' = ns.foldl max n := Int.le_antisymm (foldl_max_ge ns n m' hm) (hl _ (foldl_max_mem ns n))
    rw [z]
    exact hc.here hs (.int _)
theorem c_minL (hcm : X.calm = true) : CallR X (.builtin "min") (rL (gx X) bMinL) := by
  intro pins s σ H xs us Q I rs ⟨W, st, pxs, r, s', r1, hs, e, hc⟩
  unfold bMinL at e
  split at e <;> try (cases e; done)
  split at e <;> try (cases e; done)
  rename_i ys e1
  split at e <;> try (cases e; done)
  rename_i ns e2
  split at e <;> try (cases e; done)
  rename_i m e3
  cases e
  obtain ⟨v, rfl, q⟩ := r1.one
  obtain ⟨a, vs, rfl, h1, h2⟩ := rdOf_ok hs q e1
  rw [intsOf_ok h2 e2] at h1
  cases ns with
  | nil => cases e3
  | cons n ns =>
    cases e3
    refine cr_min hcm pins s σ H _ us Q I rs ⟨a, n :: ns, rfl, h1, by simp, fun m' hm hl => ?_⟩
    have z : m' = ns.foldl min n := Int.le_antisymm (hl _ (foldl_min_mem ns n)) (foldl_min_le ns n m' hm)
    rw [z]
    exact hc.here hs (.int _)

/-! ### isinstance with one built-in type -/
inductive Tn where
  | int | bool | str | tuple | list | dict
  deriving DecidableEq
def Tn.nm : Tn → String
  | .int => "int"
  | .bool => "bool"
  | .str => "str"
  | .tuple => "tuple"
  | .list => "list"
  | .dict => "dict"
inductive Kn where
  | non | bool | int | str | tuple | list | dict
  deriving DecidableEq
def Kn.nm : Kn → String
  | .non => "NoneType"
  | .bool => "bool"
  | .int => "int"
  | .str => "str"
  | .tuple => "tuple"
  | .list => "list"
  | .dict => "dict"
def kn (s : S) : PV → Option Kn
  | .non => some .non
  | .bl _ => some .bool
  | .int _ => some .int
  | .str _ => some .str
  | .tup _ => some .tuple
  | .lst _ => some .list
  | .scr _ => some .list
  | .dic _ => some .dict
  | .obj n => match s[n]? with
    | some (.lst _) => some .list
    | some (.dic _) => some .dict
    | _ => none
  | .wt _ => none
def isi : Kn → Tn → Bool
  | .bool, .bool => true
  | .bool, .int => true
  | .int, .int => true
  | .str, .str => true
  | .tuple, .tuple => true
  | .list, .list => true
  | .dict, .dict => true
  | _, _ => false
theorem isi_ok (k : Kn) (t : Tn) : kitB k.nm t.nm = some (isi k t) := by
  cases k <;> cases t <;> decide +kernel
theorem kn_ok {W : Wd} {H : Hp} {s : S} {x : PV} {v : V} {k : Kn} (hs : StR (gx X) W H s) (r : Rep X.K W x v) (e : kn s x = some k) : TyX X.K H v (.type k.nm) := by
  have lq : ∀ {a vs}, SqL X.K H a vs → TyX X.K H (.ref a) (.type "list") := fun {a vs} h => by
    rcases h with (h | ⟨o, h⟩) | ⟨o, its, n, h, c, _⟩
    · exact .base (.lst h)
    · exact .base (.frz h)
    · exact .kList h c
  cases r with
  | non => cases e; exact .base .non
  | bl b => cases e; exact .base (.bl b)
  | int i => cases e; exact .base (.int i)
  | str z => cases e; exact .base (.str z)
  | tup h q =>
    cases e
    rcases tup_sq hs h with (h | ⟨o, h⟩) | ⟨o, its, n, h, c, _⟩
    · exact .base (.tup h)
    · exact .fTuple h
    · exact .kTuple h c
  | lst h q => cases e; exact lq (.inl (.inl (hs.fro _ _ h)))
  | scr h q => cases e; exact lq (hs.fro.sqL h)
  | dic h q => cases e; exact .base (.dK (hs.fro _ _ h))
  | wt h q => cases e
  | obj h =>
    rename_i a n
    have e' : (match s[n]? with | some (.lst _) => some Kn.list | some (.dic _) => some Kn.dict | _ => none) = some k := e
    cases hn : s[n]? with
    | none => rw [hn] at e'; cases e'
    | some o =>
      rw [hn] at e'
      have q := hs.obj h hn
      cases o with
      | lst ys => cases e'; cases q with | lst h1 _ => exact lq (.inl (.inl h1))
      | dic ys => cases e'; cases q with | dic h1 _ => exact .base (.dK h1)
      | _ => cases e'
def uIsi (t : Tn) : O1 := fun x s =>
  match kn s x with
  | some k => some (.bl (isi k t), s)
  | none => none
theorem boot_isi : bootBuiltins "isinstance" = some (.builtin "isinstance") := by decide +kernel
theorem se_isi {e : Expr} {m : EM} {x : Str} {p q : Pos} (t : Tn) (hg : Gl X "isinstance") (hm : X.mg "isinstance" = none) (hg2 : Gl X x) (hm2 : X.mg x = none) (hv : bootBuiltins x = some (.type t.nm)) (he : PE X e (tE (gx X) Ex m))
    (hn : x ≠ "__name__" := by decide) (hd : (x == ("__debug__" : Str)) = false := by decide)
    (h1 : starEach (e :: [.Name x q]) X.env = (false, eval e X.env) :: starEach [.Name x q] X.env := by rfl) (h2 : starEach (.Name x q :: []) X.env = (false, eval (.Name x q) X.env) :: starEach [] X.env := by rfl)
    (hpl : (backTo pos (starEach [.Name x q] X.env)).any (·.1) = false := by rfl) : PE X (.Call (.Name "isinstance" p) [e, .Name x q] [] pos) (tE (gx X) Ex (eUn (uIsi t) m)) := by
  refine pe_weak (pe_callB call_isi hg hm boot_isi (pa_cons he (pa_cons (pe_bltn (v := .ty t.nm) hg2 hm2 hv rfl hn hd) pa_nil h2) h1) (by decide) (by decide) h1 hpl) fun σ H Q ⟨W, s, env, he, hs, h⟩ => ?_
  refine tE_bind he hs h fun x s1 W1 H1 u l1 he1 hs1 r1 h1 => ?_
  obtain ⟨v, s', e, hc⟩ := h1.lift
  unfold uIsi at e
  split at e <;> try (cases e; done)
  rename_i k ek
  cases e
  exact ⟨u, _, _, _, _, rfl, .ty _, kn_ok hs1 r1 ek, kit_ty (isi_ok k t), (hc.mono l1).here hs1 (.bl _)⟩
end
end Z

set_option Elab.async false
set_option linter.all false
set_option maxRecDepth 100000
set_option maxHeartbeats 4000000
/-! Z6: subscripts, slices, methods of lists and texts, dicts. -/
namespace Z
open PySem PySem.Spec L2
variable [LamT]
section
variable {X : Cx} {Ex : XK} {pos : Pos} {a b e o i value : Expr} {ma mb mo mi mv : EM}

/-! ### x[i] -/
def oIx : O2 := fun x y s =>
  match x, y with
  | .str z, .int i => if z.length ≤ 16000000 then
      match atI z.cps.toList i with
      | some c => some (.str ⟨#[c]⟩, s)
      | none => none
    else none
  | x, .int i => match sqOf s x with
    | some ys => match atI ys i with
      | some v => some (v, s)
      | none => none
    | none => none
  | _, _ => none
theorem x_ix : IxR X (rM (gx X) oIx) := by
  intro vl sl pins s σ H x y v u Q I rx ry ⟨W, st, px, py, r, s', r1, r2, hs, e, hc⟩ hp
  unfold oIx at e
  split at e
  · split at e <;> try (cases e; done)
    rename_i hz
    split at e <;> try (cases e; done)
    rename_i c ec
    cases e; cases r1; cases r2
    exact ix_str vl sl pins s σ H _ _ v u Q I rx ry ⟨_, _, _, rfl, rfl, big_line hz, ec, hc.here hs (.str _)⟩ hp
  · split at e <;> try (cases e; done)
    rename_i ys e1
    split at e <;> try (cases e; done)
    rename_i w ew
    cases e; cases r2
    obtain ⟨a, vs, rfl, h1, h2⟩ := sqOf_ok hs r1 e1
    obtain ⟨w', ew', rw'⟩ := h2.atI ew
    rcases h1 with h1 | h1
    · exact ix_list vl sl pins s σ H _ _ v u Q I rx ry ⟨_, _, _, _, rfl, rfl, h1, ew', hc.here hs rw'⟩ hp
    · exact ix_tup vl sl pins s σ H _ _ v u Q I rx ry ⟨_, _, _, _, rfl, rfl, h1, ew', hc.here hs rw'⟩ hp
  · cases e
theorem se_ix (ha : PE X a (tE (gx X) Ex ma)) (hb : PE X b (tE (gx X) Ex mb)) (hp : PlainIx b := by exact fun _ _ => rfl) : PE X (.Subscript a b pos) (tE (gx X) Ex (eOp oIx ma mb)) :=
  pe_weak (pe_ix x_ix ha hb hp) fun _ _ _ h => tOp_of h

/-! ### slices -/
def cut {α : Type} (xs : List α) (lo hi : Option Int) : List α := (xs.drop (HT.sIx xs.length 0 lo)).take (HT.sIx xs.length xs.length hi - HT.sIx xs.length 0 lo)
theorem Reps.cut {K : PySem.W.Frag} {W : Wd} {xs : List PV} {vs : List V} (r : Reps K W xs vs) (lo hi : Option Int) : Reps K W (cut xs lo hi) (cutV vs lo hi) := by
  unfold Z.cut cutV
  rw [r.length]
  exact (r.drop _).take _
def oSl (mu : Bool) (x : PV) (lo hi : Option Int) (s : S) : Option (PV × S) :=
  match x with
  | .str z => if z.length ≤ 16000000 then some (.str (cutS z lo hi), s) else none
  | .tup xs => newT (cut xs lo hi) s
  | x => match rdOf s x with
    | some xs => newL mu (cut xs lo hi) s
    | none => none
theorem HT_le (n d : Nat) (hd : d ≤ n) (o : Option Int) : HT.sIx n d o ≤ n := HT.sIx_le n d hd o
theorem x_sl (mu : Bool) : SlR X (fun x lo hi H Q => ∃ W st px v s', Rep X.K W px x ∧ StR (gx X) W H st ∧ oSl mu px lo hi st = some (v, s') ∧ Cont (gx X) W Q v s') := by
  intro pins s σ H x v vl vu lo hi sl Q I rx hsl pl pu ⟨W, st, px, r, s', r1, hs, e, hc⟩
  unfold oSl at e
  split at e
  · split at e <;> try (cases e; done)
    rename_i h
    cases e; cases r1
    exact sl_str pins s σ H _ v vl vu lo hi sl Q I rx hsl pl pu ⟨_, rfl, big_line h, hc.here hs (.str _)⟩
  · have r1' := r1
    cases r1 with
    | tup h1 h2 =>
      rename_i xs a vs
      refine sl_tupN pins s σ H _ v vl vu lo hi sl Q I rx hsl pl pu ⟨a, vs, rfl, tup_sq hs h1, fun hw => ?_, fun _ => (newT_ok hs (h2.cut lo hi) e hc).2⟩
      unfold newT at e
      split at e <;> cases e
      have z : cut xs lo hi = xs := by
        unfold cut
        rw [h2.length, hw.1, hw.2, List.drop_zero]
        exact List.take_of_length_le (by rw [h2.length]; omega)
      rw [z] at hc
      exact hc.here hs r1'
  · split at e <;> try (cases e; done)
    rename_i xs e1
    obtain ⟨a, vs, rfl, h1, h2⟩ := rdOf_ok hs r1 e1
    exact sl_list pins s σ H _ v vl vu lo hi sl Q I rx hsl pl pu ⟨a, vs, rfl, h1, (newL_ok hs (h2.cut lo hi) e hc).2⟩
/-- a part of a slice -/
abbrev PM := En → S → Rs (Option Int)
def pNo : PM := fun _ s => .ok none s
def pIs (m : EM) : PM := fun env s => (m env s).bind fun x s1 =>
  match x with
  | .int i => .ok (some i) s1
  | _ => .fail
def tP (g : G) (Ex : XK) (m : PM) : TO := fun σ H Q => ∃ W s env, EnvR g.K W env σ ∧ StR g W H s ∧ Post (m env s) (fun o s' => ∀ W' H', W.Le W' → StR g W' H' s' → Q o H') (XW g W Ex)
theorem sp_none : PO X none (tP (gx X) Ex pNo) := ⟨fun pins s σ H Q I ⟨W, st, env, he, hs, h⟩ => po_none.run pins s σ H Q I (h W H (Wd.Le.refl W) hs)⟩
theorem sp_some {m : EM} (h : PE X e (tE (gx X) Ex m)) : PO X (some e) (tP (gx X) Ex (pIs m)) := ⟨fun pins s σ H Q I ⟨W, st, env, he, hs, h1⟩ => by
  refine (po_some h).run pins s σ H Q I ?_
  refine tE_bind he hs h1 fun x s1 W1 H1 u l1 he1 hs1 r1 h2 => ?_
  cases x with
  | int i => cases r1; exact ⟨i, rfl, h2 W1 H1 l1 hs1⟩
  | _ => exact h2.elim⟩
def eSl (mu : Bool) (m : EM) (lo hi : PM) : EM := fun env s => (m env s).bind fun x s1 => (lo env s1).bind fun l s2 => (hi env s2).bind fun h s3 => lift (oSl mu x l h s3)
theorem tP_bind {α : Type} {g : G} {W : Wd} {s : S} {env : En} {σ : L2.St} {H : Hp} {m : PM} {k : Option Int → S → Rs α} {Q : α → S → Prop} {R : Option Int → Hp → Prop} (he : EnvR g.K W env σ) (hs : StR g W H s) (h : Post ((m env s).bind k) Q (XW g W Ex))
    (hk : ∀ v s1 W1 H1, W.Le W1 → EnvR g.K W1 env σ → StR g W1 H1 s1 → Post (k v s1) Q (XW g W1 Ex) → R v H1) : tP g Ex m σ H R :=
  ⟨W, s, env, he, hs, h.bind.mono (fun v s1 q W1 H1 l hs1 => hk v s1 W1 H1 l (he.mono l) hs1 (q.mono (fun _ _ z => z) fun _ _ _ z => z.mono l)) fun _ _ _ z => z⟩
theorem se_slice {lo hi : Option Expr} {p2 : Pos} {m : EM} {ml mh : PM} (mu : Bool) (he : PE X e (tE (gx X) Ex m)) (hl : PO X lo (tP (gx X) Ex ml)) (hh : PO X hi (tP (gx X) Ex mh)) :
    PE X (.Subscript e (.Slice lo hi none p2) pos) (tE (gx X) Ex (eSl mu m ml mh)) := by
  refine pe_weak (pe_slice (x_sl mu) he hl hh) fun σ H Q ⟨W, s, env, he, hs, h⟩ => ?_
  refine tE_bind he hs h fun x s1 W1 H1 u l1 he1 hs1 r1 h1 => ?_
  refine tP_bind he1 hs1 h1 fun y s2 W2 H2 l2 he2 hs2 h2 => ?_
  refine tP_bind he2 hs2 h2 fun z s3 W3 H3 l3 he3 hs3 h3 => ?_
  obtain ⟨v, s', e, hc⟩ := h3.lift
  exact ⟨W3, s3, x, v, s', (r1.mono l2).mono l3, hs3, e, hc.mono ((l1.trans l2).trans l3)⟩
/-- a list turned round -/
def uRevL (mu : Bool) : O1 := fun x s =>
  match rdOf s x with
  | some xs => newL mu xs.reverse s
  | none => none
theorem se_revL {k : Nat} {p1 p2 p3 : Pos} (mu : Bool) {m : EM} (he : PE X e (tE (gx X) Ex m)) : PE X (.Subscript e (.Slice none none (some (.UnaryOp .USub (.Constant (.int 1) k p1) p2)) p3) pos) (tE (gx X) Ex (eUn (uRevL mu) m)) := by
  refine pe_weak (pe_revL he) fun σ H Q ⟨W, s, env, he, hs, h⟩ => ?_
  refine tE_bind he hs h fun x s1 W1 H1 u l1 he1 hs1 r1 h1 => ?_
  obtain ⟨v, s', e, hc⟩ := h1.lift
  unfold uRevL at e
  split at e <;> try (cases e; done)
  rename_i xs e1
  obtain ⟨a, vs, rfl, q1, q2⟩ := rdOf_ok hs1 r1 e1
  exact ⟨a, vs, rfl, q1, (newL_ok hs1 q2.reverse e (hc.mono l1)).2⟩

/-! ### methods of built-in types -/
abbrev OM := PV → List PV → S → Option (PV × S)
def rMt (g : G) (f : OM) : V → List V → Hp → VK → Prop := fun x xs H Q => ∃ W s px pxs v s', Rep g.K W px x ∧ Reps g.K W pxs xs ∧ StR g W H s ∧ f px pxs s = some (v, s') ∧ Cont g W Q v s'
/-- the receiver is of this type -/
def isTy (T : Kn) (x : PV) (s : S) : Bool := match kn s x with
  | some k => decide (k = T)
  | none => false
def eMt (T : Kn) (f : OM) (m : EM) (ms : AM) : EM := fun env s => (m env s).bind fun x s1 => if isTy T x s1 then (ms env s1).bind fun xs s2 => lift (f x xs s2) else .fail
theorem tyV_of {W : Wd} {H : Hp} {s : S} {x : PV} {v : V} {T : Kn} (hs : StR (gx X) W H s) (r : Rep X.K W x v) (h : isTy T x s = true) (hT : T = .str ∨ T = .list ∨ T = .dict) : tyV X.K T.nm v H := by
  unfold isTy at h
  split at h <;> try (cases h; done)
  rename_i k ek
  have := of_decide_eq_true h
  subst this
  cases r with
  | str z => cases ek; rfl
  | lst h1 _ => cases ek; exact .inl ⟨rfl, _, .inl (.inl (hs.fro _ _ h1))⟩
  | scr h1 _ => cases ek; exact .inl ⟨rfl, _, hs.fro.sqL h1⟩
  | dic h1 _ => cases ek; exact .inr (.inr (.inl ⟨rfl, .inl ⟨_, hs.fro _ _ h1⟩⟩))
  | obj h1 =>
    rename_i a n
    have e' : (match s[n]? with | some (.lst _) => some Kn.list | some (.dic _) => some Kn.dict | _ => none) = some k := ek
    cases hn : s[n]? with
    | none => rw [hn] at e'; cases e'
    | some o =>
      rw [hn] at e'
      have q := hs.obj h1 hn
      cases o with
      | lst ys => cases e'; cases q with | lst h2 _ => exact .inl ⟨rfl, _, .inl (.inl h2)⟩
      | dic ys => cases e'; cases q with | dic h2 _ => exact .inr (.inr (.inl ⟨rfl, .inl ⟨_, h2⟩⟩))
      | _ => cases e'
  | non => cases ek; simp at hT
  | bl b => cases ek; simp at hT
  | int i => cases ek; simp at hT
  | tup _ _ => cases ek; simp at hT
  | wt _ _ => cases ek
section
variable {name : Str} {apos cpos : Pos} {T : Kn} {id : String} {f : OM} {es : List Expr} {m : EM} {ms : AM}
theorem se_bm0 (pa : PlainAttrs T.nm) (slot : Slot T.nm name id) (hty : typeOf (.builtin id) = pure (.type "method_descriptor")) (hm : MtR X id (rMt (gx X) f)) (ho : PE X o (tE (gx X) Ex m)) (hT : T = .str ∨ T = .list ∨ T = .dict := by decide)
    (hbase : attributeBase o name X.env (eval o X.env) = eval o X.env := by rfl) (hline : (apos.endLine == cpos.line) = true := by rfl) : PE X (.Call (.Attribute o name apos) [] [] cpos) (tE (gx X) Ex (eMt T f m aNil)) := by
  refine pe_weak (pe_bm0 pa slot hty hm ho hbase hline) fun σ H Q ⟨W, s, env, he, hs, h⟩ => ?_
  refine tE_bind he hs h fun x s1 W1 H1 u l1 he1 hs1 r1 h1 => ?_
  split at h1 <;> try (exact h1.elim)
  rename_i ht
  obtain ⟨v, s', e, hc⟩ := h1.bind.lift
  exact ⟨tyV_of hs1 r1 ht hT, W1, s1, x, [], v, s', r1, .nil, hs1, e, hc.mono l1⟩
theorem se_bm (pa : PlainAttrs T.nm) (slot : Slot T.nm name id) (hty : typeOf (.builtin id) = pure (.type "method_descriptor")) (hm : MtR X id (rMt (gx X) f)) (ho : PE X o (tE (gx X) Ex m)) (ha : PA X (e :: es) (tA (gx X) Ex ms)) (hT : T = .str ∨ T = .list ∨ T = .dict := by decide)
    (hbase : attributeBase o name X.env (eval o X.env) = eval o X.env := by rfl)
    (hfew : ((backTo cpos (starEach (e :: es) X.env)).all (fun x => !x.1) && (backToKw cpos (keywordEach [] X.env)).all (fun x => x.1.isSome) && decide ((e :: es).length + ([] : List Keyword).length + (if ([] : List Keyword).isEmpty then 0 else 1) < 30)) = true := by rfl)
    (hline : (apos.endLine == cpos.line) = true := by rfl) (hs : starEach (e :: es) X.env = (false, eval e X.env) :: starEach es X.env := by rfl) (hpl : (backTo cpos (starEach es X.env)).any (·.1) = false := by rfl) :
    PE X (.Call (.Attribute o name apos) (e :: es) [] cpos) (tE (gx X) Ex (eMt T f m ms)) := by
  refine pe_weak (pe_bm pa slot hty hm ho ha hbase hfew hline hs hpl) fun σ H Q ⟨W, s, env, he, hs, h⟩ => ?_
  refine tE_bind he hs h fun x s1 W1 H1 u l1 he1 hs1 r1 h1 => ?_
  split at h1 <;> try (exact h1.elim)
  rename_i ht
  refine ⟨tyV_of hs1 r1 ht hT, ?_⟩
  refine tA_bind he1 hs1 h1 fun xs s2 W2 H2 us l2 he2 hs2 r2 h2 => ?_
  obtain ⟨v, s', e, hc⟩ := h2.lift
  exact ⟨W2, s2, x, xs, v, s', r1.mono l2, r2, hs2, e, hc.mono (l1.trans l2)⟩
end
/-- a mutable list of the store -/
def mlst (s : S) (x : PV) : Option (Nat × List PV) :=
  match x with
  | .obj n => match s[n]? with
    | some (.lst xs) => some (n, xs)
    | _ => none
  | _ => none
theorem mlst_ok {g : G} {W : Wd} {H : Hp} {s : S} {x : PV} {v : V} {n : Nat} {xs : List PV} (hs : StR g W H s) (r : Rep g.K W x v) (e : mlst s x = some (n, xs)) :
    ∃ a vs, v = .ref a ∧ W.ob[n]? = some a ∧ s[n]? = some (.lst xs) ∧ H a = some (.lst vs) ∧ Reps g.K W xs vs := by
  cases r with
  | obj h =>
    rename_i a m
    have e' : (match s[m]? with | some (.lst xs) => some (m, xs) | _ => none) = some (n, xs) := e
    cases hn : s[m]? with
    | none => rw [hn] at e'; cases e'
    | some o =>
      rw [hn] at e'
      have q := hs.obj h hn
      cases o with
      | lst ys => cases e'; cases q with | lst h1 q => exact ⟨_, _, rfl, h, hn, h1, q⟩
      | _ => cases e'
  | _ => cases e
/-- the store with another list -/
theorem put_lst {g : G} {W : Wd} {H : Hp} {s : S} {n : Nat} {a : Addr} {xs ys : List PV} {vs : List V} (hs : StR g W H s) (ha : W.ob[n]? = some a) (ho : s[n]? = some (.lst xs)) (r : Reps g.K W ys vs) : StR g W (upd H a (.lst vs)) (s.set n (.lst ys)) :=
  hs.put ha ho (fun z => by cases z) (.lst upd_same r)
def mAppend : OM := fun x xs s =>
  match mlst s x, xs with
  | some (n, ys), [y] => if ys.length < 16000000 then some (.non, s.set n (.lst (ys ++ [y]))) else none
  | _, _ => none
theorem m_append : MtR X "list.append" (rMt (gx X) mAppend) := by
  intro pins s σ H x xs v us Q I rx rs ⟨W, st, px, pxs, r, s', r1, r2, hs, e, hc⟩
  unfold mAppend at e
  split at e <;> try (cases e; done)
  rename_i n ys y e1
  split at e <;> cases e
  rename_i hz
  obtain ⟨a, vs, rfl, ha, ho, h1, h2⟩ := mlst_ok hs r1 e1
  obtain ⟨u, rfl, q⟩ := r2.one
  refine mt_append pins s σ H _ _ v us Q I rx rs ⟨a, vs, u, rfl, rfl, h1, ?_, hc.here (put_lst hs ha ho (h2.append (.cons q .nil))) .non⟩
  rw [← h2.length, sizeLine_eq]; omega
def mPop : OM := fun x xs s =>
  match mlst s x, xs with
  | some (n, ys), [] => match ys.getLast? with
    | some y => some (y, s.set n (.lst ys.dropLast))
    | none => none
  | _, _ => none
theorem Reps.dropLast {K : PySem.W.Frag} {W : Wd} {xs : List PV} {vs : List V} (r : Reps K W xs vs) : Reps K W xs.dropLast vs.dropLast := by
  rw [List.dropLast_eq_take, List.dropLast_eq_take, r.length]; exact r.take _
theorem m_pop : MtR X "list.pop" (rMt (gx X) mPop) := by
  intro pins s σ H x xs v us Q I rx rs ⟨W, st, px, pxs, r, s', r1, r2, hs, e, hc⟩
  unfold mPop at e
  split at e <;> try (cases e; done)
  rename_i n ys e1
  split at e <;> cases e
  rename_i y hy
  obtain ⟨a, vs, rfl, ha, ho, h1, h2⟩ := mlst_ok hs r1 e1
  cases r2
  rw [List.getLast?_eq_getElem?] at hy
  obtain ⟨u, hu, q⟩ := h2.get hy
  exact mt_pop pins s σ H _ _ v us Q I rx rs ⟨a, vs, u, rfl, rfl, h1, by rw [← h2.length]; exact hu, hc.here (put_lst hs ha ho h2.dropLast) q⟩
def mPopAt : OM := fun x xs s =>
  match mlst s x, xs with
  | some (n, ys), [.int i] => if -(2 ^ 63) ≤ i ∧ i < 2 ^ 63 then match seqIndex? i ys.length with
      | some k => match ys[k]? with
        | some y => some (y, s.set n (.lst (ys.eraseIdx k)))
        | none => none
      | none => none
    else none
  | _, _ => none
theorem Reps.erase {K : PySem.W.Frag} {W : Wd} : ∀ {xs : List PV} {vs : List V} (k : Nat), Reps K W xs vs → Reps K W (xs.eraseIdx k) (vs.eraseIdx k)
  | _, _, _, .nil => .nil
  | _, _, 0, .cons _ t => t
  | _, _, k + 1, .cons h t => .cons h (Reps.erase k t)
theorem m_popAt : MtR X "list.pop" (rMt (gx X) mPopAt) := by
  intro pins s σ H x xs v us Q I rx rs ⟨W, st, px, pxs, r, s', r1, r2, hs, e, hc⟩
  unfold mPopAt at e
  split at e <;> try (cases e; done)
  rename_i n ys i e1
  split at e <;> try (cases e; done)
  rename_i hi
  split at e <;> try (cases e; done)
  rename_i k hk
  split at e <;> cases e
  rename_i y hy
  obtain ⟨a, vs, rfl, ha, ho, h1, h2⟩ := mlst_ok hs r1 e1
  obtain ⟨w, rfl, q0⟩ := r2.one
  cases q0
  obtain ⟨u, hu, q⟩ := h2.get hy
  exact mt_popAt pins s σ H _ _ v us Q I rx rs ⟨a, vs, i, k, u, rfl, rfl, h1, hi.1, hi.2, by rw [← h2.length]; exact hk, hu, hc.here (put_lst hs ha ho (h2.erase k)) q⟩
def mExtend : OM := fun x xs s =>
  match mlst s x, xs with
  | some (n, ys), [y] => match lsOf s y with
    | some zs => if ys.length + zs.length ≤ 16000000 then some (.non, s.set n (.lst (ys ++ zs))) else none
    | none => none
  | _, _ => none
theorem m_extend : MtR X "list.extend" (rMt (gx X) mExtend) := by
  intro pins s σ H x xs v us Q I rx rs ⟨W, st, px, pxs, r, s', r1, r2, hs, e, hc⟩
  unfold mExtend at e
  split at e <;> try (cases e; done)
  rename_i n ys y e1
  split at e <;> try (cases e; done)
  rename_i zs e2
  split at e <;> cases e
  rename_i hz
  obtain ⟨a, vs, rfl, ha, ho, h1, h2⟩ := mlst_ok hs r1 e1
  obtain ⟨u, rfl, q⟩ := r2.one
  obtain ⟨b, us', rfl, h3, h4⟩ := lsOf_ok hs q e2
  refine mt_extend pins s σ H _ _ v us Q I rx rs ⟨a, b, vs, us', rfl, rfl, h1, h3, ?_, hc.here (put_lst hs ha ho (h2.append h4)) .non⟩
  rw [← h2.length, ← h4.length]; exact big_line hz
/-- join of a list of texts -/
def mJoin : OM := fun x xs s =>
  match x, xs with
  | .str a, [y] => match sqOf s y with
    | some zs => match strsOf zs with
      | some ts => if (ts.map (·.length)).sum + ts.length * a.length ≤ 16000000 then some (.str (Txt.join a ts), s) else none
      | none => none
    | none => none
  | _, _ => none
theorem m_join : MtR X "str.join" (rMt (gx X) mJoin) := by
  intro pins s σ H x xs v us Q I rx rs ⟨W, st, px, pxs, r, s', r1, r2, hs, e, hc⟩
  unfold mJoin at e
  split at e <;> try (cases e; done)
  split at e <;> try (cases e; done)
  rename_i zs e1
  split at e <;> try (cases e; done)
  rename_i ts e2
  split at e <;> cases e
  rename_i hz
  cases r1
  obtain ⟨u, rfl, q⟩ := r2.one
  obtain ⟨b, us', rfl, h3, h4⟩ := sqOf_ok hs q e1
  rw [strsOf_ok h4 e2] at h3
  exact mt_join pins s σ H _ _ v us Q I rx rs ⟨_, b, ts, rfl, rfl, h3, by omega, hc.here hs (.str _)⟩
def mUpper : OM := fun x xs s =>
  match x, xs with
  | .str a, [] => if a.length ≤ 5592405 then some (.str (Txt.upper a), s) else none
  | _, _ => none
theorem m_upper : MtR X "str.upper" (rMt (gx X) mUpper) := by
  intro pins s σ H x xs v us Q I rx rs ⟨W, st, px, pxs, r, s', r1, r2, hs, e, hc⟩
  unfold mUpper at e
  split at e <;> try (cases e; done)
  split at e <;> cases e
  rename_i hz
  cases r1; cases r2
  exact mt_upper pins s σ H _ _ v us Q I rx rs ⟨_, rfl, rfl, hz, hc.here hs (.str _)⟩
def mEndswith : OM := fun x xs s =>
  match x, xs with
  | .str a, [.str b] => some (.bl (Txt.endswith a b), s)
  | _, _ => none
theorem m_endswith : MtR X "str.endswith" (rMt (gx X) mEndswith) := by
  intro pins s σ H x xs v us Q I rx rs ⟨W, st, px, pxs, r, s', r1, r2, hs, e, hc⟩
  unfold mEndswith at e
  split at e <;> try (cases e; done)
  cases e
  cases r1
  obtain ⟨u, rfl, q⟩ := r2.one
  cases q
  exact mt_endswith pins s σ H _ _ v us Q I rx rs ⟨_, _, rfl, rfl, hc.here hs (.bl _)⟩

/-! ### dicts with int and text keys -/
def kP : PV → Option Key
  | .int i => some (.inl i)
  | .str x => some (.inr x)
  | _ => none
theorem kP_ok {K : PySem.W.Frag} {W : Wd} {x : PV} {v : V} {k : Key} (r : Rep K W x v) (e : kP x = some k) : v = kV k := by
  cases r <;> first | (cases e; rfl) | cases e
def valP (kvs : List (Key × PV)) (k : Key) : Option PV := (kvs.find? fun kv => decide (kv.1 = k)).map (·.2)
def putP (kvs : List (Key × PV)) (k : Key) (v : PV) : List (Key × PV) :=
  if kvs.any (fun kv => decide (kv.1 = k)) then kvs.map fun kv => if kv.1 = k then (kv.1, v) else kv else kvs ++ [(k, v)]
theorem KReps.val {K : PySem.W.Frag} {W : Wd} : ∀ {xs : List (Key × PV)} {vs : List (Key × V)} (k : Key), KReps K W xs vs → (∀ x, valP xs k = some x → ∃ v, valV vs k = some v ∧ Rep K W x v) ∧ (valP xs k = none → valV vs k = none)
  | _, _, k, .nil => ⟨fun x e => (by cases e), fun _ => rfl⟩
  | _, _, k, .cons (k := j) (x := y) (v := u) (xs := xs) (vs := vs) h t => by
    have ih := KReps.val k t
    by_cases e : j = k
    · have e1 : valP ((j, y) :: xs) k = some y := by unfold valP; rw [List.find?_cons]; simp [e]
      have e2 : valV ((j, u) :: vs) k = some u := by unfold valV; rw [List.find?_cons]; simp [e]
      rw [e1, e2]
      exact ⟨fun x q => (by cases q; exact ⟨u, rfl, h⟩), fun q => (by cases q)⟩
    · have e1 : valP ((j, y) :: xs) k = valP xs k := by unfold valP; rw [List.find?_cons]; simp [e]
      have e2 : valV ((j, u) :: vs) k = valV vs k := by unfold valV; rw [List.find?_cons]; simp [e]
      rw [e1, e2]; exact ih
theorem KReps.any {K : PySem.W.Frag} {W : Wd} {k : Key} : ∀ {xs : List (Key × PV)} {vs : List (Key × V)}, KReps K W xs vs → (xs.any fun kv => decide (kv.1 = k)) = vs.any fun kv => decide (kv.1 = k)
  | _, _, .nil => rfl
  | _, _, .cons h t => by rw [List.any_cons, List.any_cons, KReps.any t]
theorem KReps.mapAt {K : PySem.W.Frag} {W : Wd} {k : Key} {y : PV} {u : V} (q : Rep K W y u) : ∀ {xs : List (Key × PV)} {vs : List (Key × V)}, KReps K W xs vs → KReps K W (xs.map fun kv => if kv.1 = k then (kv.1, y) else kv) (vs.map fun kv => if kv.1 = k then (kv.1, u) else kv)
  | _, _, .nil => .nil
  | _, _, .cons (k := j) h t => by
    rw [List.map_cons, List.map_cons]
    by_cases e : j = k
    · rw [if_pos e, if_pos e]; exact .cons q (KReps.mapAt q t)
    · rw [if_neg e, if_neg e]; exact .cons h (KReps.mapAt q t)
theorem KReps.snoc {K : PySem.W.Frag} {W : Wd} {k : Key} {y : PV} {u : V} (q : Rep K W y u) : ∀ {xs : List (Key × PV)} {vs : List (Key × V)}, KReps K W xs vs → KReps K W (xs ++ [(k, y)]) (vs ++ [(k, u)])
  | _, _, .nil => .cons q .nil
  | _, _, .cons h t => .cons h (KReps.snoc q t)
theorem KReps.put {K : PySem.W.Frag} {W : Wd} {xs : List (Key × PV)} {vs : List (Key × V)} (r : KReps K W xs vs) (k : Key) {y : PV} {u : V} (q : Rep K W y u) : KReps K W (putP xs k y) (putK vs k u) := by
  unfold putP putK
  rw [r.any]
  by_cases h : (vs.any fun kv => decide (kv.1 = k)) = true
  · rw [if_pos h, if_pos h]; exact r.mapAt q
  · rw [if_neg h, if_neg h]; exact r.snoc q
/-- a dict's pairs -/
def dcOf (s : S) (x : PV) : Option (List (Key × PV)) :=
  match x with
  | .dic kvs => some kvs
  | .obj n => match s[n]? with
    | some (.dic kvs) => some kvs
    | some (.ldc kvs) => some kvs
    | _ => none
  | _ => none
theorem DGet.kR {H : Hp} {a : Addr} {kvs : List (Key × V)} {k : Key} (e : Rd H a (.dK kvs)) : DGet H a (kV k) (valV kvs k) := .inl ⟨kvs, k, e, rfl, rfl⟩
theorem dcOf_ok {g : G} {W : Wd} {H : Hp} {s : S} {x : PV} {v : V} {kvs : List (Key × PV)} (hs : StR g W H s) (r : Rep g.K W x v) (e : dcOf s x = some kvs) : ∃ a ws, v = .ref a ∧ Rd H a (.dK ws) ∧ KReps g.K W kvs ws := by
  cases r with
  | dic h q => cases e; exact ⟨_, _, rfl, .inl (hs.fro _ _ h), q⟩
  | obj h =>
    rename_i a n
    have e' : (match s[n]? with | some (.dic xs) => some xs | some (.ldc xs) => some xs | _ => none) = some kvs := e
    cases hn : s[n]? with
    | none => rw [hn] at e'; cases e'
    | some o =>
      rw [hn] at e'
      have q := hs.obj h hn
      cases o with
      | dic ys => cases e'; cases q with | dic h1 q => exact ⟨_, _, rfl, .inl h1, q⟩
      | ldc ys => cases e'; cases q with | ldc _ h1 q => exact ⟨_, _, rfl, .inr ⟨_, h1⟩, q⟩
      | _ => cases e'
  | _ => cases e
def oDGet : O2 := fun x y s =>
  match dcOf s x, kP y with
  | some kvs, some k => match valP kvs k with
    | some v => some (v, s)
    | none => none
  | _, _ => none
theorem se_dget (hu : X.A.units + 1 < cLine) (ha : PE X a (tE (gx X) Ex ma)) (hb : PE X b (tE (gx X) Ex mb)) (hp : NoSl b := by exact fun _ _ => rfl) : PE X (.Subscript a b pos) (tE (gx X) Ex (eOp oDGet ma mb)) := by
  refine pe_weak (pe_dget hu ha hb hp) fun σ H Q ⟨W, s, env, he, hs, h⟩ => ?_
  refine tE_bind he hs h fun x s1 W1 H1 u l1 he1 hs1 r1 h1 => ?_
  refine tE_bind he1 hs1 h1 fun y s2 W2 H2 u2 l2 he2 hs2 r2 h2 => ?_
  obtain ⟨v, s', e, hc⟩ := h2.lift
  unfold oDGet at e
  split at e <;> try (cases e; done)
  rename_i kvs k e1 e2
  split at e <;> cases e
  rename_i e3
  obtain ⟨a, ws, rfl, h3, h4⟩ := dcOf_ok hs2 (r1.mono l2) e1
  obtain ⟨w, h5, h6⟩ := (h4.val k).1 _ e3
  exact ⟨a, w, rfl, by rw [kP_ok r2 e2, ← h5]; exact DGet.kR h3, (hc.mono (l1.trans l2)).here hs2 h6⟩
def oDIn : O2 := fun y x s =>
  match dcOf s x, kP y with
  | some kvs, some k => some (.bl (valP kvs k).isSome, s)
  | _, _ => none
def oDNotIn : O2 := fun y x s =>
  match dcOf s x, kP y with
  | some kvs, some k => some (.bl (!(valP kvs k).isSome), s)
  | _, _ => none
theorem isSome_of {K : PySem.W.Frag} {W : Wd} {xs : List (Key × PV)} {vs : List (Key × V)} (k : Key) (r : KReps K W xs vs) : (valV vs k).isSome = (valP xs k).isSome := by
  cases e : valP xs k with
  | none => rw [(r.val k).2 e]; rfl
  | some x => obtain ⟨v, h, _⟩ := (r.val k).1 x e; rw [h]; rfl
theorem tDIn_of {σ : L2.St} {H : Hp} {Q : VK} (h : tE (gx X) Ex (eOp oDIn ma mb) σ H Q) : tDIn (tE (gx X) Ex ma) (tE (gx X) Ex mb) σ H Q := by
  obtain ⟨W, s, env, he, hs, h⟩ := h
  refine tE_bind he hs h fun x s1 W1 H1 u l1 he1 hs1 r1 h1 => ?_
  refine tE_bind he1 hs1 h1 fun y s2 W2 H2 u2 l2 he2 hs2 r2 h2 => ?_
  obtain ⟨v, s', e, hc⟩ := h2.lift
  unfold oDIn at e
  split at e <;> try (cases e; done)
  rename_i kvs k e1 e2
  cases e
  obtain ⟨a, ws, rfl, h3, h4⟩ := dcOf_ok hs2 r2 e1
  refine ⟨a, valV ws k, rfl, by rw [kP_ok (r1.mono l2) e2]; exact DGet.kR h3, ?_⟩
  rw [isSome_of k h4]
  exact (hc.mono (l1.trans l2)).here hs2 (.bl _)
theorem tDNotIn_of {σ : L2.St} {H : Hp} {Q : VK} (h : tE (gx X) Ex (eOp oDNotIn ma mb) σ H Q) : tDNotIn (tE (gx X) Ex ma) (tE (gx X) Ex mb) σ H Q := by
  obtain ⟨W, s, env, he, hs, h⟩ := h
  refine tE_bind he hs h fun x s1 W1 H1 u l1 he1 hs1 r1 h1 => ?_
  refine tE_bind he1 hs1 h1 fun y s2 W2 H2 u2 l2 he2 hs2 r2 h2 => ?_
  obtain ⟨v, s', e, hc⟩ := h2.lift
  unfold oDNotIn at e
  split at e <;> try (cases e; done)
  rename_i kvs k e1 e2
  cases e
  obtain ⟨a, ws, rfl, h3, h4⟩ := dcOf_ok hs2 r2 e1
  refine ⟨a, valV ws k, rfl, by rw [kP_ok (r1.mono l2) e2]; exact DGet.kR h3, ?_⟩
  rw [isSome_of k h4]
  exact (hc.mono (l1.trans l2)).here hs2 (.bl _)
theorem se_din (hu : X.A.units + 1 < cLine) (ha : PE X a (tE (gx X) Ex ma)) (hb : PE X b (tE (gx X) Ex mb)) (hm : behindInMarks .In b = false := by rfl) : PE X (.Compare a [.In] [b] pos) (tE (gx X) Ex (eOp oDIn ma mb)) :=
  pe_weak (pe_cmp (pc_din hu ha hb) hm) fun _ _ _ h => tDIn_of h
theorem st_din (hu : X.A.units + 1 < cLine) (ha : PE X a (tE (gx X) Ex ma)) (hb : PE X b (tE (gx X) Ex mb)) (hm : behindInMarks .In b = false := by rfl) : PT X (.Compare a [.In] [b] pos) (tT (gx X) Ex (tB (eOp oDIn ma mb))) :=
  pt_weak (pt_cmp (pc_din hu ha hb) hm) fun _ _ _ h => tDIn_of (tE_bl h)
theorem se_dnotin (hu : X.A.units + 1 < cLine) (ha : PE X a (tE (gx X) Ex ma)) (hb : PE X b (tE (gx X) Ex mb)) (hm : behindInMarks .NotIn b = false := by rfl) : PE X (.Compare a [.NotIn] [b] pos) (tE (gx X) Ex (eOp oDNotIn ma mb)) :=
  pe_weak (pe_cmp (pc_dnotin hu ha hb) hm) fun _ _ _ h => tDNotIn_of h
theorem st_dnotin (hu : X.A.units + 1 < cLine) (ha : PE X a (tE (gx X) Ex ma)) (hb : PE X b (tE (gx X) Ex mb)) (hm : behindInMarks .NotIn b = false := by rfl) : PT X (.Compare a [.NotIn] [b] pos) (tT (gx X) Ex (tB (eOp oDNotIn ma mb))) :=
  pt_weak (pt_cmp (pc_dnotin hu ha hb) hm) fun _ _ _ h => tDNotIn_of (tE_bl h)
/-- a mutable dict of the store -/
def mdic (s : S) (x : PV) : Option (Nat × List (Key × PV)) :=
  match x with
  | .obj n => match s[n]? with
    | some (.dic xs) => some (n, xs)
    | _ => none
  | _ => none
theorem mdic_ok {g : G} {W : Wd} {H : Hp} {s : S} {x : PV} {v : V} {n : Nat} {xs : List (Key × PV)} (hs : StR g W H s) (r : Rep g.K W x v) (e : mdic s x = some (n, xs)) :
    ∃ a vs, v = .ref a ∧ W.ob[n]? = some a ∧ s[n]? = some (.dic xs) ∧ H a = some (.dK vs) ∧ KReps g.K W xs vs := by
  cases r with
  | obj h =>
    rename_i a m
    have e' : (match s[m]? with | some (.dic xs) => some (m, xs) | _ => none) = some (n, xs) := e
    cases hn : s[m]? with
    | none => rw [hn] at e'; cases e'
    | some o =>
      rw [hn] at e'
      have q := hs.obj h hn
      cases o with
      | dic ys => cases e'; cases q with | dic h1 q => exact ⟨_, _, rfl, h, hn, h1, q⟩
      | _ => cases e'
  | _ => cases e
theorem put_dic {g : G} {W : Wd} {H : Hp} {s : S} {n : Nat} {a : Addr} {xs ys : List (Key × PV)} {vs : List (Key × V)} (hs : StR g W H s) (ha : W.ob[n]? = some a) (ho : s[n]? = some (.dic xs)) (r : KReps g.K W ys vs) : StR g W (upd H a (.dK vs)) (s.set n (.dic ys)) :=
  hs.put ha ho (fun z => by cases z) (.dic upd_same r)
/-- d[k] = v: value, dict, key -/
def sDPut (mv mo mi : EM) : SM := fun env s => (mv env s).bind fun v s1 => (mo env s1).bind fun x s2 => (mi env s2).bind fun y s3 =>
  match mdic s3 x, kP y with
  | some (n, kvs), some k => if kvs.length < 16000000 then .ok (.nx env) (s3.set n (.dic (putP kvs k v))) else .fail
  | _, _ => .fail
theorem ss_dput (hu : X.A.units + 1 < cLine) {pos' : Pos} (ho : PE X o (tE (gx X) Ex mo)) (hi : PE X i (tE (gx X) Ex mi)) (hv : PE X value (tE (gx X) Ex mv)) (hsw : swapsWith value (some (.Subscript o i pos')) pos.line X.env = pure false := by rfl) :
    PS X (.Assign [.Subscript o i pos'] value pos) (tS (gx X) Ex (sDPut mv mo mi)) := by
  refine ps_weak (ps_dput hu ho hi hv hsw) fun D σ H ⟨W, s, env, he, hs, h⟩ => ?_
  refine tE_bind he hs h fun v s1 W1 H1 u l1 he1 hs1 r1 h1 => ?_
  refine tE_bind he1 hs1 h1 fun x s2 W2 H2 u2 l2 he2 hs2 r2 h2 => ?_
  refine tE_bind he2 hs2 h2 fun y s3 W3 H3 u3 l3 he3 hs3 r3 h3 => ?_
  split at h3 <;> try (exact h3.elim)
  rename_i n kvs k e1 e2
  split at h3 <;> try (exact h3.elim)
  rename_i hz
  obtain ⟨a, vs, rfl, ha, ho, h4, h5⟩ := mdic_ok hs3 (r2.mono l3) e1
  refine ⟨a, _, rfl, by rw [kP_ok r3 e2]; exact DPut.k h4 (by rw [← h5.length, sizeLine_eq]; omega), ?_⟩
  exact h3 W3 _ σ ((l1.trans l2).trans l3) (put_dic hs3 ha ho (h5.put k ((r1.mono l2).mono l3))) he3
/-- {} -/
def eDic0 (mu : Bool) : EM := fun _ s => if mu then .ok (.obj s.length) (s ++ [.dic []]) else .ok (.dic []) s
theorem se_dic0 (mu : Bool) : PE X (.Dict [] [] pos) (tE (gx X) Ex (eDic0 mu)) := by
  refine pe_weak pe_dnewK fun σ H Q ⟨W, s, env, he, hs, h⟩ => ?_
  intro p hp
  cases mu with
  | true => exact h ⟨W.fro, W.ob ++ [p], W.hid, W.lk⟩ _ _ (le_ob p) (hs.alloc hp (.dic upd_same .nil)) (.obj (by rw [← hs.len]; simp))
  | false => exact h ⟨upd W.fro p (.dK []), W.ob, W.hid, W.lk⟩ _ _ (hs.le_new hp) (hs.new hp) (.dic upd_same .nil)
/-- the pairs of a display -/
abbrev DM := En → S → Rs (List (PV × PV))
def dNil : DM := fun _ s => .ok [] s
def dCons (k v : EM) (r : DM) : DM := fun env s => (k env s).bind fun x s1 => (v env s1).bind fun y s2 => (r env s2).bind fun ps s3 => .ok ((x, y) :: ps) s3
def keys : List (PV × PV) → Option (List (Key × PV))
  | [] => some []
  | (x, y) :: r => match kP x, keys r with
    | some k, some kvs => some ((k, y) :: kvs)
    | _, _ => none
def mergeP (kvs more : List (Key × PV)) : List (Key × PV) := more.foldl (fun acc kv => putP acc kv.1 kv.2) kvs
theorem KReps.merge {K : PySem.W.Frag} {W : Wd} : ∀ {ys : List (Key × PV)} {us : List (Key × V)}, KReps K W ys us → ∀ {xs : List (Key × PV)} {vs : List (Key × V)}, KReps K W xs vs → KReps K W (mergeP xs ys) (mergeK vs us)
  | _, _, .nil => fun r => r
  | _, _, .cons h t => fun r => KReps.merge t (r.put _ h)
def eDisp (mu : Bool) (d : DM) : EM := fun env s => (d env (s ++ [.dic []])).bind fun ps s1 =>
  match s1[s.length]?, keys ps with
  | some (.dic []), some kvs => if kvs.length ≤ 15 then
      (if mu then .ok (.obj s.length) (s1.set s.length (.dic (mergeP [] kvs))) else .ok (.dic (mergeP [] kvs)) (s1.set s.length .dead))
    else .fail
  | _, _ => .fail
/-- what a display's rule asks of its parts -/
inductive PRs (K : PySem.W.Frag) (W : Wd) : List (PV × PV) → List (V × V) → Prop
  | nil : PRs K W [] []
  | cons {x y : PV} {u v : V} {ps : List (PV × PV)} {us : List (V × V)} : Rep K W x u → Rep K W y v → PRs K W ps us → PRs K W ((x, y) :: ps) ((u, v) :: us)
theorem PRs.mono {K : PySem.W.Frag} {W W' : Wd} (l : W.Le W') {ps : List (PV × PV)} {us : List (V × V)} (r : PRs K W ps us) : PRs K W' ps us := by
  induction r with
  | nil => exact .nil
  | cons h1 h2 _ ih => exact .cons (h1.mono l) (h2.mono l) ih
def DOk (g : G) (Ex : XK) (trs : List (TE × TE)) (d : DM) : Prop := ∀ (σ : L2.St) (H : Hp) (W : Wd) (s : S) (env : En) (Q : List (V × V) → Hp → Prop), EnvR g.K W env σ → StR g W H s →
  Post (d env s) (fun ps s' => ∀ W' H' us, W.Le W' → StR g W' H' s' → PRs g.K W' ps us → Q us H') (XW g W Ex) → tPairs trs σ H Q
theorem dok_nil {g : G} : DOk g Ex [] dNil := fun σ H W s env Q he hs h => h W H [] (Wd.Le.refl W) hs .nil
theorem dok_cons {g : G} {mk mv : EM} {trs : List (TE × TE)} {d : DM} (h : DOk g Ex trs d) : DOk g Ex ((tE g Ex mk, tE g Ex mv) :: trs) (dCons mk mv d) := fun σ H W s env Q he hs q => by
  refine tE_bind he hs q fun x s1 W1 H1 u l1 he1 hs1 r1 h1 => ?_
  refine tE_bind he1 hs1 h1 fun y s2 W2 H2 u2 l2 he2 hs2 r2 h2 => ?_
  refine h σ H2 W2 s2 env _ he2 hs2 (h2.bind.mono (fun ps s3 h3 W3 H3 us l3 hs3 r3 => ?_) fun _ _ _ z => z)
  exact h3 W3 H3 _ ((l1.trans l2).trans l3) hs3 (.cons ((r1.mono l2).mono l3) (r2.mono l3) r3)
theorem keys_ok {K : PySem.W.Frag} {W : Wd} {ps : List (PV × PV)} {us : List (V × V)} (r : PRs K W ps us) : ∀ {kvs : List (Key × PV)}, keys ps = some kvs → ∃ ws, us = ws.map (fun kv => (kV kv.1, kv.2)) ∧ KReps K W kvs ws := by
  induction r with
  | nil => intro kvs e; cases e; exact ⟨[], rfl, .nil⟩
  | cons h1 h2 _ ih =>
    intro kvs e
    unfold keys at e
    split at e <;> cases e
    rename_i k kvs' e1 e2
    obtain ⟨ws, rfl, q⟩ := ih e2
    exact ⟨(k, _) :: ws, by rw [List.map_cons, kP_ok h1 e1], .cons h2 q⟩
theorem se_disp (mu : Bool) {ks : List (Option Expr)} {vs : List Expr} {trs : List (TE × TE)} {d : DM} (h : PPs X pos ks vs trs) (hd : DOk (gx X) Ex trs d) (hall : ks.all (·.isSome) = true := by rfl) (hl : ks.length = vs.length := by rfl) (h0 : ks ≠ [] := by exact fun z => by cases z)
    (h15 : ks.length ≤ 15 := by decide) : PE X (.Dict ks vs pos) (tE (gx X) Ex (eDisp mu d)) := by
  refine pe_weak (pe_disp h hall hl h0 h15) fun σ H Q ⟨W, s, env, he, hs, h⟩ => ?_
  intro p hp
  have l0 : W.Le ⟨W.fro, W.ob ++ [p], W.hid, W.lk⟩ := le_ob p
  have hs0 := hs.alloc (m := .dic []) hp (.dic upd_same .nil)
  refine hd σ _ ⟨W.fro, W.ob ++ [p], W.hid, W.lk⟩ _ env _ (he.mono l0) hs0 (h.bind.mono (fun ps s1 h1 W1 H1 us l1 hs1 r1 => ?_) fun _ _ _ z => z.mono l0)
  have hob : W1.ob[s.length]? = some p := l1.at (by rw [← hs.len]; simp)
  split at h1 <;> try (exact h1.elim)
  rename_i kvs e1 e2
  split at h1 <;> try (exact h1.elim)
  rename_i hz
  obtain ⟨ws, rfl, q⟩ := keys_ok r1 e2
  have hp1 : H1 p = some (.dK []) := by
    cases hs1.obj hob e1 with
    | dic h2 h3 => cases h3; exact h2
  refine ⟨hp1, ws, rfl, by rw [← q.length]; exact hz, ?_⟩
  have st2 := hs1.put hob e1 (fun z => by cases z) (o' := .dic (mergeP [] kvs)) (u := .dK (mergeK [] ws)) (.dic upd_same (q.merge .nil))
  cases mu with
  | true => exact h1 W1 _ _ (l0.trans l1) st2 (.obj hob)
  | false =>
    have e3 : (s1.set s.length (.dic (mergeP [] kvs)))[s.length]? = some (.dic (mergeP [] kvs)) := List.getElem?_set_self (List.getElem?_eq_some_iff.mp e1).1
    have st3 := st2.freeze hob e3 (fun z => by cases z) (u := .dK (mergeK [] ws)) upd_same
    have l2 := st2.le_freeze (u := .dK (mergeK [] ws)) hob e3 (fun z => by cases z)
    rw [List.set_set] at st3
    exact h1 _ _ _ ((l0.trans l1).trans l2) st3 (.dic upd_same ((q.merge .nil).mono l2))
end
end Z

set_option Elab.async false
set_option linter.all false
set_option maxRecDepth 100000
set_option maxHeartbeats 4000000
/-! Z7: targets, iterators, statements, loops, list comprehensions. -/
namespace Z
open PySem PySem.Spec L2
variable [LamT]

/-! ### worlds without the hidden part -/
structure Wd.Lo (W W' : Wd) : Prop where
  fro : Sub W.fro W'.fro
  lk : W'.lk = W.lk
  ob : ∃ m, W'.ob = W.ob ++ m
theorem Wd.Le.lo {W W' : Wd} (l : W.Le W') : W.Lo W' := ⟨l.fro, l.lk, l.ob⟩
theorem Wd.Lo.trans {W W1 W2 : Wd} (a : W.Lo W1) (b : W1.Lo W2) : W.Lo W2 := by
  obtain ⟨m, e⟩ := a.ob
  obtain ⟨m', e'⟩ := b.ob
  exact ⟨a.fro.trans b.fro, b.lk.trans a.lk, m ++ m', by rw [e', e, List.append_assoc]⟩
theorem Wd.Lo.at {W W' : Wd} (l : W.Lo W') {n : Nat} {a : Addr} (h : W.ob[n]? = some a) : W'.ob[n]? = some a := by
  obtain ⟨m, e⟩ := l.ob
  rw [e, List.getElem?_append_left (List.getElem?_eq_some_iff.mp h).1]; exact h
abbrev Wd.re (W : Wd) (h : Hp) : Wd := ⟨W.fro, W.ob, h, W.lk⟩
theorem Wd.lo_re (W : Wd) (h : Hp) : W.Lo (W.re h) := ⟨Sub.refl _, rfl, [], by simp⟩
theorem Wd.re_lo (W : Wd) (h : Hp) : (W.re h).Lo W := ⟨Sub.refl _, rfl, [], by simp⟩
theorem Wd.Lo.le {W W' : Wd} (l : W.Lo W') : W.Le (W'.re W.hid) := ⟨l.fro, rfl, l.lk, l.ob⟩
section
variable {K : PySem.W.Frag} {W W' : Wd}
mutual
theorem Rep.lo (l : W.Lo W') : ∀ {x : PV} {v : V}, Rep K W x v → Rep K W' x v
  | _, _, .non => .non
  | _, _, .bl b => .bl b
  | _, _, .int i => .int i
  | _, _, .str x => .str x
  | _, _, .tup h r => .tup (l.fro.sqN h) (Reps.lo l r)
  | _, _, .wt h r => .wt (l.fro.sqT h) (Reps.lo l r)
  | _, _, .lst h r => .lst (l.fro _ _ h) (Reps.lo l r)
  | _, _, .scr h r => .scr (l.fro.sqL h) (Reps.lo l r)
  | _, _, .dic h r => .dic (l.fro _ _ h) (KReps.lo l r)
  | _, _, .obj h => .obj (l.at h)
theorem Reps.lo (l : W.Lo W') : ∀ {x : List PV} {v : List V}, Reps K W x v → Reps K W' x v
  | _, _, .nil => .nil
  | _, _, .cons r t => .cons (Rep.lo l r) (Reps.lo l t)
theorem KReps.lo (l : W.Lo W') : ∀ {x : List (Key × PV)} {v : List (Key × V)}, KReps K W x v → KReps K W' x v
  | _, _, .nil => .nil
  | _, _, .cons r t => .cons (Rep.lo l r) (KReps.lo l t)
end
theorem FReps.lo (l : W.Lo W') {x : List (Str × PV)} {v : List (Str × V)} (r : FReps K W x v) : FReps K W' x v := by
  induction r with
  | nil => exact .nil
  | cons h _ ih => exact .cons (h.lo l) ih
theorem EnvR.lo {env : En} {σ : St} (h : EnvR K W env σ) (l : W.Lo W') : EnvR K W' env σ :=
  ⟨h.1, fun i v e => let ⟨u, e', r⟩ := h.2 i v e; ⟨u, e', r.lo l⟩⟩
end
section
variable {g : G} {W : Wd} {H : Hp} {s : S}
theorem ORel.lo {W' : Wd} {H' : Hp} {a : Addr} {o : MO} (r : ORel g W H a o) (l : W.Lo W') (e : H' a = H a) : ORel g W' H' a o := by
  cases r with
  | dead => exact .dead
  | lst h q => exact .lst (e.trans h) (q.lo l)
  | dic h q => exact .dic (e.trans h) (q.lo l)
  | ldc k h q => exact .ldc ((congrFun l.lk a).trans k) (e.trans h) (q.lo l)
  | ins c h q => exact .ins c (e.trans h) (q.lo l)
/-- a thing that no value leads to changes: h0 the hidden part without it -/
theorem StR.hide {p : Addr} {o : HO} {h0 : Hp} (h : StR g W H s) (hf : W.fro p = none) (ho : ∀ (n : Nat) (a : Addr), W.ob[n]? = some a → a ≠ p) (hs : ∀ b, b ≠ p → W.hid b = h0 b) (hq : ∀ u, H p = some u → plainO u) (hpo : plainO o := by exact True.intro) : StR g (W.re (upd h0 p o)) (upd H p o) s := by
  refine ⟨fun b u e => ?_, h.len, h.nd, fun n a e => ?_, h.off, fun n a o' e e' => ?_, fun b u e => ?_, fun n a e => ?_, fun b q => ?_, h.ntb, fun b u e => ?_, tabs_upd h.tab hq⟩
  · have : b ≠ p := fun z => by rw [z] at e; rw [show W.fro p = _ from e] at hf; cases hf
    rw [upd_ne this]; exact h.fro _ _ e
  · rw [upd_ne (ho n a e)]; exact h.alv n a e
  · exact (h.has n a o' e e').lo (W.lo_re _) (upd_ne (ho n a e))
  · have e' : upd h0 p o b = some u := e
    by_cases hb : b = p
    · subst hb; rw [upd_same] at e' ⊢; exact e'
    · rw [upd_ne hb] at e' ⊢; exact h.hid _ _ ((hs b hb).trans e')
  · show upd h0 p o a = none
    rw [upd_ne (ho n a e), ← hs a (ho n a e)]; exact h.hno n a e
  · show W.fro b = none
    by_cases hb : b = p
    · rw [hb]; exact hf
    · have q' : upd h0 p o b ≠ none := q
      rw [upd_ne hb, ← hs b hb] at q'
      exact h.hnf b q'
  · have e' : upd h0 p o b = some u := e
    by_cases hb : b = p
    · rw [hb, upd_same] at e'; cases e'; exact hpo
    · rw [upd_ne hb, ← hs b hb] at e'; exact h.nth _ _ e'
/-- .. it is from here on a thing that stands for ever -/
theorem StR.show {p : Addr} {o : HO} {h0 : Hp} (h : StR g W H s) (hh : W.hid = upd h0 p o) (h0p : h0 p = none) : StR g ⟨upd W.fro p o, W.ob, h0, W.lk⟩ H s := by
  have hp : H p = some o := h.hid p o (by rw [hh, upd_same])
  have ho : ∀ (n : Nat) (a : Addr), W.ob[n]? = some a → a ≠ p := fun n a e z => by
    have := h.hno n a e
    rw [z, hh, upd_same] at this; cases this
  have hf : W.fro p = none := h.hnf p (by rw [hh, upd_same]; simp)
  have lo : W.Lo ⟨upd W.fro p o, W.ob, h0, W.lk⟩ := ⟨Sub.upd hf, rfl, [], by simp⟩
  refine ⟨fun b u e => ?_, h.len, h.nd, h.alv, fun n a o' e e' d => ?_, fun n a o' e e' => (h.has n a o' e e').lo lo rfl, fun b u e => ?_, fun n a e => ?_, fun b q => ?_, fun b u e => ?_, fun b u e => ?_, h.tab⟩
  · have e' : upd W.fro p o b = some u := e
    by_cases hb : b = p
    · subst hb; rw [upd_same] at e'; rw [hp]; exact e'
    · rw [upd_ne hb] at e'; exact h.fro _ _ e'
  · show upd W.fro p o a = none
    rw [upd_ne (ho n a e)]; exact h.off n a o' e e' d
  · refine h.hid b u ?_
    have e' : h0 b = some u := e
    have : b ≠ p := fun z => by rw [z, h0p] at e'; cases e'
    rw [hh, upd_ne this]; exact e'
  · show h0 a = none
    have := h.hno n a e
    rwa [hh, upd_ne (ho n a e)] at this
  · show upd W.fro p o b = none
    have hb : b ≠ p := fun z => q (by show h0 b = none; rw [z]; exact h0p)
    rw [upd_ne hb]
    refine h.hnf b ?_
    rw [hh, upd_ne hb]; exact q
  · have e' : upd W.fro p o b = some u := e
    by_cases hb : b = p
    · rw [hb, upd_same] at e'; cases e'; exact (h.nth p _ (by rw [hh, upd_same])).no
    · rw [upd_ne hb] at e'; exact h.ntb _ _ e'
  · have e' : h0 b = some u := e
    have : b ≠ p := fun z => by rw [z, h0p] at e'; cases e'
    exact h.nth b u (by rw [hh, upd_ne this]; exact e')
/-- .. or a mutable one -/
theorem StR.showO {p : Addr} {o : HO} {h0 : Hp} {m : MO} (h : StR g W H s) (hh : W.hid = upd h0 p o) (h0p : h0 p = none) (r : ORel g ⟨W.fro, W.ob ++ [p], h0, W.lk⟩ H p m) : StR g ⟨W.fro, W.ob ++ [p], h0, W.lk⟩ H (s ++ [m]) := by
  have hp : H p = some o := h.hid p o (by rw [hh, upd_same])
  have ho : ∀ (n : Nat) (a : Addr), W.ob[n]? = some a → a ≠ p := fun n a e z => by
    have := h.hno n a e
    rw [z, hh, upd_same] at this; cases this
  have hf : W.fro p = none := h.hnf p (by rw [hh, upd_same]; simp)
  have lo : W.Lo ⟨W.fro, W.ob ++ [p], h0, W.lk⟩ := ⟨Sub.refl _, rfl, [p], rfl⟩
  have key : ∀ {n : Nat} {a : Addr} {o' : MO}, (W.ob ++ [p])[n]? = some a → (s ++ [m])[n]? = some o' → (W.ob[n]? = some a ∧ s[n]? = some o') ∨ (a = p ∧ o' = m) := by
    intro n a o' e e'
    have hl := h.len
    rcases get_append_one e with q | ⟨q1, q2⟩
    · have : n < s.length := by rw [← hl]; exact (List.getElem?_eq_some_iff.mp q).1
      rw [List.getElem?_append_left this] at e'
      exact .inl ⟨q, e'⟩
    · rcases get_append_one e' with q' | ⟨_, q'⟩
      · have := (List.getElem?_eq_some_iff.mp q').1
        omega
      · exact .inr ⟨q2, q'⟩
  refine ⟨h.fro, by simp [h.len], ?_, fun n a e => ?_, fun n a o' e e' d => ?_, fun n a o' e e' => ?_, fun b u e => ?_, fun n a e => ?_, fun b q => ?_, h.ntb, fun b u e => ?_, h.tab⟩
  · refine List.nodup_append.mpr ⟨h.nd, by simp, fun a ha b hb => ?_⟩
    obtain ⟨n, hn⟩ := List.getElem?_of_mem ha
    have : b = p := by simpa using hb
    rw [this]; exact ho n a hn
  · rcases get_append_one e with q | ⟨_, q⟩
    · exact h.alv n a q
    · rw [q]; exact ⟨o, hp, h.nth p _ (by rw [hh, upd_same])⟩
  · rcases key e e' with ⟨q, q'⟩ | ⟨q, _⟩
    · exact h.off n a o' q q' d
    · rw [q]; exact hf
  · rcases key e e' with ⟨q, q'⟩ | ⟨q, q'⟩
    · exact (h.has n a o' q q').lo lo rfl
    · rw [q, q']; exact r
  · refine h.hid b u ?_
    have e' : h0 b = some u := e
    have : b ≠ p := fun z => by rw [z, h0p] at e'; cases e'
    rw [hh, upd_ne this]; exact e'
  · show h0 a = none
    rcases get_append_one e with q | ⟨_, q⟩
    · have := h.hno n a q
      rwa [hh, upd_ne (ho n a q)] at this
    · rw [q]; exact h0p
  · have hb : b ≠ p := fun z => q (by show h0 b = none; rw [z]; exact h0p)
    show W.fro b = none
    refine h.hnf b ?_
    rw [hh, upd_ne hb]; exact q
  · have e' : h0 b = some u := e
    have : b ≠ p := fun z => by rw [z, h0p] at e'; cases e'
    exact h.nth b u (by rw [hh, upd_ne this]; exact e')
end

/-! ### targets -/
def Same (ix : List Nat) (σ σ' : St) : Prop := σ'.length = σ.length ∧ ∀ j, j ∉ ix → σ'[j]? = σ[j]?
theorem Same.refl (ix : List Nat) (σ : St) : Same ix σ σ := ⟨rfl, fun _ _ => rfl⟩
theorem Same.trans {ix ix' : List Nat} {σ σ' σ'' : St} (a : Same ix σ σ') (b : Same ix' σ' σ'') : Same (ix ++ ix') σ σ'' :=
  ⟨b.1.trans a.1, fun j h => by
    have : j ∉ ix ∧ j ∉ ix' := by simpa [not_or] using h
    rw [b.2 j this.2, a.2 j this.1]⟩
theorem wipe_in {σ : St} {i : Nat} : ∀ {vs : List Nat}, i ∈ vs → i < σ.length → (wipe σ vs)[i]? = some none
  | v :: vs, h, hl => by
    unfold wipe
    by_cases hi : v = i
    · subst hi; rw [List.getElem?_set_self (by rw [wipe_length]; exact hl)]
    · rw [List.getElem?_set_ne hi]
      rcases List.mem_cons.mp h with q | q
      · exact absurd q.symm hi
      · exact wipe_in q hl
theorem Same.wipe {ix vs : List Nat} {σ σ' : St} (h : Same ix σ σ') (hv : ∀ i ∈ ix, i ∈ vs) : wipe σ' vs = wipe σ vs := by
  refine List.ext_getElem? fun j => ?_
  by_cases hj : j ∈ vs
  · by_cases hl : j < σ.length
    · rw [wipe_in hj hl, wipe_in hj (by rw [h.1]; exact hl)]
    · rw [List.getElem?_eq_none (by rw [wipe_length, h.1]; omega), List.getElem?_eq_none (by rw [wipe_length]; omega)]
  · rw [wipe_out hj, wipe_out hj]
    exact h.2 j fun q => hj (hv j q)
abbrev GM := PV → En → S → Option En
abbrev GMs := List PV → En → S → Option En
def mName (i : Nat) : GM := fun x env _ => some (env.set i (some x))
def mNil : GMs := fun xs env _ =>
  match xs with
  | [] => some env
  | _ => none
def mCons (t : GM) (u : GMs) : GMs := fun xs env s =>
  match xs with
  | [] => none
  | x :: r => (t x env s).bind fun env' => u r env' s
def mTup (t : GMs) : GM := fun x env s =>
  match x with
  | .tup xs => t xs env s
  | .wt xs => t xs env s
  | _ => none
def tG (g : G) (ix : List Nat) (m : GM) : TG := fun v σ H Q => ∃ W s env px env', EnvR g.K W env σ ∧ StR g W H s ∧ Rep g.K W px v ∧ m px env s = some env' ∧ ∀ σ', EnvR g.K W env' σ' → Same ix σ σ' → Q σ' H
def tGs (g : G) (ix : List Nat) (n : Nat) (m : GMs) : TGs := fun vs σ H Q => ∃ W s env pxs env', EnvR g.K W env σ ∧ StR g W H s ∧ Reps g.K W pxs vs ∧ m pxs env s = some env' ∧ ∀ σ', EnvR g.K W env' σ' → Same ix σ σ' → Q σ' H
section
variable {X : Cx} {pos : Pos}
theorem pg_weak {e : Expr} {t t' : TG} (h : PG X e t) (w : ∀ v σ H Q, t' v σ H Q → t v σ H Q) : PG X e t' := ⟨fun pins s σ H v u Q I r q => h.run pins s σ H v u Q I r (w v σ H Q q)⟩
theorem pgs_weak {e : List Expr} {t t' : TGs} (h : PGs X e t) (w : ∀ v σ H Q, t' v σ H Q → t v σ H Q) : PGs X e t' := ⟨fun pins s σ H v u Q I r q => h.run pins s σ H v u Q I r (w v σ H Q q)⟩
theorem sg_name {i : Nat} {x : Str} (hN : X.N.Nodup) (hi : X.N[i]? = some x) (hx : Loc X.env.scope x) (hf : X.fn x = true ∨ X.env.scope.names.lookup x = some .local) : PG X (.Name x pos) (tG (gx X) [i] (mName i)) := by
  refine pg_weak (pg_name hN hi hx hf) fun v σ H Q ⟨W, s, env, px, env', he, hs, r, e, h⟩ => ?_
  cases e
  refine h _ (he.set i r) ⟨by simp, fun j hj => ?_⟩
  rw [List.getElem?_set_ne (fun q => hj (by simp [q]))]
theorem sgs_nil : PGs X [] (tGs (gx X) [] 0 mNil) := by
  refine pgs_weak pgs_nil fun v σ H Q ⟨W, s, env, px, env', he, hs, r, e, h⟩ => ?_
  cases px with
  | nil => cases r; cases e; exact ⟨rfl, h σ he (Same.refl _ _)⟩
  | cons _ _ => cases e
theorem sgs_cons {e : Expr} {es : List Expr} {t : GM} {u : GMs} {ix ix' : List Nat} {n : Nat} (h1 : PG X e (tG (gx X) ix t)) (h2 : PGs X es (tGs (gx X) ix' n u))
    (hs : (assignEach (e :: es) X.env).map (·.2) = assign e X.env :: (assignEach es X.env).map (·.2) := by rfl) : PGs X (e :: es) (tGs (gx X) (ix ++ ix') (n + 1) (mCons t u)) := by
  refine pgs_weak (pgs_cons h1 h2 hs) fun v σ H Q ⟨W, s, env, px, env', he, hs, r, e, h⟩ => ?_
  cases px with
  | nil => cases e
  | cons x xs =>
    cases r with
    | cons r0 rr =>
      have e' : ((t x env s).bind fun env' => u xs env' s) = some env' := e
      obtain ⟨e1, q1, q2⟩ := Option.bind_eq_some_iff.mp e'
      exact ⟨_, _, rfl, W, s, env, x, e1, he, hs, r0, q1, fun σ1 he1 m1 => ⟨W, s, e1, xs, env', he1, hs, rr, q2, fun σ2 he2 m2 => h σ2 he2 (m1.trans m2)⟩⟩
theorem mlen {g : G} {ix : List Nat} {n : Nat} {m : GMs} {vs : List V} {σ : St} {H : Hp} {Q : St → Hp → Prop} (h : tGs g ix n m vs σ H Q) : True := trivial
/-- n targets take n items -/
def Arity (n : Nat) (m : GMs) : Prop := ∀ xs env s env', m xs env s = some env' → xs.length = n
theorem ar_nil : Arity 0 mNil := fun xs env s env' e => by cases xs with | nil => rfl | cons _ _ => cases e
theorem ar_cons {t : GM} {u : GMs} {n : Nat} (h : Arity n u) : Arity (n + 1) (mCons t u) := fun xs env s env' e => by
  cases xs with
  | nil => cases e
  | cons x r =>
    have e' : ((t x env s).bind fun env' => u r env' s) = some env' := e
    obtain ⟨e1, q1, q2⟩ := Option.bind_eq_some_iff.mp e'
    simp [h r e1 s env' q2]
theorem sg_tup {es : List Expr} {k : Nat} {t : GMs} {n : Nat} {ix : List Nat} (hc : X.calm = true) (h : PGs X es (tGs (gx X) ix n t)) (ha : Arity n t)
    (hn : (assignEach es X.env).length = n := by rfl) (hst : (assignEach es X.env).findIdx? (·.1) = none := by rfl) : PG X (.Tuple es k pos) (tG (gx X) ix (mTup t)) := by
  refine pg_weak (pg_tup hc h hn hst) fun v σ H Q ⟨W, s, env, px, env', he, hs, r, e, hq⟩ => ?_
  cases px with
  | tup xs =>
    cases r with
    | tup q rr => exact ⟨_, _, rfl, tup_sq hs q, by rw [← rr.length]; exact ha xs env s env' e, W, s, env, xs, env', he, hs, rr, e, hq⟩
  | wt xs =>
    cases r with
    | wt q rr => exact ⟨_, _, rfl, tup_sqT hs q, by rw [← rr.length]; exact ha xs env s env' e, W, s, env, xs, env', he, hs, rr, e, hq⟩
  | _ => cases e
end

/-! ### iterators -/
/-- a mutable list that is walked, its items at the start -/
abbrev Ck := List (Nat × MO)
def ckOk (c : Ck) (s : S) : Prop := ∀ p ∈ c, s[p.1]? = some p.2
theorem ck0 {s : S} : ckOk [] s := fun _ h => nomatch h
theorem ck1 {s : S} {n : Nat} {o : MO} (h : s[n]? = some o) : ckOk [(n, o)] s := fun p hp => by
  have : p = (n, o) := by simpa using hp
  rw [this]; exact h
theorem ck1_of {s : S} {n : Nat} {o : MO} (h : ckOk [(n, o)] s) : s[n]? = some o := h (n, o) (by simp)
theorem ck2 {s : S} {c d : Ck} (h : ckOk c s) (k : ckOk d s) : ckOk (c ++ d) s := fun p hp => (List.mem_append.mp hp).elim (h p) (k p)
abbrev IM := En → S → Rs (List PV × Ck)
def ItOf (g : G) (W : Wd) (J : It) (xs : List PV) (c : Ck) : Prop := ∀ i W' H' s, W.Lo W' → StR g W' H' s → ckOk c s →
  (i < xs.length → J.go i H' ∧ ∀ x H'', J.yld i H' x H'' → ∃ W'', W'.Le W'' ∧ StR g W'' H'' s ∧ ∀ px, xs[i]? = some px → Rep g.K W'' px x) ∧ (xs.length ≤ i → J.stop i H')
def tI (g : G) (Ex : XK) (m : IM) : TI := fun σ H R => ∃ W s env, EnvR g.K W env σ ∧ StR g W H s ∧ Post (m env s) (fun p s' => ∀ W' H' J, W.Le W' → StR g W' H' s' → ItOf g W' J p.1 p.2 → R J H') (XW g W Ex)
def chs (x : Str) : List PV := x.cps.toList.map fun c => .str ⟨#[c]⟩
def itOf (v : PV) (s : S) : Option (List PV × Ck) :=
  match v with
  | .str x => some (chs x, [])
  | .tup xs => some (xs, [])
  | .lst xs => some (xs, [])
  | .scr xs => some (xs, [])
  | .obj n => match s[n]? with
    | some (.lst xs) => some (xs, [(n, .lst xs)])
    | _ => none
  | _ => none
def liftI (o : Option (List PV × Ck)) (s : S) : Rs (List PV × Ck) :=
  match o with
  | some p => .ok p s
  | none => .fail
def iAny (m : EM) : IM := fun env s => (m env s).bind fun v s1 => liftI (itOf v s1) s1
def ups (lo : Int) (n : Nat) : List PV := (List.range n).map fun i => .int (lo + (i : Nat))
def iR1 (m : AM) : IM := fun env s => (m env s).bind fun vs s1 =>
  match vs with
  | [.int j] => if j < 4000000000000000000 ∧ -4000000000000000000 < j then .ok (ups 0 j.toNat, []) s1 else .fail
  | _ => .fail
def iR2 (m : AM) : IM := fun env s => (m env s).bind fun vs s1 =>
  match vs with
  | [.int i, .int j] => if (j < 4000000000000000000 ∧ -4000000000000000000 < j) ∧ (i < 4000000000000000000 ∧ -4000000000000000000 < i) then .ok (ups i (j - i).toNat, []) s1 else .fail
  | _ => .fail
def nums (xs : List PV) : List PV := xs.mapIdx fun i x => .wt [.int (i : Nat), x]
def lsCk (s : S) (v : PV) : Option (List PV × Ck) :=
  match v with
  | .lst xs => some (xs, [])
  | .scr xs => some (xs, [])
  | .obj n => match s[n]? with
    | some (.lst xs) => some (xs, [(n, .lst xs)])
    | _ => none
  | _ => none
def iEn (m : AM) : IM := fun env s => (m env s).bind fun vs s1 =>
  match vs with
  | [v] => liftI ((lsCk s1 v).map fun p => (nums p.1, p.2)) s1
  | _ => .fail

section
variable {X : Cx} {Ex : XK} {g : G} {W : Wd} {tg : Expr}
theorem scr_list {H : Hp} {s : S} {v : PV} {u : V} {xs : List PV} {c : Ck} (hs : StR g W H s) (r : Rep g.K W v u) (e : lsCk s v = some (xs, c)) : ∃ a, u = .ref a ∧ (∃ vs, SqL g.K H a vs) ∧ ckOk c s ∧
    ∀ W' H' s', W.Lo W' → StR g W' H' s' → ckOk c s' → ∃ vs, SqL g.K H' a vs ∧ Reps g.K W' xs vs := by
  cases r with
  | lst h q => cases e; exact ⟨_, rfl, ⟨_, .inl (.inl (hs.fro _ _ h))⟩, ck0, fun W' H' s' l hs' _ => ⟨_, .inl (.inl (hs'.fro _ _ (l.fro _ _ h))), q.lo l⟩⟩
  | scr h q => cases e; exact ⟨_, rfl, ⟨_, hs.fro.sqL h⟩, ck0, fun W' H' s' l hs' _ => ⟨_, (l.fro.trans hs'.fro).sqL h, q.lo l⟩⟩
  | obj h =>
    rename_i a n
    have e' : (match s[n]? with | some (.lst xs) => some (xs, [(n, .lst xs)]) | _ => none) = some (xs, c) := e
    cases hn : s[n]? with
    | none => rw [hn] at e'; cases e'
    | some o =>
      rw [hn] at e'
      cases o with
      | lst ys =>
        cases e'
        cases hs.obj h hn with
        | lst h1 q => exact ⟨a, rfl, ⟨_, .inl (.inl h1)⟩, ck1 hn, fun W' H' s' l hs' ck => by
            cases hs'.obj (l.at h) (ck1_of ck) with
            | lst h2 q2 => exact ⟨_, .inl (.inl h2), q2⟩⟩
      | _ => cases e'
  | _ => cases e
theorem it_list {a : Addr} {xs : List PV} {c : Ck} (h : ∀ W' H' s', W.Lo W' → StR g W' H' s' → ckOk c s' → ∃ vs, SqL g.K H' a vs ∧ Reps g.K W' xs vs) : ItOf g W (Itl g.K a) xs c := by
  intro i W' H' s' l hs' ck
  obtain ⟨vs, hq, r⟩ := h W' H' s' l hs' ck
  refine ⟨fun hi => ?_, fun hi => ⟨vs, hq, by rw [← r.length]; exact hi⟩⟩
  obtain ⟨v, e, rv⟩ := r.get (List.getElem?_eq_getElem hi)
  refine ⟨⟨vs, v, hq, e⟩, fun x H'' y => ?_⟩
  obtain ⟨rfl, y⟩ := y
  have := y vs hq
  rw [e] at this; cases this
  refine ⟨W', Wd.Le.refl _, hs', fun px e' => ?_⟩
  rw [List.getElem?_eq_getElem hi] at e'; cases e'
  exact rv
theorem it_tup {a : Addr} {xs : List PV} {vs : List V} (h : SqT g.K W.fro a vs) (r : Reps g.K W xs vs) : ItOf g W (Itt g.K a) xs [] := by
  intro i W' H' s' l hs' ck
  have hq : SqT g.K H' a vs := (l.fro.trans hs'.fro).sqT h
  have r := r.lo l
  refine ⟨fun hi => ?_, fun hi => ⟨vs, hq, by rw [← r.length]; exact hi⟩⟩
  obtain ⟨v, e, rv⟩ := r.get (List.getElem?_eq_getElem hi)
  refine ⟨⟨vs, v, hq, e⟩, fun x H'' y => ?_⟩
  obtain ⟨rfl, y⟩ := y
  have := y vs hq
  rw [e] at this; cases this
  refine ⟨W', Wd.Le.refl _, hs', fun px e' => ?_⟩
  rw [List.getElem?_eq_getElem hi] at e'; cases e'
  exact rv
theorem it_str {x : Str} : ItOf g W (Its x) (chs x) [] := by
  intro i W' H' s' l hs' ck
  have hl : (chs x).length = x.cps.size := by simp [chs]
  rw [hl]
  refine ⟨fun hi => ⟨hi, fun v H'' y => ?_⟩, fun hi => hi⟩
  obtain ⟨rfl, c, e, rfl⟩ := y
  refine ⟨W', Wd.Le.refl _, hs', fun px e' => ?_⟩
  have : px = .str ⟨#[c]⟩ := by
    simp only [chs, List.getElem?_map, Array.getElem?_toList] at e'
    rw [e] at e'
    exact (Option.some.inj e').symm
  rw [this]; exact .str _
theorem it_rng {lo : Int} {n : Nat} : ItOf g W (Itr lo n) (ups lo n) [] := by
  intro i W' H' s' l hs' ck
  have hl : (ups lo n).length = n := by simp [ups]
  rw [hl]
  refine ⟨fun hi => ⟨hi, fun v H'' y => ?_⟩, fun hi => hi⟩
  obtain ⟨rfl, rfl⟩ := y
  refine ⟨W', Wd.Le.refl _, hs', fun px e' => ?_⟩
  have : px = .int (lo + (i : Nat)) := by
    simp only [ups, List.getElem?_map] at e'
    rw [List.getElem?_range hi] at e'
    exact (Option.some.inj e').symm
  rw [this]; exact .int _
theorem pi_weak {e : Expr} {t t' : TI} (h : PI X tg e t) (w : ∀ σ H R, t' σ H R → t σ H R) : PI X tg e t' := ⟨fun pins s σ H R I q => h.run pins s σ H R I (w σ H R q)⟩
theorem si_any {e : Expr} {m : EM} (he : PE X e (tE (gx X) Ex m)) : PI X tg e (tI (gx X) Ex (iAny m)) := by
  refine ⟨fun pins s σ H R I ⟨W, st, env, hE, hs, h⟩ => ?_⟩
  have hq : ∀ (T : VK), (∀ v s1 W1 H1 u p, m env st = .ok v s1 → W.Le W1 → StR (gx X) W1 H1 s1 → Rep X.K W1 v u → itOf v s1 = some p → (∀ J, ItOf (gx X) W1 J p.1 p.2 → R J H1) → T u H1) → tE (gx X) Ex m σ H T := fun T hT => by
    refine ⟨W, st, env, hE, hs, ?_⟩
    have h1 := h.bind
    cases hm : m env st with
    | ok v s1 =>
      rw [hm] at h1
      have h1 : Post (liftI (itOf v s1) s1) _ _ := h1
      intro W1 H1 u l1 hs1 r1
      cases hi : itOf v s1 with
      | none => rw [hi] at h1; exact h1.elim
      | some p => rw [hi] at h1; exact hT v s1 W1 H1 u p hm l1 hs1 r1 hi fun J q => h1 W1 H1 J l1 hs1 q
    | exc c x s1 => rw [hm] at h1; exact h1
    | fail => rw [hm] at h1; exact h1.elim
  have main : iList X.K (tE (gx X) Ex m) σ H R ∨ iTup X.K (tE (gx X) Ex m) σ H R ∨ iStr (tE (gx X) Ex m) σ H R := by
    cases hm : m env st with
    | ok v s1 =>
      cases v with
      | str x => exact .inr (.inr (hq _ fun v' s1' W1 H1 u p e l1 hs1 r1 hi hJ => by
          rw [hm] at e; cases e; cases hi; cases r1
          exact ⟨x, rfl, hJ _ it_str⟩))
      | tup xs => exact .inr (.inl (hq _ fun v' s1' W1 H1 u p e l1 hs1 r1 hi hJ => by
          rw [hm] at e; cases e; cases hi
          cases r1 with
          | tup h2 r2 => exact ⟨_, rfl, ⟨_, tup_sq hs1 h2⟩, hJ _ (it_tup h2.t r2)⟩))
      | lst xs => exact .inl (hq _ fun v' s1' W1 H1 u p e l1 hs1 r1 hi hJ => by
          rw [hm] at e; cases e
          obtain ⟨a, rfl, hx, ck, q⟩ := scr_list (xs := p.1) (c := p.2) hs1 r1 hi
          exact ⟨a, rfl, hx, hJ _ (it_list q)⟩)
      | scr xs => exact .inl (hq _ fun v' s1' W1 H1 u p e l1 hs1 r1 hi hJ => by
          rw [hm] at e; cases e
          obtain ⟨a, rfl, hx, ck, q⟩ := scr_list (xs := p.1) (c := p.2) hs1 r1 hi
          exact ⟨a, rfl, hx, hJ _ (it_list q)⟩)
      | obj n => exact .inl (hq _ fun v' s1' W1 H1 u p e l1 hs1 r1 hi hJ => by
          rw [hm] at e; cases e
          obtain ⟨a, rfl, hx, ck, q⟩ := scr_list (xs := p.1) (c := p.2) hs1 r1 hi
          exact ⟨a, rfl, hx, hJ _ (it_list q)⟩)
      | _ => exact .inl (hq _ fun v' s1' W1 H1 u p e l1 hs1 r1 hi hJ => by rw [hm] at e; cases e; cases hi)
    | exc c x s1 => exact .inl (hq _ fun v' s1' W1 H1 u p e => by rw [hm] at e; cases e)
    | fail => exact .inl (hq _ fun v' s1' W1 H1 u p e => by rw [hm] at e; cases e)
  rcases main with q | q | q
  · exact (pi_list he).run pins s σ H R I q
  · exact (pi_tup he).run pins s σ H R I q
  · exact (pi_str he).run pins s σ H R I q
theorem si_range1 {a : Expr} {m : AM} {p pos : Pos} (hg : Gl X "range") (hm : X.mg "range" = none) (ha : PA X [a] (tA (gx X) Ex m)) (hs : starEach [a] X.env = [(false, eval a X.env)] := by rfl) : PI X tg (.Call (.Name "range" p) [a] [] pos) (tI (gx X) Ex (iR1 m)) := by
  refine pi_weak (pi_range1 hg hm ha hs) fun σ H R ⟨W, st, env, hE, hs, h⟩ => ?_
  refine tA_bind hE hs h fun vs s1 W1 H1 us l1 he1 hs1 r1 h1 => ?_
  split at h1
  · rename_i j
    split at h1
    · rename_i hj
      cases r1 with
      | cons r rr =>
        cases rr; cases r
        exact ⟨j, rfl, by omega, by omega, h1 W1 H1 _ l1 hs1 it_rng⟩
    · exact h1.elim
  · exact h1.elim
theorem si_range2 {a b : Expr} {m : AM} {p pos : Pos} (hg : Gl X "range") (hm : X.mg "range" = none) (ha : PA X [a, b] (tA (gx X) Ex m)) (hs : starEach [a, b] X.env = [(false, eval a X.env), (false, eval b X.env)] := by rfl) (hs2 : starEach [b] X.env = [(false, eval b X.env)] := by rfl) :
    PI X tg (.Call (.Name "range" p) [a, b] [] pos) (tI (gx X) Ex (iR2 m)) := by
  refine pi_weak (pi_range2 hg hm ha hs hs2) fun σ H R ⟨W, st, env, hE, hs, h⟩ => ?_
  refine tA_bind hE hs h fun vs s1 W1 H1 us l1 he1 hs1 r1 h1 => ?_
  split at h1
  · rename_i i j
    split at h1
    · rename_i hj
      cases r1 with
      | cons r rr =>
        cases r
        cases rr with
        | cons r rr =>
          cases rr; cases r
          exact ⟨i, j, rfl, by omega, h1 W1 H1 _ l1 hs1 it_rng⟩
    · exact h1.elim
  · exact h1.elim
theorem it_enum {a : Addr} {xs : List PV} {c : Ck} (h : ∀ W' H' s', W.Lo W' → StR g W' H' s' → ckOk c s' → ∃ vs, SqL g.K H' a vs ∧ Reps g.K W' xs vs) : ItOf g W (Ite g.K a) (nums xs) c := by
  intro i W' H' s' l hs' ck
  obtain ⟨vs, hq, r⟩ := h W' H' s' l hs' ck
  have hl : (nums xs).length = xs.length := by simp [nums]
  rw [hl]
  refine ⟨fun hi => ?_, fun hi => ⟨vs, hq, by rw [← r.length]; exact hi⟩⟩
  obtain ⟨v, e, rv⟩ := r.get (List.getElem?_eq_getElem hi)
  refine ⟨⟨vs, v, hq, e⟩, fun x H'' y => ?_⟩
  obtain ⟨T, x', rfl, hT, rfl, y⟩ := y
  have := y vs hq
  rw [e] at this; cases this
  have l2 : W'.Le ⟨upd W'.fro T (.tup [.int (i : Nat), v]), W'.ob, W'.hid, W'.lk⟩ := hs'.le_new hT
  refine ⟨_, l2, hs'.new hT, fun px e' => ?_⟩
  have : px = .wt [.int (i : Nat), xs[i]] := by
    simp only [nums, List.getElem?_mapIdx] at e'
    rw [List.getElem?_eq_getElem hi] at e'
    exact (Option.some.inj e').symm
  rw [this]
  exact .wt (.inl (.inl upd_same)) (.cons (.int _) (.cons (rv.mono l2) .nil))
theorem si_enum {e : Expr} {m : AM} {p pos tpos : Pos} {elts : List Expr} {kk : Nat} (hg : Gl X "enumerate") (hm : X.mg "enumerate" = none) (ha : PA X [e] (tA (gx X) Ex m)) (hs : starEach [e] X.env = [(false, eval e X.env)] := by rfl) :
    PI X (.Tuple elts kk tpos) (.Call (.Name "enumerate" p) [e] [] pos) (tI (gx X) Ex (iEn m)) := by
  refine pi_weak (pi_enum hg hm ha hs) fun σ H R ⟨W, st, env, hE, hs, h⟩ => ?_
  refine tA_bind hE hs h fun vs s1 W1 H1 us l1 he1 hs1 r1 h1 => ?_
  split at h1
  · rename_i v
    cases r1 with
    | cons r rr =>
      cases rr
      cases hi : lsCk s1 v with
      | none => rw [hi] at h1; exact h1.elim
      | some p =>
        rw [hi] at h1
        obtain ⟨a, rfl, ⟨ws, hx⟩, ck, q⟩ := scr_list (xs := p.1) (c := p.2) hs1 r hi
        exact ⟨a, ws, rfl, hx, h1 W1 H1 _ l1 hs1 (it_enum q)⟩
  · exact h1.elim
end
end Z

set_option Elab.async false
set_option linter.all false
set_option maxRecDepth 100000
set_option maxHeartbeats 4000000
/-! Z8: statements, loops, list comprehensions. -/
namespace Z
open PySem PySem.Spec L2
variable [LamT]

def sNil : SM := fun env s => .ok (.nx env) s
def flK (k : SM) (f : Fl) (s : S) : Rs Fl :=
  match f with
  | .nx e => k e s
  | .ret v => .ok (.ret v) s
  | .brk e => .ok (.brk e) s
  | .cnt e => .ok (.cnt e) s
def sSeq (a b : SM) : SM := fun env s => (a env s).bind (flK b)
def sBrk : SM := fun env s => .ok (.brk env) s
def sCnt : SM := fun env s => .ok (.cnt env) s
def sRet (m : EM) : SM := fun env s => (m env s).bind fun v s1 => .ok (.ret v) s1
def sRetN : SM := fun env s => .ok (.ret .non) s
def sIf (t : TM) (a b : SM) : SM := fun env s => (t env s).bind fun c s1 => if c then a env s1 else b env s1
def sExpr (m : EM) : SM := fun env s => (m env s).bind fun _ s1 => .ok (.nx env) s1
def liftE (o : Option En) (s : S) : Rs Fl :=
  match o with
  | some e => .ok (.nx e) s
  | none => .fail
def sAsg (m : EM) (t : GM) : SM := fun env s => (m env s).bind fun v s1 => liftE (t v env s1) s1
def sAsg2 (m : EM) (t t' : GM) : SM := fun env s => (m env s).bind fun v s1 => liftE ((t v env s1).bind fun e => t' v e s1) s1
def sPar (i j : Nat) (m : AM) : SM := fun env s => (m env s).bind fun vs s1 =>
  match vs with
  | [a, b] => .ok (.nx ((env.set i (some a)).set j (some b))) s1
  | _ => .fail
def sPar3 (i j l : Nat) (m : AM) : SM := fun env s => (m env s).bind fun vs s1 =>
  match vs with
  | [a, b, c] => .ok (.nx (((env.set i (some a)).set j (some b)).set l (some c))) s1
  | _ => .fail
def sDead : SM := fun _ _ => .fail
/-- in-place operators by values, no list -/
def sAug (i : Nat) (f : O2) (m : EM) : SM := fun env s =>
  match env[i]? with
  | some (some x) => (m env s).bind fun y s1 => (lift (f x y s1)).bind fun z s2 => .ok (.nx (env.set i (some z))) s2
  | _ => .fail
def sWhile (t : TM) (b : SM) : Nat → SM
  | 0 => fun _ _ => .fail
  | n + 1 => fun env s => (t env s).bind fun c s1 => if c then (b env s1).bind fun f s2 =>
      match f with
      | .nx e => sWhile t b n e s2
      | .cnt e => sWhile t b n e s2
      | .brk e => .ok (.nx e) s2
      | .ret v => .ok (.ret v) s2
    else .ok (.nx env) s1
open Classical in
noncomputable def forL (c : Ck) (t : GM) (b : SM) : List PV → En → S → Rs Fl
  | [], env, s => if ckOk c s then .ok (.nx env) s else .fail
  | x :: xs, env, s => if ckOk c s then
      match t x env s with
      | none => .fail
      | some e1 => (b e1 s).bind fun f s2 =>
        match f with
        | .nx e => forL c t b xs e s2
        | .cnt e => forL c t b xs e s2
        | .brk e => .ok (.nx e) s2
        | .ret v => .ok (.ret v) s2
    else .fail
noncomputable def sFor (it : IM) (t : GM) (b : SM) : SM := fun env s => (it env s).bind fun p s1 => forL p.2 t b p.1 env s1

section
variable {X : Cx} {Ex : XK} {pos : Pos} {st : Stmt} {rest : List Stmt} {a b : SM} {e : Expr} {m : EM}
theorem FlC.ends {g : G} {W : Wd} {D D' : Ends} {f : Fl} {s : S} (h : FlC g W D f s) (n : ∀ σ H, D.nx σ H → D'.nx σ H) (r : ∀ v H, D.rt v H → D'.rt v H) (k : ∀ σ H, D.bk σ H → D'.bk σ H) (c : ∀ σ H, D.ct σ H → D'.ct σ H) : FlC g W D' f s := by
  cases f with
  | nx env => exact fun W' H' σ' l q p => n _ _ (h W' H' σ' l q p)
  | ret v => exact fun W' H' σ' l q p => r _ _ (h W' H' σ' l q p)
  | brk env => exact fun W' H' σ' l q p => k _ _ (h W' H' σ' l q p)
  | cnt env => exact fun W' H' σ' l q p => c _ _ (h W' H' σ' l q p)
theorem sss_nil : PSs X [] (tS (gx X) Ex sNil) := pss_weak pss_nil fun D σ H ⟨W, s, env, he, hs, h⟩ => h W H σ (Wd.Le.refl W) hs he
theorem sss_cons (h1 : PS X st (tS (gx X) Ex a)) (h2 : PSs X rest (tS (gx X) Ex b)) : PSs X (st :: rest) (tS (gx X) Ex (sSeq a b)) := by
  refine pss_weak (pss_cons h1 h2) fun D σ H ⟨W, s, env, he, hs, h⟩ => ⟨W, s, env, he, hs, h.bind.mono (fun f s1 q => ?_) fun _ _ _ z => z⟩
  cases f with
  | nx e => exact fun W' H' σ' l q' p => ⟨W', s1, e, p, q', Post.mono q (fun f s z => z.mono l) fun _ _ _ z => z.mono l⟩
  | ret v => exact q
  | brk e => exact q
  | cnt e => exact q
theorem sss_one (h1 : PS X st (tS (gx X) Ex a)) : PSs X [st] (tS (gx X) Ex a) := pss_one h1
theorem ss_dead : PS X st (tS (gx X) Ex sDead) := ps_weak ps_never fun D σ H ⟨W, s, env, he, hs, h⟩ => h
theorem sss_dead {sts : List Stmt} : PSs X sts (tS (gx X) Ex sDead) := pss_weak pss_never fun D σ H ⟨W, s, env, he, hs, h⟩ => h
theorem ss_pass : PS X (.Pass pos) (tS (gx X) Ex sNil) := ps_weak ps_pass fun D σ H ⟨W, s, env, he, hs, h⟩ => h W H σ (Wd.Le.refl W) hs he
theorem ss_doc {x j pos'} : PS X (.Expr (.Constant (.str x) j pos) pos') (tS (gx X) Ex sNil) := ps_weak ps_doc fun D σ H ⟨W, s, env, he, hs, h⟩ => h W H σ (Wd.Le.refl W) hs he
theorem ss_break : PS X (.Break pos) (tS (gx X) Ex sBrk) := ps_weak ps_break fun D σ H ⟨W, s, env, he, hs, h⟩ => h W H σ (Wd.Le.refl W) hs he
theorem ss_continue : PS X (.Continue pos) (tS (gx X) Ex sCnt) := ps_weak ps_continue fun D σ H ⟨W, s, env, he, hs, h⟩ => h W H σ (Wd.Le.refl W) hs he
theorem ss_expr (he : PE X e (tE (gx X) Ex m)) (hsw : swapsWith e none pos.line X.env = pure false := by rfl) : PS X (.Expr e pos) (tS (gx X) Ex (sExpr m)) := by
  refine ps_weak (ps_expr he hsw) fun D σ H ⟨W, s, env, hE, hs, h⟩ => ?_
  exact tE_bind hE hs h fun v s1 W1 H1 u l1 he1 hs1 r1 h1 => h1 W1 H1 σ l1 hs1 he1
theorem ss_ret (he : PE X e (tE (gx X) Ex m)) : PS X (.Return (some e) pos) (tS (gx X) Ex (sRet m)) := by
  refine ps_weak (ps_ret he) fun D σ H ⟨W, s, env, hE, hs, h⟩ => ?_
  exact tE_bind hE hs h fun v s1 W1 H1 u l1 he1 hs1 r1 h1 => h1 W1 H1 u l1 hs1 r1
theorem ss_retN : PS X (.Return none pos) (tS (gx X) Ex sRetN) := ps_weak ps_retN fun D σ H ⟨W, s, env, hE, hs, h⟩ => h W H _ (Wd.Le.refl W) hs .non
theorem ss_if {c : Expr} {p q : List Stmt} {t : TM} (hc : PT X c (tT (gx X) Ex t)) (ha : PSs X p (tS (gx X) Ex a)) (hb : PSs X q (tS (gx X) Ex b)) : PS X (.If c p q pos) (tS (gx X) Ex (sIf t a b)) := by
  refine ps_weak (ps_if hc ha hb) fun D σ H ⟨W, s, env, hE, hs, h⟩ => ?_
  refine tT_bind hE hs h fun k s1 W1 H1 l1 he1 hs1 h1 => ?_
  cases k with
  | true => rw [if_pos rfl]; exact ⟨W1, s1, env, he1, hs1, Post.mono h1 (fun f s z => z.mono l1) fun _ _ _ z => z⟩
  | false => rw [if_neg Bool.false_ne_true]; exact ⟨W1, s1, env, he1, hs1, Post.mono h1 (fun f s z => z.mono l1) fun _ _ _ z => z⟩
theorem liftE_ok {g : G} {W : Wd} {D : Ends} {o : Option En} {s : S} {E : Str → PV → S → Prop} (h : Post (liftE o s) (FlC g W D) E) : ∃ e, o = some e ∧ ∀ W' H' σ', W.Le W' → StR g W' H' s → EnvR g.K W' e σ' → D.nx σ' H' := by
  cases o with
  | none => exact h.elim
  | some e => exact ⟨e, rfl, h⟩
theorem ss_asg {tg : Expr} {t : GM} {ix : List Nat} (he : PE X e (tE (gx X) Ex m)) (hg : PG X tg (tG (gx X) ix t)) (hsw : swapsWithSole [tg] e pos.line X.env = pure false := by rfl) (hw : swappedStores [tg] e X.env = pure none := by rfl)
    (h1 : (assignEach [tg] X.env).map (·.2) = [assign tg X.env] := by rfl) : PS X (.Assign [tg] e pos) (tS (gx X) Ex (sAsg m t)) := by
  refine ps_weak (ps_asg he hg hsw hw h1) fun D σ H ⟨W, s, env, hE, hs, h⟩ => ?_
  refine tE_bind hE hs h fun v s1 W1 H1 u l1 he1 hs1 r1 h1 => ?_
  obtain ⟨e', q, hn⟩ := liftE_ok h1
  exact ⟨W1, s1, env, v, e', he1, hs1, r1, q, fun σ' p _ => hn W1 H1 σ' l1 hs1 p⟩
theorem ss_set {i : Nat} {x : Str} {pos' : Pos} (hN : X.N.Nodup) (hi : X.N[i]? = some x) (hx : Loc X.env.scope x) (hf : X.fn x = true ∨ X.env.scope.names.lookup x = some .local) (he : PE X e (tE (gx X) Ex m)) (hsw : swapsWith e (some (.Name x pos')) pos.line X.env = pure false := by rfl) :
    PS X (.Assign [.Name x pos'] e pos) (tS (gx X) Ex (sAsg m (mName i))) := by
  refine ps_weak (ps_set hN hi hx he hsw hf) fun D σ H ⟨W, s, env, hE, hs, h⟩ => ?_
  refine tE_bind hE hs h fun v s1 W1 H1 u l1 he1 hs1 r1 h1 => ?_
  obtain ⟨e', q, hn⟩ := liftE_ok h1
  cases q
  exact hn W1 H1 _ l1 hs1 (he1.set i r1)
theorem ss_par {i j : Nat} {x y : Str} {p q : Expr} {px py pt : Pos} {kt k2 pt2} {ms : AM} (hc : X.calm = true) (hN : X.N.Nodup) (hi : X.N[i]? = some x) (hj : X.N[j]? = some y) (hij : i ≠ j)
    (hx : X.env.scope.names.lookup x = some .local) (hy : X.env.scope.names.lookup y = some .local) (ha : PA X [p, q] (tA (gx X) Ex ms))
    (hw : swappedStores [.Tuple [.Name x px, .Name y py] kt pt] (.Tuple [p, q] k2 pt2) X.env = pure (some [x, y]) := by rfl)
    (hsw : swapsWithSole [.Tuple [.Name x px, .Name y py] kt pt] (.Tuple [p, q] k2 pt2) pos.line X.env = pure false := by rfl) :
    PS X (.Assign [.Tuple [.Name x px, .Name y py] kt pt] (.Tuple [p, q] k2 pt2) pos) (tS (gx X) Ex (sPar i j ms)) := by
  refine ps_weak (ps_par hc hN hi hj hij hx hy ha hw hsw) fun D σ H ⟨W, s, env, hE, hs, h⟩ => ?_
  refine tA_bind hE hs h fun vs s1 W1 H1 us l1 he1 hs1 r1 h1 => ?_
  split at h1
  · cases r1 with
    | cons r rr =>
      cases rr with
      | cons r' rr => cases rr; exact ⟨_, _, rfl, h1 W1 H1 _ l1 hs1 ((he1.set i r).set j r')⟩
  · exact h1.elim
theorem ss_par3 {i j l : Nat} {x y z : Str} {p q r : Expr} {px py pz pt : Pos} {kt k2 pt2} {ms : AM} (hc : X.calm = true) (hN : X.N.Nodup) (hi : X.N[i]? = some x) (hj : X.N[j]? = some y) (hl : X.N[l]? = some z) (hij : i ≠ j) (hil : i ≠ l) (hjl : j ≠ l)
    (hx : X.env.scope.names.lookup x = some .local) (hy : X.env.scope.names.lookup y = some .local) (hz : X.env.scope.names.lookup z = some .local) (ha : PA X [p, q, r] (tA (gx X) Ex ms))
    (hw : swappedStores [.Tuple [.Name x px, .Name y py, .Name z pz] kt pt] (.Tuple [p, q, r] k2 pt2) X.env = pure (some [x, y, z]) := by rfl)
    (hsw : swapsWithSole [.Tuple [.Name x px, .Name y py, .Name z pz] kt pt] (.Tuple [p, q, r] k2 pt2) pos.line X.env = pure false := by rfl) :
    PS X (.Assign [.Tuple [.Name x px, .Name y py, .Name z pz] kt pt] (.Tuple [p, q, r] k2 pt2) pos) (tS (gx X) Ex (sPar3 i j l ms)) := by
  refine ps_weak (ps_par3 hc hN hi hj hl hij hil hjl hx hy hz ha hw hsw) fun D σ H ⟨W, s, env, hE, hs, h⟩ => ?_
  refine tA_bind hE hs h fun vs s1 W1 H1 us l1 he1 hs1 r1 h1 => ?_
  split at h1
  · cases r1 with
    | cons r rr =>
      cases rr with
      | cons r' rr =>
        cases rr with
        | cons r'' rr => cases rr; exact ⟨_, _, _, rfl, h1 W1 H1 _ l1 hs1 (((he1.set i r).set j r').set l r'')⟩
  · exact h1.elim
theorem ss_while {c : Expr} {body : List Stmt} {t : TM} (n : Nat) (hp : PassesOwn (model X.prog X.w) X.A X.env X.xe) (hc : PT X c (tT (gx X) Ex t)) (hb : PSs X body (tS (gx X) Ex b)) : PS X (.While c body [] pos) (tS (gx X) Ex (sWhile t b n)) := by
  refine ps_weak (ps_while hp hc hb) fun D σ H ⟨W, s, env, hE, hs, h⟩ => ?_
  refine ⟨fun k σ H => ∃ W' s env, W.Le W' ∧ EnvR X.K W' env σ ∧ StR (gx X) W' H s ∧ Post (sWhile t b k env s) (FlC (gx X) W' D) (XW (gx X) W' Ex), ⟨n, W, s, env, Wd.Le.refl W, hE, hs, h⟩, ?_⟩
  rintro k σ H ⟨W, s, env, l0, hE, hs, h⟩
  cases k with
  | zero => exact h.elim
  | succ k =>
    refine tT_bind hE hs h fun c s1 W1 H1 l1 he1 hs1 h1 => ?_
    cases c with
    | false => rw [if_neg Bool.false_ne_true]; exact h1 W1 H1 σ l1 hs1 he1
    | true =>
      rw [if_pos rfl]
      have h1 : Post ((b env s1).bind _) _ _ := h1
      refine ⟨_, fun σ' H' q => ⟨k, Nat.lt_succ_self k, q⟩, W1, s1, env, he1, hs1, h1.bind.mono (fun f s2 q => ?_) fun _ _ _ z => z⟩
      cases f with
      | nx e => exact fun W' H' σ' l q' p => ⟨W', s2, e, (l0.trans l1).trans l, p, q', Post.mono q (fun f s z => z.mono (l1.trans l)) fun _ _ _ z => z.mono l⟩
      | cnt e => exact fun W' H' σ' l q' p => ⟨W', s2, e, (l0.trans l1).trans l, p, q', Post.mono q (fun f s z => z.mono (l1.trans l)) fun _ _ _ z => z.mono l⟩
      | brk e => exact fun W' H' σ' l q' p => q W' H' σ' (l1.trans l) q' p
      | ret v => exact fun W' H' σ' l q' p => q W' H' σ' (l1.trans l) q' p
theorem ss_for {tg iter : Expr} {body : List Stmt} {it : IM} {t : GM} {ix : List Nat} (hp : PassesOwn (model X.prog X.w) X.A X.env X.xe) (hc : X.calm = true) (hi : PI X tg iter (tI (gx X) Ex it)) (hg : PG X tg (tG (gx X) ix t)) (hb : PSs X body (tS (gx X) Ex b))
    (hfs : ∀ x, foldedSetIterable iter X.env x = pure x := by intro _; rfl) : PS X (.For tg iter body [] pos) (tS (gx X) Ex (sFor it t b)) := by
  refine ps_weak (ps_for hp hc hi hg hb hfs) fun D σ H ⟨W, s, env, hE, hs, h⟩ => ?_
  refine ⟨W, s, env, hE, hs, h.bind.mono (fun p s1 h1 W1 H1 J l1 hs1 hJ => ?_) fun _ _ _ z => z⟩
  obtain ⟨xs, c⟩ := p
  refine ⟨fun i k σ H => k = xs.length - i ∧ i ≤ xs.length ∧ ∃ W' s env, W1.Le W' ∧ EnvR X.K W' env σ ∧ StR (gx X) W' H s ∧ Post (forL c t b (xs.drop i) env s) (FlC (gx X) W' D) (XW (gx X) W' Ex),
    ⟨_, rfl, Nat.zero_le _, W1, s1, env, Wd.Le.refl W1, hE.mono l1, hs1, Post.mono h1 (fun f s z => z.mono l1) fun _ _ _ z => z.mono l1⟩, ?_⟩
  rintro i k σ H ⟨rfl, hle, W2, s2, env2, l2, he2, hs2, h2⟩
  by_cases hi : i < xs.length
  · right
    rw [List.drop_eq_getElem_cons hi] at h2
    unfold forL at h2
    split at h2
    · rename_i hck
      split at h2
      · exact h2.elim
      · rename_i e1 ht
        obtain ⟨g1, y1⟩ := (hJ i W2 H s2 l2.lo hs2 hck).1 hi
        refine ⟨g1, _, fun σ' H' q => ⟨xs.length - (i + 1), by omega, q⟩, fun x H' y => ?_⟩
        obtain ⟨W3, l3, hs3, r3⟩ := y1 x H' y
        refine ⟨W3, s2, env2, xs[i], e1, he2.mono l3, hs3, r3 _ (List.getElem?_eq_getElem hi), ht, fun σ' he' _ => ?_⟩
        refine ⟨W3, s2, e1, he', hs3, h2.bind.mono (fun f s4 q => ?_) fun _ _ _ z => z.mono l3⟩
        cases f with
        | nx e => exact fun W' H' σ' l q' p => ⟨rfl, hi, W', s4, e, (l2.trans l3).trans l, p, q', Post.mono q (fun f s z => z.mono (l3.trans l)) fun _ _ _ z => z.mono (l3.trans l)⟩
        | cnt e => exact fun W' H' σ' l q' p => ⟨rfl, hi, W', s4, e, (l2.trans l3).trans l, p, q', Post.mono q (fun f s z => z.mono (l3.trans l)) fun _ _ _ z => z.mono (l3.trans l)⟩
        | brk e => exact fun W' H' σ' l q' p => q W' H' σ' (l3.trans l) q' p
        | ret v => exact fun W' H' σ' l q' p => q W' H' σ' (l3.trans l) q' p
    · exact h2.elim
  · left
    rw [List.drop_eq_nil_of_le (by omega)] at h2
    unfold forL at h2
    split at h2
    · rename_i hck
      exact ⟨(hJ i W2 H s2 l2.lo hs2 hck).2 (show xs.length ≤ i by omega), h2 W2 H σ (Wd.Le.refl _) hs2 he2⟩
    · exact h2.elim
end

/-! ### list comprehensions -/
def wipeE (env : En) : List Nat → En
  | [] => env
  | v :: vs => (wipeE env vs).set v none
theorem EnvR.wipe {K : PySem.W.Frag} {W : Wd} {env : En} {σ : St} (h : EnvR K W env σ) : ∀ vs : List Nat, EnvR K W (wipeE env vs) (wipe σ vs)
  | [] => h
  | v :: vs => by unfold wipeE L2.wipe; exact (h.wipe vs).unset v
def noX {α : Type} (r : Rs α) : Rs α :=
  match r with
  | .exc _ _ _ => .fail
  | r => r
theorem Post.noX {α : Type} {r : Rs α} {Q : α → S → Prop} {E E' : Str → PV → S → Prop} (h : Post (noX r) Q E) : Post r Q E' := by
  cases r with
  | ok a s => exact h
  | exc c x s => exact h.elim
  | fail => exact h
theorem noX_bind {α β : Type} {r : Rs α} {k : α → S → Rs β} {Q : β → S → Prop} {E : Str → PV → S → Prop} (h : Post ((noX r).bind k) Q E) (E' : Str → PV → S → Prop) : Post r (fun a s => Post (k a s) Q E) E' := Post.noX h.bind
open Classical in
noncomputable def lcL (c : Ck) (t : GM) (ts : TM) (e : EM) (env : En) : List PV → S → Rs (List PV)
  | [], s => if ckOk c s then .ok [] s else .fail
  | x :: xs, s => if ckOk c s then
      match t x env s with
      | none => .fail
      | some e1 => (noX (ts e1 s)).bind fun k s1 => if k then (noX (e e1 s1)).bind fun y s2 => (lcL c t ts e env xs s2).bind fun ys s3 => .ok (y :: ys) s3 else lcL c t ts e env xs s1
    else .fail
noncomputable def eLc (mu : Bool) (it : IM) (t : GM) (ts : TM) (e : EM) (vs : List Nat) : EM := fun env s => (it env s).bind fun p s1 =>
  if p.1.length ≤ 16000000 then (lcL p.2 t ts e (wipeE env vs) p.1 s1).bind fun ys s2 => lift (newL mu ys s2) else .fail
def tYesM : TM := fun _ s => .ok true s
abbrev noK : XK := fun _ _ _ => False
section
variable {X : Cx} {Ex : XK} {pos : Pos} {e : Expr}
theorem sts_nil : PTs X [] (tT (gx X) Ex tYesM) := ⟨fun pins s σ H Q I ⟨W, st, env, hE, hs, h⟩ => pts_nil.run pins s σ H Q I (h W H (Wd.Le.refl W) hs)⟩
theorem sts_one {c : Expr} {t : TM} (h : PT X c (tT (gx X) Ex t)) : PTs X [c] (tT (gx X) Ex t) := pts_one h
theorem tLc_of {g : G} {mu : Bool} {it : IM} {ix vs : List Nat} {t : GM} {ts : TM} {m : EM} (hv : ∀ i ∈ ix, i ∈ vs) {σ : L2.St} {H : Hp} {Q : VK} (h : tE g Ex (eLc mu it t ts m vs) σ H Q) : tLc (tI g Ex it) (tG g ix t) (tT g noK ts) (tE g noK m) vs σ H Q := by
  obtain ⟨W, s, env, hE, hs, h⟩ := h
  refine ⟨W, s, env, hE, hs, h.bind.mono (fun p s1 h1 W1 H1 J l1 hs1 hJ => ?_) fun _ _ _ z => z⟩
  obtain ⟨xs, c⟩ := p
  split at h1
  · rename_i hbig
    have hbig : xs.length ≤ 16000000 := hbig
    intro D hD
    have hf : W1.fro D = none := hs1.fro.free hD
    have hh : W1.hid D = none := hs1.hid.free hD
    have hob : ∀ (n : Nat) (a : Addr), W1.ob[n]? = some a → a ≠ D := fun n a q z => hs1.alive n a q (z ▸ hD)
    refine ⟨fun i k H => k = xs.length - i ∧ i ≤ xs.length ∧ ∃ W2 s2 acc us, W1.Lo W2 ∧ W2.hid = upd W1.hid D (.lst us) ∧ StR g W2 H s2 ∧ Reps g.K W2 acc us ∧ acc.length ≤ i ∧
      Post ((lcL c t ts m (wipeE env vs) (xs.drop i) s2).bind fun ys s3 => lift (newL mu (acc ++ ys) s3)) (fun v s' => Cont g W Q v s') (XW g W Ex), ⟨_, rfl, Nat.zero_le _, W1.re (upd W1.hid D (.lst [])), s1, [], [], W1.lo_re _, rfl, hs1.hide hf hob (fun _ _ => rfl) (fun u q => by rw [hD] at q; cases q), .nil, Nat.le_refl _, by simpa using h1⟩, ?_⟩
    rintro i k H ⟨rfl, hle, W2, s2, acc, us, l2, hhid, hs2, racc, hacc, h2⟩
    by_cases hi : i < xs.length
    · right
      rw [List.drop_eq_getElem_cons hi] at h2
      unfold lcL at h2
      split at h2
      · rename_i hck
        split at h2
        · exact h2.elim
        · rename_i e1 ht
          obtain ⟨g1, y1⟩ := (hJ i W2 H s2 l2 hs2 hck).1 hi
          refine ⟨g1, _, fun H' q => ⟨xs.length - (i + 1), by omega, q⟩, fun x H' y => ?_⟩
          obtain ⟨W3, l3, hs3, r3⟩ := y1 x H' y
          have he3 : EnvR g.K W3 (wipeE env vs) (wipe σ vs) := ((hE.mono l1).lo (l2.trans l3.lo)).wipe vs
          refine ⟨W3, s2, _, xs[i], e1, he3, hs3, r3 _ (List.getElem?_eq_getElem hi), ht, fun σ' he' sm => ?_⟩
          have hw : wipe σ' vs = wipe σ vs := by
            have hww := sm.wipe hv
            rw [hww]
            refine List.ext_getElem? fun j => ?_
            by_cases hj : j ∈ vs
            · by_cases hl : j < σ.length
              · rw [wipe_in hj (by rw [wipe_length]; exact hl), wipe_in hj hl]
              · rw [List.getElem?_eq_none (by rw [wipe_length, wipe_length]; omega), List.getElem?_eq_none (by rw [wipe_length]; omega)]
            · rw [wipe_out hj]
          refine ⟨hw, ?_⟩
          have h3 := noX_bind h2.bind (XW g W3 noK)
          refine ⟨W3, s2, e1, he', hs3, h3.mono (fun b s4 h4 W4 H4 l4 hs4 => ?_) fun _ _ _ z => z⟩
          cases b with
          | false =>
            rw [if_neg Bool.false_ne_true]
            refine ⟨rfl, hi, W4, s4, acc, us, (l2.trans l3.lo).trans l4.lo, l4.hid.trans (l3.hid.trans hhid), hs4, racc.lo (l3.lo.trans l4.lo), by omega, ?_⟩
            rw [if_neg Bool.false_ne_true] at h4
            exact Post.of_bind h4
          | true =>
            rw [if_pos rfl]
            rw [if_pos rfl] at h4
            have h5 := noX_bind h4 (XW g W4 noK)
            refine ⟨W4, s4, e1, he'.mono l4, hs4, h5.mono (fun y s5 h6 W5 H5 u l5 hs5 r5 => ?_) fun _ _ _ z => z⟩
            have hid5 : W5.hid = upd W1.hid D (.lst us) := l5.hid.trans (l4.hid.trans (l3.hid.trans hhid))
            have hD5 : H5 D = some (.lst us) := hs5.hid D _ (by rw [hid5, upd_same])
            have racc5 : Reps g.K W5 acc us := racc.lo (l3.lo.trans (l4.lo.trans l5.lo))
            refine ⟨us, hD5, ?_, ?_⟩
            · rw [← racc.length]
              rw [sizeLine_eq]; omega
            · have hf5 : W5.fro D = none := hs5.hnf D (by rw [hid5, upd_same]; simp)
              have hob5 : ∀ (n : Nat) (a : Addr), W5.ob[n]? = some a → a ≠ D := fun n a q z => by
                have := hs5.hno n a q
                rw [z, hid5, upd_same] at this; cases this
              have hs6 := hs5.hide (o := .lst (us ++ [u])) (h0 := W1.hid) hf5 hob5 (fun b hb => by rw [hid5, upd_ne hb]) (fun u q => by first | (rw [hD5] at q; cases q; exact True.intro) | (rw [hD6] at q; cases q; exact True.intro) | (rw [hD10] at q; cases q; exact True.intro))
              have lo6 := W5.lo_re (upd W1.hid D (.lst (us ++ [u])))
              refine ⟨rfl, hi, _, s5, acc ++ [y], us ++ [u], ((l2.trans l3.lo).trans (l4.lo.trans l5.lo)).trans lo6, rfl, hs6, (racc5.append (.cons r5 .nil)).lo lo6, by simp; omega, ?_⟩
              refine Post.of_bind (h6.bind.mono (fun ys s7 h7 => ?_) fun _ _ _ z => z)
              have h7 : Post (lift (newL mu (acc ++ (y :: ys)) s7)) _ _ := h7
              rw [List.append_assoc]
              exact h7
      · exact h2.elim
    · left
      have h2' := h2
      rw [List.drop_eq_nil_of_le (by omega)] at h2
      unfold lcL at h2
      split at h2
      · rename_i hck
        refine ⟨(hJ i W2 H s2 l2 hs2 hck).2 (show xs.length ≤ i by omega), ?_⟩
        have h2 : Post (lift (newL mu (acc ++ []) s2)) _ _ := h2
        obtain ⟨v, s3, e3, hc3⟩ := h2.lift
        rw [List.append_nil] at e3
        unfold newL at e3
        split at e3
        · cases mu with
          | true =>
            cases e3
            have l3 : W2.Lo ⟨W2.fro, W2.ob ++ [D], W1.hid, W2.lk⟩ := ⟨Sub.refl _, rfl, [D], rfl⟩
            have hs3 := hs2.showO (m := .lst acc) hhid hh (.lst (hs2.hid D _ (by rw [hhid, upd_same])) (racc.lo l3))
            exact hc3 _ _ _ (l1.trans ⟨(l2.trans l3).fro, rfl, (l2.trans l3).lk, (l2.trans l3).ob⟩) hs3 (.obj (by rw [← hs2.len]; simp))
          | false =>
            cases e3
            have hf2 : W2.fro D = none := hs2.hnf D (by rw [hhid, upd_same]; simp)
            have l3 : W2.Lo ⟨upd W2.fro D (.lst us), W2.ob, W1.hid, W2.lk⟩ := ⟨Sub.upd hf2, rfl, [], by simp⟩
            have hs3 := hs2.show hhid hh
            exact hc3 _ _ _ (l1.trans ⟨(l2.trans l3).fro, rfl, (l2.trans l3).lk, (l2.trans l3).ob⟩) hs3 (.lst upd_same (racc.lo l3))
        · cases e3
      · exact h2.elim
  · exact h1.elim
theorem se_lc {elt tg iter : Expr} {ifs : List Expr} {scope : Scope} {own : List (Str × Nat)} {it : IM} {t : GM} {ts : TM} {m : EM} {ix : List Nat} (mu : Bool) (hc : X.calm = true) (hN : X.N.Nodup) (hi : PI X tg iter (tI (gx X) Ex it)) (ok : BlkOk X.N X.env.scope scope own)
    (hg : ∀ (s : Shared) (H : Hp) (C : Addr) (cl : List (Str × Addr)) (fp : List Addr), PG (X.blk s H scope (compEnvC scope cl C X.env) fp) tg (tG (gx X) ix t)) (ht : ∀ (s : Shared) (H : Hp) (C : Addr) (cl : List (Str × Addr)) (fp : List Addr), PTs (X.blk s H scope (compEnvC scope cl C X.env) fp) ifs (tT (gx X) noK ts))
    (he : ∀ (s : Shared) (H : Hp) (C : Addr) (cl : List (Str × Addr)) (fp : List Addr), PE (X.blk s H scope (compEnvC scope cl C X.env) fp) elt (tE (gx X) noK m)) (hv : ∀ i ∈ ix, i ∈ own.map (·.2) := by decide) (hfs : ∀ x, foldedSetIterable iter X.env x = pure x := by intro _; rfl) :
    PE X (.ListComp elt [⟨tg, iter, ifs, 0⟩] scope pos) (tE (gx X) Ex (eLc mu it t ts m (own.map (·.2)))) :=
  pe_weak (pe_lc hc hN hi ok hg ht he hfs) fun σ H Q h => tLc_of hv h
theorem ss_setLc {i : Nat} {y : Str} {py : Pos} {elt tg iter : Expr} {ifs : List Expr} {scope : Scope} {own : List (Str × Nat)} {spos : Pos} {it : IM} {t : GM} {ts : TM} {m : EM} {ix : List Nat} (mu : Bool) (hc : X.calm = true) (hN : X.N.Nodup) (hy : X.N[i]? = some y) (hyl : X.env.scope.names.lookup y = some .local)
    (hsw : swapsWith (.ListComp elt [⟨tg, iter, ifs, 0⟩] scope pos) (some (.Name y py)) spos.line X.env = pure true) (hi : PI X tg iter (tI (gx X) Ex it)) (ok : BlkOk X.N X.env.scope scope own)
    (hg : ∀ (s : Shared) (H : Hp) (C : Addr) (cl : List (Str × Addr)) (fp : List Addr), PG (X.blk s H scope (compEnvC scope cl C X.env) fp) tg (tG (gx X) ix t)) (ht : ∀ (s : Shared) (H : Hp) (C : Addr) (cl : List (Str × Addr)) (fp : List Addr), PTs (X.blk s H scope (compEnvC scope cl C X.env) fp) ifs (tT (gx X) noK ts))
    (he : ∀ (s : Shared) (H : Hp) (C : Addr) (cl : List (Str × Addr)) (fp : List Addr), PE (X.blk s H scope (compEnvC scope cl C X.env) fp) elt (tE (gx X) noK m)) (hv : ∀ i ∈ ix, i ∈ own.map (·.2) := by decide) (hfs : ∀ x, foldedSetIterable iter X.env x = pure x := by intro _; rfl) :
    PS X (.Assign [.Name y py] (.ListComp elt [⟨tg, iter, ifs, 0⟩] scope pos) spos) (tS (gx X) Ex (sAsg (eLc mu it t ts m (own.map (·.2))) (mName i))) := by
  refine ps_weak (ps_setLc hc hN hy hyl hsw hi ok hg ht he hfs) fun D σ H ⟨W, s, env, hE, hs, h⟩ => ?_
  refine tLc_of (mu := mu) (ts := ts) hv ?_
  refine tE_bind hE hs h fun v s1 W1 H1 u l1 he1 hs1 r1 h1 => ?_
  obtain ⟨e', q, hn⟩ := liftE_ok h1
  cases q
  exact hn W1 H1 _ l1 hs1 (he1.set i r1)
end
end Z

set_option Elab.async false
set_option linter.all false
set_option maxRecDepth 100000
set_option maxHeartbeats 4000000
/-! Z9: defs, calls, the end of a law. A def's promise is asked only where no repr is under way. -/
namespace Z
open PySem PySem.Spec PyProof.Rows L2
variable [LamT]

abbrev FM := List PV → S → Rs PV
def startE (N : List Str) (vs : List PV) : En := vs.map some ++ List.replicate (N.length - vs.length) none
def flEnd (f : Fl) (s : S) : Rs PV :=
  match f with
  | .nx _ => .ok .non s
  | .ret v => .ok v s
  | _ => .fail
/-- a def by its body -/
def fnM (n : Nat) (N : List Str) (m : SM) : FM := fun vs s => if vs.length = n then (m (startE N vs) s).bind flEnd else .fail
def spZ (g : G) (f : FM) : Sp := fun vs H Q E => ∃ W s pvs, Reps g.K W pvs vs ∧ StR g W H s ∧ Post (f pvs s) (Cont g W Q) (XW g W E)

structure FnZ (P : Program) (w : World) (K : PySem.W.Frag) (mg : Str → Option Value) (base : Heap) (CX : CXT) (k : Nat) (a : Addr) (fd : FuncData) (ps : List Str) (f : FM) : Prop where
  arity : ∀ pvs s, pvs.length ≠ ps.length → f pvs s = .fail
  runs : ∀ (A : Around) (outer : List Env) (sh : Shared) (H : Hp) (args : Args) (us : List Value) (vs : List V) (Q : VK) (E : XK), Room k A → A.guards = some [] → Env0 P w K mg base A outer sh H → BindsTo sh fd args (ps.zip us) → Vals vs us → spZ ⟨K, mg⟩ f vs H Q E →
    codeAny (model P w) A (.call (.ref a) args) (CR CX outer P w H sh Q E) sh

section
variable {P : Program} {w : World} {K : PySem.W.Frag} {mg : Str → Option Value} {base : Heap} {CX : CXT} {k : Nat} {a : Addr} {fd : FuncData} {ps : List Str} {f : FM}
theorem FnZ.up {j : Nat} (F : FnZ P w K mg base CX j a fd ps f) (h : j ≤ k) : FnZ P w K mg base CX k a fd ps f :=
  ⟨F.arity, fun A outer sh H args us vs Q E hr => F.runs A outer sh H args us vs Q E (hr.mono h)⟩
theorem EnvR.start {W : Wd} {N : List Str} {pvs : List PV} {vs : List V} (r : Reps K W pvs vs) : EnvR K W (startE N pvs) (start N vs) := by
  have hl := r.length
  refine ⟨by simp [startE, L2.start, hl], fun i v e => ?_⟩
  unfold startE at e
  unfold L2.start
  by_cases hi : i < pvs.length
  · rw [List.getElem?_append_left (by simpa using hi), List.getElem?_map] at e
    cases q : pvs[i]? with
    | none => rw [q] at e; cases e
    | some x =>
      rw [q] at e; cases e
      obtain ⟨u, e', ru⟩ := r.get q
      exact ⟨u, by rw [List.getElem?_append_left (by simp; omega), List.getElem?_map, e']; rfl, ru⟩
  · rw [List.getElem?_append_right (by simpa using hi), List.getElem?_replicate] at e
    split at e <;> cases e
/-- THE RULE: a def by its body -/
theorem fnz_of {x qual : Str} {params : Arguments} {body : List Stmt} {scope : Scope} {dvs : List V} {kws : List (Str × V)} {N : List Str} {m : SM} (F : FunD K x qual params body scope dvs kws a fd) (Sc : FnScope N ps scope)
    (hb : ∀ (cdv : Value) (A : Around) (outer : List Env) (sh : Shared) (H : Hp) (E : XK), Room k (A.deeper (envOfC qual scope sh.heap.objs.size a cdv)) → (A.deeper (envOfC qual scope sh.heap.objs.size a cdv)).guards = some [] →
      PSs (cxOf CX P w K mg base N qual scope a cdv A outer sh H E) body (tS ⟨K, mg⟩ E m)) : FnZ P w K mg base CX (k + 1) a fd ps (fnM ps.length N m) := by
  obtain ⟨oc, od, dV, kV, doc, pm, an, cdv, ct, osl, rfl, lk, hcd, _, _⟩ := F.ex
  refine ⟨fun pvs s h => if_neg h, fun A outer sh H args us vs Q E room gd e0 bd rel hsp => ?_⟩
  obtain ⟨W, s, pvs, rp, st, post⟩ := hsp
  unfold fnM at post
  by_cases hn : pvs.length = ps.length
  case neg => rw [if_neg hn] at post; exact post.elim
  rw [if_pos hn] at post
  have hlen : vs.length = ps.length := by rw [← rp.length]; exact hn
  have kin := e0.mod.kin.keeps fun b o e => (e0.bs b o e).1
  have names : ∀ y ∈ ps.zip us, scope.names.lookup y.1 = some .local ∨ (scope.names.lookup y.1 = some .cell ∧ ((cellsFrom (sh.heap.objs.size + 1) scope.names []).lookup y.1).isSome = true) := by
    rintro ⟨n, v⟩ hy
    rcases Sc.par n (List.of_mem_zip hy).1 with q | q
    · exact .inl q
    · exact .inr ⟨q, PySem.W.cellsFrom_some _ _ _ (.inl q)⟩
  refine codeAny_call_function room.depth (kin _ _ lk) rfl Sc.co Sc.gen rfl (PySem.W.codeRec_of kin hcd) (bd _ _ _ _ (wpAny_newFunctionEnv_cells Sc.kind names fun env he s1 inn => ?_))
  subst he
  refine ⟨(e0.mod.nolimit.keeps fun b o e => (e0.bs b o e).1).keeps inn.toInCall.keep, codeAny_func ?_⟩
  have start := inv_start (CX := CX) (E := E) Sc room.hd e0 hlen rel inn
  have body := (hb cdv A outer sh H E (room.deeper _) gd).run [] s1 (L2.start N vs) H { nx := fun _ H' => Q .non H', rt := Q } start
    ⟨W, s, startE N pvs, EnvR.start rp, st, post.bind.mono (fun fl s' q => by
      cases fl with
      | nx e => exact fun W' H' σ' l hs _ => q W' H' .non l hs .non
      | ret v => exact q
      | brk e => exact q.elim
      | cnt e => exact q.elim) fun _ _ _ z => z⟩
  refine wpAny_mono body (fun fl s' fin => ?_) fun e s' h => h
  cases fl with
  | ret u => obtain ⟨v, σ', H', J, rv, q⟩ := fin; exact ⟨v, H', J.os, J.bare, J.base, J.hok, rv, q⟩
  | next => obtain ⟨σ', H', J, q⟩ := fin; exact ⟨.non, H', J.os, J.bare, J.base, J.hok, rfl, q⟩
  | brk => obtain ⟨_, _, _, q⟩ := fin; exact q.elim
  | cont => obtain ⟨_, _, _, q⟩ := fin; exact q.elim
end

/-! ### calls -/
def eCall (f : FM) (m : AM) : EM := fun env s => (m env s).bind fun vs s1 => f vs s1
section
variable {X : Cx} {CX : CXT} {k : Nat} {a : Addr} {fd : FuncData} {ps : List Str} {f : FM} {Ex : XK} {x : Str} {p pos : Pos} {e : Expr} {es : List Expr} {m : AM}
theorem call_fz {pins : List (Addr × Obj)} {σ : L2.St} {H : Hp} {sh : Shared} {Q : VK} {us : List Value} {vs : List V} (F : FnZ X.prog X.w X.K X.mg X.base CX k a fd ps f) (hr : Room k X.A) (gd : X.A.guards = some []) (hb : Binds X.K fd ps []) (hx : Passes CX X Ex)
    (I : Inv X pins σ H sh) (r : Vals vs us) (h : spZ (gx X) f vs H Q Ex) : wpAny (model X.prog X.w) X.A (call (.ref a) us) (EP X pins σ Q) X.xe sh := by
  have hlen : (us ++ []).length = ps.length := by
    obtain ⟨W, s, pvs, rp, st, post⟩ := h
    rw [List.append_nil, ← r.length, ← rp.length]
    by_cases hn : pvs.length = ps.length
    · exact hn
    · rw [F.arity _ _ hn] at post; exact post.elim
  have hbd := hb sh us I.kIn hlen
  rw [List.append_nil] at hbd
  refine wpAny_call (codeAny_mono (F.runs X.A X.stack sh H ⟨us, []⟩ us vs Q Ex hr gd I.env0 hbd r h) fun res s' fin => ?_)
  cases res with
  | error err => exact hx pins σ H sh err s' I fin
  | ok fl =>
    cases fl with
    | ret u => exact I.after fin
    | next => exact fin.elim
    | brk => exact fin.elim
    | cont => exact fin.elim
theorem spz_of {m : AM} {σ : L2.St} {H : Hp} {Q : VK} (h : tE (gx X) Ex (eCall f m) σ H Q) : tA (gx X) Ex m σ H fun vs H1 => spZ (gx X) f vs H1 Q Ex := by
  obtain ⟨W, s, env, he, hs, h⟩ := h
  exact tA_bind he hs h fun xs s1 W1 H1 us l1 he1 hs1 r1 h1 => ⟨W1, s1, xs, r1, hs1, h1.mono (fun _ _ z => z.mono l1) fun _ _ _ z => z⟩
theorem se_call (F : FnZ X.prog X.w X.K X.mg X.base CX k a fd ps f) (hr : Room k X.A) (gd : X.A.guards = some []) (hg : Gl X x) (hm : X.mg x = some (.ref a)) (hk : PySem.W.keepIn X.K (.ref a) = true) (hb : Binds X.K fd ps []) (hx : Passes CX X Ex)
    (ha : PA X (e :: es) (tA (gx X) Ex m)) (hdb : (x == ("__debug__" : Str)) = false := by decide) (he : starEach (e :: es) X.env = (false, eval e X.env) :: starEach es X.env := by rfl) (hpl : (backTo pos (starEach es X.env)).any (·.1) = false := by rfl) :
    PE X (.Call (.Name x p) (e :: es) [] pos) (tE (gx X) Ex (eCall f m)) := by
  refine ⟨fun pins sh σ H Q I h => wpAny_Call_Name_kw (ld_glob I hg hm ?_ hdb)⟩
  exact PySem.W.callWith_K (h₀ := X.base) I.ok.mod.kin hk (thn (ha.run pos pins sh σ H _ I (spz_of h)) fun us s1 ⟨vs, H1, I1, r, q⟩ => ⟨I1.kIn, call_fz F hr gd hb hx I1 r q⟩) he hpl
theorem se_call0 (F : FnZ X.prog X.w X.K X.mg X.base CX k a fd ps f) (hr : Room k X.A) (gd : X.A.guards = some []) (hg : Gl X x) (hm : X.mg x = some (.ref a)) (hk : PySem.W.keepIn X.K (.ref a) = true) (hb : Binds X.K fd ps []) (hx : Passes CX X Ex)
    (hdb : (x == ("__debug__" : Str)) = false := by decide) : PE X (.Call (.Name x p) [] [] pos) (tE (gx X) Ex (eCall f aNil)) := by
  refine ⟨fun pins sh σ H Q I h => wpAny_Call_Name_kw (ld_glob I hg hm ?_ hdb)⟩
  have q := spz_of (X := X) (m := aNil) h
  obtain ⟨W, s, env, he, hs, post⟩ := q
  exact PySem.W.callWith_K0 I.kIn hk (call_fz (us := []) F hr gd hb hx I .nil (post W H [] (Wd.Le.refl W) hs .nil))
/-- keywords' values -/
theorem sk_nil : PK X [] (tA (gx X) Ex aNil) := ⟨fun pos pins sh σ H Q I ⟨W, s, env, he, hs, h⟩ => pk_nil.run pos pins sh σ H Q I (h W H [] (Wd.Le.refl W) hs .nil)⟩
theorem sk_cons {e : Expr} {kws : List Keyword} {nm : Option Str} {kpos : Pos} {m : EM} {ms : AM} (ha : PE X e (tE (gx X) Ex m)) (hr : PK X kws (tA (gx X) Ex ms)) : PK X (⟨nm, e, kpos⟩ :: kws) (tA (gx X) Ex (aCons m ms)) := by
  refine ⟨fun pos pins sh σ H Q I ⟨W, s, env, he, hs, h⟩ => (pk_cons (nm := nm) (kpos := kpos) ha hr).run pos pins sh σ H Q I ?_⟩
  refine tE_bind he hs h fun x s1 W1 H1 u l1 he1 hs1 r1 h1 => ?_
  refine tA_bind he1 hs1 h1 fun xs s2 W2 H2 us l2 he2 hs2 r2 h2 => ?_
  exact h2 W2 H2 _ (l1.trans l2) hs2 (.cons (r1.mono l2) r2)
/-- n values by place, the rest by keyword in any order: the order is ix's -/
def pick (ix : List Nat) (n : Nat) {α : Type} (us ws : List α) : List α := us ++ ix.filterMap fun i => ws[i]?
def eCallK (f : FM) (ix : List Nat) (n : Nat) (m mk : AM) : EM := fun env s => (m env s).bind fun vs s1 => (mk env s1).bind fun zs s2 => if vs.length = n ∧ zs.length = ix.length then f (pick ix n vs zs) s2 else .fail
theorem reps_pick {K : PySem.W.Frag} {W : Wd} {ix : List Nat} {n : Nat} {us ws : List PV} {vs zs : List V} (r : Reps K W us vs) (q : Reps K W ws zs) : Reps K W (pick ix n us ws) (pick ix n vs zs) := by
  refine r.append ?_
  induction ix with
  | nil => exact .nil
  | cons i ix ih =>
    simp only [List.filterMap_cons]
    cases e : ws[i]? with
    | none =>
      have : zs[i]? = none := by
        rw [List.getElem?_eq_none_iff] at e ⊢
        rw [← q.length]; exact e
      rw [this]; exact ih
    | some x =>
      obtain ⟨v, e', rv⟩ := q.get e
      rw [e']; exact .cons rv ih
theorem vals_pick {ix : List Nat} {n : Nat} {us ws : List Value} {vs zs : List V} (r : Vals vs us) (q : Vals zs ws) : Vals (pick ix n vs zs) (pick ix n us ws) := by
  refine r.append ?_
  induction ix with
  | nil => exact .nil
  | cons i ix ih =>
    simp only [List.filterMap_cons]
    cases e : zs[i]? with
    | none =>
      have : ws[i]? = none := by
        rw [List.getElem?_eq_none_iff] at e ⊢
        rw [← q.length]; exact e
      rw [this]; exact ih
    | some x =>
      obtain ⟨v, e', rv⟩ := q.get e
      rw [e']; exact .cons rv ih
/-- how such a call binds -/
def KBz (K : PySem.W.Frag) (fd : FuncData) (ps ks : List Str) (ix : List Nat) (n : Nat) : Prop :=
  ∀ (sh : Shared) (us ws : List Value), K.In sh.heap → us.length = n → ws.length = ks.length → BindsTo sh fd ⟨us, ks.zip ws⟩ (ps.zip (pick ix n us ws))
theorem call_fzk {pins : List (Addr × Obj)} {σ : L2.St} {H : Hp} {sh : Shared} {Q : VK} {us ws : List Value} {vs zs : List V} {ks : List Str} {ix : List Nat} {n : Nat} (F : FnZ X.prog X.w X.K X.mg X.base CX k a fd ps f) (hr : Room k X.A) (gd : X.A.guards = some []) (hb : KBz X.K fd ps ks ix n) (hx : Passes CX X Ex)
    (I : Inv X pins σ H sh) (r : Vals vs us) (rz : Vals zs ws) (h1 : vs.length = n) (h2 : zs.length = ks.length) (h : spZ (gx X) f (pick ix n vs zs) H Q Ex) : wpAny (model X.prog X.w) X.A (call (.ref a) us (ks.zip ws)) (EP X pins σ Q) X.xe sh := by
  refine wpAny_call (codeAny_mono (F.runs X.A X.stack sh H ⟨us, ks.zip ws⟩ (pick ix n us ws) (pick ix n vs zs) Q Ex hr gd I.env0 (hb sh us ws I.kIn (by rw [← r.length]; exact h1) (by rw [← rz.length]; exact h2)) (vals_pick r rz) h) fun res s' fin => ?_)
  cases res with
  | error err => exact hx pins σ H sh err s' I fin
  | ok fl =>
    cases fl with
    | ret u => exact I.after fin
    | next => exact fin.elim
    | brk => exact fin.elim
    | cont => exact fin.elim
theorem spzk_of {m mk : AM} {ix : List Nat} {n : Nat} {σ : L2.St} {H : Hp} {Q : VK} (h : tE (gx X) Ex (eCallK f ix n m mk) σ H Q) : tA (gx X) Ex m σ H fun vs H1 => tA (gx X) Ex mk σ H1 fun zs H2 => (vs.length = n ∧ zs.length = ix.length) ∧ spZ (gx X) f (pick ix n vs zs) H2 Q Ex := by
  obtain ⟨W, s, env, he, hs, h⟩ := h
  refine tA_bind he hs h fun xs s1 W1 H1 us l1 he1 hs1 r1 h1 => ?_
  refine tA_bind he1 hs1 h1 fun ys s2 W2 H2 ws l2 he2 hs2 r2 h2 => ?_
  split at h2
  · rename_i hl
    exact ⟨⟨by rw [← r1.length]; exact hl.1, by rw [← r2.length]; exact hl.2⟩, W2, s2, _, reps_pick (r1.mono l2) r2, hs2, h2.mono (fun _ _ z => z.mono (l1.trans l2)) fun _ _ _ z => z⟩
  · exact h2.elim
theorem se_callK {kws : List Keyword} {mk : AM} {ks : List Str} {ix : List Nat} {n : Nat} (F : FnZ X.prog X.w X.K X.mg X.base CX k a fd ps f) (hr : Room k X.A) (gd : X.A.guards = some []) (hg : Gl X x) (hm : X.mg x = some (.ref a)) (hk : PySem.W.keepIn X.K (.ref a) = true) (hb : KBz X.K fd ps ks ix n) (hx : Passes CX X Ex) (hix : ix.length = ks.length)
    (ha : PA X (e :: es) (tA (gx X) Ex m)) (hkw : PK X kws (tA (gx X) Ex mk)) (hall : (backToKw pos (keywordEach kws X.env)).all (·.1.isSome) = true := by rfl) (hks : (backToKw pos (keywordEach kws X.env)).filterMap (·.1) = ks := by rfl)
    (hdb : (x == ("__debug__" : Str)) = false := by decide) (he : starEach (e :: es) X.env = (false, eval e X.env) :: starEach es X.env := by rfl)
    (hpl : ((backTo pos (starEach (e :: es) X.env)).any (·.1) || (backToKw pos (keywordEach kws X.env)).any (·.1.isNone)) = false := by rfl) : PE X (.Call (.Name x p) (e :: es) kws pos) (tE (gx X) Ex (eCallK f ix n m mk)) := by
  refine ⟨fun pins sh σ H Q I h => wpAny_Call_Name_kw (ld_glob I hg hm ?_ hdb)⟩
  refine PySem.W.callWith_KW (h₀ := X.base) I.ok.mod.kin hk hall (thn (ha.run pos pins sh σ H _ I (spzk_of h)) fun us s1 ⟨vs, H1, I1, r, q⟩ => ?_) hpl he
  refine thn (hkw.run pos pins s1 σ H1 _ I1 q) fun ws s2 ⟨zs, H2, I2, rz, q2⟩ => ⟨I2.kIn, ?_⟩
  rw [hks]
  exact call_fzk F hr gd hb hx I2 r rz q2.1.1 (by rw [← hix]; exact q2.1.2) q2.2
end
/-- no exception ever leaves a def -/
def CXN : CXT := fun _ _ _ _ _ _ => False
theorem passN {X : Cx} {Ex : XK} : Passes CXN X Ex := fun _ _ _ _ _ _ _ h => h.elim

/-! ### the end -/
theorem end_call {P : Program} {w : World} {K : PySem.W.Frag} {mg mb : Str → Option Value} {CX : CXT} {k : Nat} {f a : Addr} {fd : FuncData} {x : Str} {m : FM} {sh : Shared} {vs : List Value} {ns : List Int}
    (KX : K.In sh.heap) (hns : sh.heap.Ns mainGlobals mg) (hbn : sh.heap.Ns builtinsNs mb) (hbb : ∀ y : Str, y ≠ "__name__" → mb y = bootBuiltins y) (hlim : sh.heap.NoLimit) (hgn : sh.gens = #[])
    (ha : sh.heap.get? a = some { cls := .type "list", data := .seq vs.toArray }) (hi : IntsAre vs ns) (hl : ns.length ≤ sizeLine) (hr : Room k callerA)
    (F : ∀ base : Heap, K.In base → base.Ns mainGlobals mg → FnZ P w K mg base CX k f fd [x] m) (hbind : ∀ (s : Shared) (u : Value), BindsTo s fd ⟨[u], []⟩ [(x, u)])
    (hT : LamT.T = []) (hm : Post (m [.scr (ns.map .int)] []) (fun v _ => v = .bl true) fun _ _ _ => False) (hCX : ∀ H e s', CX [] H sh (fun _ _ _ => False) e s' → False) :
    codeAny (model P w) callerA (.call (.ref f) ⟨[.ref a], []⟩) (fun r s' => r = .ok (.ret (.bool true)) ∧ OldK sh.heap s'.heap ∧ s'.os = sh.os ∧ AllBare s'.gens) sh := by
  have reps : ∀ (W : Wd) (l : List Int), Reps K W (l.map .int) (l.map V.int) := fun W l => by
    induction l with
    | nil => exact .nil
    | cons n l ih => exact .cons (.int n) ih
  -- the heap H in which at most the script stands, known to its object
  have go : ∀ H : Hp, (∀ b u, H b = some u → b = a ∧ u = .frz { cls := .type "list", data := .seq vs.toArray } (.lst (ns.map V.int)) ∧ K.lookup a = none) → SqL K H a (ns.map V.int) → HOk P w H sh.heap →
      codeAny (model P w) callerA (.call (.ref f) ⟨[.ref a], []⟩) (fun r s' => r = .ok (.ret (.bool true)) ∧ OldK sh.heap s'.heap ∧ s'.os = sh.os ∧ AllBare s'.gens) sh := by
    intro H only scr hok
    have out : ∀ {b : Addr} {o : Obj}, sh.heap.get? b = some o → H b = none → (hidT sh.heap H).get? b = some o := fun e n => hidT_get e n
    have dicts : ∀ {b : Addr} {o : Obj} {es : Array DictEntry} {ep : Nat}, sh.heap.get? b = some o → o.data = .dict es ep → H b = none := fun {b o es ep} e d => by
      rcases hq : H b with _ | u
      · rfl
      · obtain ⟨rfl, _, _⟩ := only b u hq
        rw [ha] at e; cases e; cases d
    have nss : ∀ {b : Addr} {mm : Str → Option Value}, sh.heap.Ns b mm → (hidT sh.heap H).Ns b mm := fun {b mm} ⟨o, es, ep, e, d, r⟩ => ⟨o, es, ep, out e (dicts e d), d, r⟩
    have kin : K.In (hidT sh.heap H) := fun b o e => out (KX b o e) (by
      rcases hq : H b with _ | u
      · rfl
      · obtain ⟨rfl, _, hk⟩ := only b u hq
        rw [hk] at e; cases e)
    have md : Mod K mg (hidT sh.heap H) := ⟨kin, nss hns, ⟨mb, nss hbn, hbb⟩, let ⟨mc, h1, h2⟩ := hlim; ⟨mc, nss h1, h2⟩⟩
    have e0 : Env0 P w K mg (hidT sh.heap H) callerA [] sh H := ⟨rfl, md, fun b o e => of_hidT e, Nat.le_of_eq (hidT_size _ _), trivial, fun b hb => (nomatch hb), hok, .of_eq hgn⟩
    have st : StR ⟨K, mg⟩ ⟨H, [], fun _ => none, fun _ => none⟩ H [] := ⟨Sub.refl _, rfl, List.nodup_nil, fun n a e => by simp at e, fun n a o e => by simp at e, fun n a o e => by simp at e, fun b u e => (by cases e), fun n a e => rfl, fun b q => absurd rfl q, fun b u e => by obtain ⟨_, rfl, _⟩ := only b u e; exact True.intro, fun b u e => (by cases e), by rw [hT]; exact fun _ z => nomatch z⟩
    refine codeAny_mono ((F _ kin (nss hns)).runs callerA [] sh H ⟨[.ref a], []⟩ [.ref a] [.ref a] (fun v _ => v = .bl true) (fun _ _ _ => False) hr rfl e0 (hbind sh (.ref a)) (.cons rfl .nil)
      ⟨⟨H, [], fun _ => none, fun _ => none⟩, [], [.scr (ns.map .int)], .cons (.scr scr (reps _ ns)) .nil, st, hm.mono (fun v s q W' H' u l hs r => by subst q; cases r; rfl) fun _ _ _ z => z.elim⟩) fun r s' h => ?_
    cases r with
    | error e => exact (hCX H e s' h).elim
    | ok fl =>
      cases fl with
      | next => exact h.elim
      | brk => exact h.elim
      | cont => exact h.elim
      | ret u =>
        obtain ⟨v, H', os, bare, un, hok', r', rfl⟩ := h
        obtain rfl : u = Value.bool true := r'
        refine ⟨rfl, OldK.of_keep fun b o e => ?_, os, bare⟩
        rcases hq : H b with _ | u
        · exact un.keep b o e hq (by intro z; exact nomatch z) (by simp)
        · obtain ⟨rfl, rfl, _⟩ := only b u hq
          obtain ⟨e2, _⟩ := hok' b _ (un.frzs b _ _ hq)
          rw [ha] at e; cases e
          exact e2
  have rv := vals_ints hi
  rcases hk : K.lookup a with _ | o
  · have hz : (fun b => if b = a then some (HO.frz { cls := .type "list", data := .seq vs.toArray } (.lst (ns.map V.int))) else none : Hp) a = some (HO.frz { cls := .type "list", data := .seq vs.toArray } (.lst (ns.map V.int))) := if_pos rfl
    have inv : ∀ b u, (fun b => if b = a then some (HO.frz { cls := .type "list", data := .seq vs.toArray } (.lst (ns.map V.int))) else none : Hp) b = some u → b = a ∧ u = HO.frz { cls := .type "list", data := .seq vs.toArray } (.lst (ns.map V.int)) := fun b u e => by
      by_cases hb : b = a
      · have e' := (if_pos hb).symm.trans e
        cases e'; exact ⟨hb, rfl⟩
      · have e' := (if_neg hb).symm.trans e
        cases e'
    refine go _ (fun b u e => ⟨(inv b u e).1, (inv b u e).2, hk⟩) (.inl (.inr ⟨_, hz⟩)) fun b u e => ?_
    obtain ⟨rfl, rfl⟩ := inv b u e
    exact ⟨ha, by rw [List.length_map]; exact hl, vs, _, rv, ha⟩
  · have e := KX a o hk
    rw [ha] at e
    cases e
    exact go (fun _ => none) (fun b u z => by cases z) (.inr ⟨_, vs.toArray, _, hk, rfl, rfl, rfl, by rw [List.size_toArray, hi.length]; exact hl, by simpa using rv⟩) fun b u z => by cases z
theorem end_law {l : PySem.W.OpenLaw} {n k : Nat} {q : Program} {loose : List Str} {XP : (Str → Option Value) → Heap → Prop} {YP : World → Heap → Prop} {d : DefRec} {CX : CXT} {x : Str}
    (hn : l.most = some n) (hn2 : n ≤ sizeLine) (hdf : d.params.defaults = []) (hr : Room k callerA)
    (F : ∀ (w : World) (mg : Str → Option Value) (f : Addr) (h : Heap), YP w h → h.Ns mainGlobals mg → mg d.name = some (.ref f) →
      ∃ (K : PySem.W.Frag) (fd : FuncData) (m : FM), K.In h ∧ (∀ (s : Shared) (u : Value), BindsTo s fd ⟨[u], []⟩ [(x, u)]) ∧
        (∀ ns : List Int, ns.length ≤ n → Post (m [.scr (ns.map .int)] []) (fun v _ => v = .bl true) fun _ _ _ => False) ∧
        ∀ base : Heap, K.In base → base.Ns mainGlobals mg → FnZ l.prog w K mg base CX k f fd [x] m)
    (hT : LamT.T = []) (hCX : ∀ (H : Hp) (s : Shared) (e : Value) (s' : Shared), CX [] H s (fun _ _ _ => False) e s' → False) :
    PySem.W.WalkO q loose XP YP l.row.toRowW d [] (fun f vs => PySem.call f vs) := by
  refine Att.attach_call hn hdf fun w s₀ sh mg mb f o pm cd doc a vs ns G Y ho hd hcd hmg hobj hints hlen hgn => ?_
  obtain ⟨K, fd, m, KX, hb, hm, hF⟩ := F w mg f _ Y G.T.g hmg
  exact end_call KX G.T.g G.T.b G.T.builtins G.T.nolimit hgn hobj hints (Nat.le_trans hlen hn2) hr hF hb hT (hm ns hlen) fun H e s' => hCX H sh e s'
end Z

set_option Elab.async false
set_option linter.all false
set_option maxRecDepth 100000
set_option maxHeartbeats 4000000
/-! Z10: x[::-1] of tuples too, constants of the module, the head's Hook, repr, calls by keywords alone. -/
namespace Z
open PySem PySem.Spec PyProof.Rows L2
variable [LamT]

/-! ### x[::-1] -/
section
variable {prog : Program} {w : World} {A : Around} {E : Value → Shared → Prop} {sh : Shared}
theorem neg_places (n : Nat) : Builtin.Slice.sliceAdjust none none (-1) (n : Int) = ((n : Int) - 1, -1) ∧ Builtin.Slice.slicePlaces ((n : Int) - 1) (-1) (-1) = n := by
  refine ⟨rfl, ?_⟩
  unfold Builtin.Slice.slicePlaces
  rw [if_neg (by decide)]
  by_cases h : (n : Int) - 1 > -1
  · rw [if_pos h]
    have : ((n : Int) - 1 - -1 - 1) / (- -1) = (n : Int) - 1 := by
      rw [show (- -1 : Int) = 1 from rfl, Int.ediv_one]; omega
    rw [this]; omega
  · rw [if_neg h]; omega
theorem neg_pick (xs : Array Value) : ((List.range xs.size).filterMap fun (k : Nat) => xs[((xs.size : Int) - 1 + (k : Int) * -1).toNat]?) = xs.toList.reverse := by
  refine List.ext_getElem? fun i => ?_
  have key : ∀ m, m ≤ xs.size → ((List.range m).filterMap fun (k : Nat) => xs[((xs.size : Int) - 1 + (k : Int) * -1).toNat]?) = xs.toList.reverse.take m := by
    intro m
    induction m with
    | zero => intro _; simp
    | succ m ih =>
      intro hm
      have e : ((xs.size : Int) - 1 + (m : Int) * -1).toNat = xs.size - 1 - m := by omega
      have hl : m < xs.toList.reverse.length := by simp; omega
      rw [List.range_succ, List.filterMap_append, ih (by omega), List.take_add_one, List.getElem?_eq_getElem hl, List.getElem_reverse]
      simp only [List.filterMap_cons, List.filterMap_nil, e]
      rw [Array.getElem?_eq_getElem (show xs.size - 1 - m < xs.size by omega)]
      simp
  rw [key xs.size (Nat.le_refl _), List.take_of_length_le (by simp)]
theorem get_tuple_back {t sl : Addr} {items : Array Value} {vl vu vs : Value} {Q : Value → Shared → Prop} (ht : IsTup sh.heap t items) (hs : sh.heap.IsSliceOf sl vl vu vs) (pl : PySem.IsPart vl none) (pu : PySem.IsPart vu none) (ps : PySem.IsPart vs (some (-1)))
    (h : Q (.ref sh.heap.objs.size) { sh with heap := sh.heap.push { cls := .type "tuple", data := .seq items.toList.reverse.toArray } }) (hsz : items.size ≤ sizeLine) : wpAny (model prog w) A (getItem (.ref t) (.ref sl)) Q E sh := by
  cases pl
  cases pu
  obtain ⟨o, ho, ec, ed⟩ := id hs
  cases ps with
  | int _ tok =>
  unfold getItem
  refine wpAny_holding (wpAny_bind (wpAny_sequenceKey ht.typeIs (by decide) (wpAny_bind (wpAny_callSpecial?_slot (name := Str.ofString "__getitem__") ht.typeIs PyProof.Rows.slot_tuple_getitem
    (wpAny_call_entry PyProof.Rows.slot_tuple_getitem ht.typeIs PyProof.Rows.entry_tuple_getitem ?_ (PyProof.Rows.args_tuple_getitem _ _))))))
  show wpAny _ _ (Builtin.Tuple.tupleItemsOf (.ref t) >>= _) _ _ sh
  refine wpAny_bind (tupleItemsOf_ ht (wpAny_bind (wpAny_typeOf (⟨o, ho, ec⟩ : sh.TypeIs (.ref sl) "slice") ?_)))
  rw [if_pos (by decide)]
  refine wpAny_bind ?_
  unfold Builtin.Slice.sliceApplied Builtin.Slice.sliceFields
  refine wpAny_bind (wpAny_bind (wpAny_field ho ed (x := .none) rfl (wpAny_bind (wpAny_field ho ed (x := .none) rfl (wpAny_bind (wpAny_field ho ed (x := .int (-1) tok) rfl (wpAny_pure ?_)))))))
  refine wpAny_bind (slicePart_int ?_)
  show wpAny _ _ (if ((-1 : Int) == 0) = true then _ else _) _ _ sh
  rw [if_neg (by decide)]
  refine wpAny_bind (slicePart_none (wpAny_bind (slicePart_none (wpAny_bind (wpAny_pure ?_)))))
  show wpAny _ _ (match Builtin.Slice.sliceAdjust none none (-1) (items.size : Int) with | (lo, hi) => pure (lo, (-1 : Int), Builtin.Slice.slicePlaces lo hi (-1))) _ _ sh
  rw [(neg_places items.size).1]
  show wpAny _ _ (pure ((items.size : Int) - 1, (-1 : Int), Builtin.Slice.slicePlaces ((items.size : Int) - 1) (-1) (-1))) _ _ sh
  rw [(neg_places items.size).2]
  refine wpAny_pure ?_
  show wpAny _ _ (if ((items.size : Int) - 1 == 0 && (-1 : Int) == 1 && items.size == items.size) = true then _ else _) _ _ sh
  rw [if_neg (by simp), neg_pick]
  have fits : sizeOk (.seq items.toList.reverse.toArray) := by
    show items.toList.reverse.toArray.size ≤ sizeLine
    simpa using hsz
  first
    | exact wpAny_bind (m := Builtin.Tuple.tupleExact _) (wpAny_newObj_type (wpAny_pure ⟨_, rfl, wpAny_pure h⟩) fits)
    | exact wpAny_bind (m := Builtin.Tuple.tupleExact _) (wpAny_newObj_type (wpAny_bind (wpAny_pure (wpAny_pure ⟨_, rfl, wpAny_pure h⟩))) fits)
    | exact wpAny_bind (wpAny_bind (m := Builtin.Tuple.tupleExact _) (wpAny_newObj_type (wpAny_pure (wpAny_pure ⟨_, rfl, wpAny_pure h⟩)) fits))
    | exact wpAny_bind (wpAny_bind (m := Builtin.Tuple.tupleExact _) (wpAny_newObj_type (wpAny_pure ⟨_, rfl, wpAny_pure h⟩) fits))
end
section
variable {X : Cx} {Ex : XK} {pos : Pos} {e : Expr}
def tBackT (K : PySem.W.Frag) (te : TE) : TE := fun σ H Q => te σ H fun x H1 => ∃ a xs, x = .ref a ∧ SqT K H1 a xs ∧ NewT H1 xs.reverse Q
theorem pe_backT {te : TE} {k : Nat} {p1 p2 p3 : Pos} (he : PE X e te) : PE X (.Subscript e (.Slice none none (some (.UnaryOp .USub (.Constant (.int 1) k p1) p2)) p3) pos) (tBackT X.K te) := by
  refine ⟨fun pins sh σ H Q I h => Subscript_ (thn (he.run pins sh σ H _ I h) fun v s1 q => ?_)⟩
  obtain ⟨x, H1, I1, r1, a, xs, rfl, hx, goal⟩ := q
  cases r1
  have one : PO X (some (.UnaryOp .USub (.Constant (.int 1) k p1) p2)) (tPart (tUn (rU fun i => .int (-i)) (tC (.int 1)))) := po_some (pe_un un_neg pe_int)
  refine wpAny_Slice (thn (po_none.run pins s1 σ H1 (fun o H' => o = none ∧ H' = H1) I1 ⟨rfl, rfl⟩) fun vl s2 q => ?_)
  obtain ⟨_, _, I2, pl, rfl, rfl⟩ := q
  refine thn (po_none.run pins s2 σ _ (fun o H' => o = none ∧ H' = _) I2 ⟨rfl, rfl⟩) fun vu s3 q => ?_
  obtain ⟨_, _, I3, pu, rfl, rfl⟩ := q
  refine thn (one.run pins s3 σ _ (fun o H' => o = some (-1) ∧ H' = _) I3 ⟨1, rfl, -1, rfl, rfl, rfl⟩) fun vs s4 q => ?_
  obtain ⟨_, H4, I4, ps, rfl, rfl⟩ := q
  have I5 := I4.kept (h' := s4.heap.push { cls := .type "slice", data := .fields #[vl, vu, vs] }) (t' := s4.toks) fun b ob q => Heap.get?_push_of_some _ q
  obtain ⟨its, r, ht, hz⟩ := I5.tuple hx
  show wpAny (model X.prog X.w) X.A (subscriptTail e (.Slice none none (some (.UnaryOp .USub (.Constant (.int 1) k p1) p2)) p3) (.ref a) (.ref s4.heap.objs.size)) (EP X pins σ Q) X.xe { s4 with heap := s4.heap.push { cls := .type "slice", data := .fields #[vl, vu, vs] } }
  refine tail_any (ops := [.ref a, .ref s4.heap.objs.size]) ht.typeIs (PyProof.Rows.slot_tuple_getitem.lookup) (get_tuple_back ht (Heap.IsSliceOf.new _ vl vu vs) pl pu ps ?_ (by rw [List.size_toArray, ← r.length]; omega)) (by with_unfolding_all rfl)
  have fin := lay_tup (us := its.reverse) I5 (by rw [List.length_reverse]; omega) (by simpa using r.reverse) goal s4.toks
  simpa [tupO] using fin
def uBack (mu : Bool) : O1 := fun x s =>
  match x with
  | .tup xs => newT xs.reverse s
  | x => uRevL mu x s
theorem tE_ok {g : G} {α : Type} {W : Wd} {s : S} {env : En} {σ : L2.St} {H : Hp} {m : EM} {k : PV → S → Rs α} {Q : α → S → Prop} {R : VK} (he : EnvR g.K W env σ) (hs : StR g W H s) (h : Post ((m env s).bind k) Q (XW g W Ex))
    (hk : ∀ v s1 W1 H1 u, m env s = .ok v s1 → W.Le W1 → EnvR g.K W1 env σ → StR g W1 H1 s1 → Rep g.K W1 v u → Post (k v s1) Q (XW g W1 Ex) → R u H1) : tE g Ex m σ H R := by
  refine ⟨W, s, env, he, hs, ?_⟩
  have hb := h.bind
  cases hm : m env s with
  | ok v s1 =>
    rw [hm] at hb
    have hb : Post (k v s1) Q (XW g W Ex) := hb
    exact fun W1 H1 u l hs1 r => hk v s1 W1 H1 u hm l (he.mono l) hs1 r (hb.mono (fun _ _ z => z) fun _ _ _ z => z.mono l)
  | exc c x s1 => rw [hm] at hb; exact hb
  | fail => rw [hm] at hb; exact hb.elim
theorem se_back {k : Nat} {p1 p2 p3 : Pos} (mu : Bool) {m : EM} (he : PE X e (tE (gx X) Ex m)) : PE X (.Subscript e (.Slice none none (some (.UnaryOp .USub (.Constant (.int 1) k p1) p2)) p3) pos) (tE (gx X) Ex (eUn (uBack mu) m)) := by
  refine ⟨fun pins sh σ H Q I ⟨W, s, env, hE, hs, h⟩ => ?_⟩
  by_cases hk : ∃ xs s1, m env s = .ok (.tup xs) s1
  · obtain ⟨xs, s1, em⟩ := hk
    refine (pe_backT he).run pins sh σ H Q I (tE_ok hE hs h fun x s1' W1 H1 u eq l1 he1 hs1 r1 h1 => ?_)
    rw [em] at eq; cases eq
    obtain ⟨v, s', e', hc⟩ := h1.lift
    have e' : newT xs.reverse s1 = some (v, s') := e'
    cases r1 with
    | tup q rr => exact ⟨_, _, rfl, tup_sq hs1 q, (newT_ok hs1 rr.reverse e' (hc.mono l1)).2⟩
  · refine (pe_revL he).run pins sh σ H Q I (tE_ok hE hs h fun x s1 W1 H1 u eq l1 he1 hs1 r1 h1 => ?_)
    obtain ⟨v, s', e', hc⟩ := h1.lift
    have e' : uRevL mu x s1 = some (v, s') := by
      cases x with
      | tup xs => exact absurd ⟨xs, s1, eq⟩ hk
      | _ => exact e'
    unfold uRevL at e'
    split at e' <;> try (cases e'; done)
    rename_i xs e1
    obtain ⟨a, vs, rfl, q1, q2⟩ := rdOf_ok hs1 r1 e1
    exact ⟨a, vs, rfl, q1, (newL_ok hs1 q2.reverse e' (hc.mono l1)).2⟩

/-! ### constants of the module -/
mutual
def cRel (K : PySem.W.Frag) : PV → Value → Bool
  | .non, .none => true
  | .bl b, .bool c => b == c
  | .int i, .int j _ => decide (j = i)
  | .str x, .str y _ => decide (y = x)
  | .tup xs, .ref a => match K.lookup a with
    | some ⟨.type c, none, .seq its _, _⟩ => decide (c = "tuple") && (decide (its.size ≤ sizeLine) && cRels K xs its.toList)
    | _ => false
  | .scr xs, .ref a => match K.lookup a with
    | some ⟨.type c, none, .seq its _, _⟩ => decide (c = "list") && (decide (its.size ≤ sizeLine) && cRels K xs its.toList)
    | _ => false
  | _, _ => false
def cRels (K : PySem.W.Frag) : List PV → List Value → Bool
  | [], [] => true
  | x :: xs, u :: us => cRel K x u && cRels K xs us
  | _, _ => false
end
section
variable {K : PySem.W.Frag}
theorem andp {a b : Bool} (h : (a && b) = true) : a = true ∧ b = true := Bool.and_eq_true_iff.mp h
mutual
theorem cRel_ok : ∀ (c : PV) (u : Value), cRel K c u = true → ∃ v, RelV v u ∧ ∀ W, Rep K W c v
  | .non, u, h => by
    cases u <;> first | exact ⟨.non, rfl, fun W => .non⟩ | (unfold cRel at h; cases h)
  | .bl b, u, h => by
    cases u <;> first | (unfold cRel at h; cases eq_of_beq h; exact ⟨.bl _, rfl, fun W => .bl _⟩) | (unfold cRel at h; cases h)
  | .int i, u, h => by
    cases u <;> first | (unfold cRel at h; cases of_decide_eq_true h; exact ⟨.int _, ⟨_, rfl⟩, fun W => .int _⟩) | (unfold cRel at h; cases h)
  | .str i, u, h => by
    cases u <;> first | (unfold cRel at h; cases of_decide_eq_true h; exact ⟨.str _, ⟨_, rfl⟩, fun W => .str _⟩) | (unfold cRel at h; cases h)
  | .tup xs, u, h => by
    cases u <;> try (unfold cRel at h; cases h; done)
    rename_i a
    unfold cRel at h
    split at h
    · rename_i c its n sl q
      obtain ⟨h1, h2⟩ := andp h
      obtain ⟨h3, h4⟩ := andp h2
      obtain ⟨vs, r1, r2⟩ := cRels_ok xs its.toList h4
      exact ⟨.ref a, rfl, fun W => .tup (.inr ⟨_, its, n, ⟨q, congrArg Value.type (of_decide_eq_true h1), rfl, of_decide_eq_true h3, r1⟩, rfl⟩) (r2 W)⟩
    · cases h
  | .scr xs, u, h => by
    cases u <;> try (unfold cRel at h; cases h; done)
    rename_i a
    unfold cRel at h
    split at h
    · rename_i c its n sl q
      obtain ⟨h1, h2⟩ := andp h
      obtain ⟨h3, h4⟩ := andp h2
      obtain ⟨vs, r1, r2⟩ := cRels_ok xs its.toList h4
      exact ⟨.ref a, rfl, fun W => .scr (.inr ⟨_, its, n, q, congrArg Value.type (of_decide_eq_true h1), rfl, rfl, of_decide_eq_true h3, r1⟩) (r2 W)⟩
    · cases h
  | .lst _, u, h => by unfold cRel at h; cases h
  | .dic _, u, h => by unfold cRel at h; cases h
  | .obj _, u, h => by unfold cRel at h; cases h
  | .wt _, u, h => by unfold cRel at h; cases h
theorem cRels_ok : ∀ (c : List PV) (u : List Value), cRels K c u = true → ∃ v, Vals v u ∧ ∀ W, Reps K W c v
  | [], u, h => by
    cases u with
    | nil => exact ⟨[], .nil, fun W => .nil⟩
    | cons _ _ => unfold cRels at h; cases h
  | x :: xs, u, h => by
    cases u with
    | nil => unfold cRels at h; cases h
    | cons y ys =>
      unfold cRels at h
      obtain ⟨h1, h2⟩ := andp h
      obtain ⟨v, r1, r2⟩ := cRel_ok x y h1
      obtain ⟨vs, r3, r4⟩ := cRels_ok xs ys h2
      exact ⟨v :: vs, .cons r1 r3, fun W => .cons (r2 W) (r4 W)⟩
end
def conB (K : PySem.W.Frag) (p : Str × PV) : Bool := match PySem.W.nsIn K mainGlobals p.1 with
  | some (some u) => cRel K p.2 u
  | _ => false
end
/-- a name of the module that stands for c -/
def Con (K : PySem.W.Frag) (mg : Str → Option Value) (x : Str) (c : PV) : Prop := ∃ u v, mg x = some u ∧ RelV v u ∧ ∀ W, Rep K W c v
theorem conB_ok {K : PySem.W.Frag} {h : Heap} {mg : Str → Option Value} {x : Str} {c : PV} (X : K.In h) (G : h.Ns mainGlobals mg) (hc : conB K (x, c) = true) : Con K mg x c := by
  unfold conB at hc
  split at hc
  · rename_i u q
    obtain ⟨v, r1, r2⟩ := cRel_ok c u hc
    exact ⟨u, v, PySem.W.mg_of X G q, r1, r2⟩
  · cases hc
theorem se_con {x : Str} {c : PV} (hg : Gl X x) (h : Con X.K X.mg x c) (hd : (x == ("__debug__" : Str)) = false := by decide) : PE X (.Name x pos) (tE (gx X) Ex (eC c)) := by
  obtain ⟨u, v, h1, h2, h3⟩ := h
  exact se_const (pe_glob hg h1 h2 hd) h3

/-! ### the head's Hook -/
abbrev AlZ : Type := Bool × He.AlD
/-- the table of modules stands as a dict -/
def SysD (K : PySem.W.Frag) : Prop := ∃ o, K.lookup sysModules = some o ∧ o.cls = .type "dict"
def sysB (K : PySem.W.Frag) : Bool := match K.lookup sysModules with
  | some ⟨.type c, _, _, _⟩ => decide (c = "dict")
  | _ => false
theorem sysB_ok {K : PySem.W.Frag} (h : sysB K = true) : SysD K := by
  unfold sysB at h
  split at h
  · rename_i c d dt sl q
    exact ⟨_, q, congrArg Value.type (of_decide_eq_true h)⟩
  · cases h
def obsZ (fa : List He.Fa) (fn : List He.DefD) (cs : List (Str × PV)) (K : PySem.W.Frag) : AlZ := (sysB K && cs.all (conB K), He.obsD fa fn K)
def obsZG (n : Nat) (fa : List He.Fa) (fn : List He.DefD) (cs : List (Str × PV)) (g : Addr → Option Obj) : AlZ := obsZ fa fn cs (He.frG g (sysModules :: He.asD g n))
def SaysZ (fa : List He.Fa) (fn : List He.DefD) (cs : List (Str × PV)) (K : PySem.W.Frag) : Prop := He.SaysD fa fn K ∧ (sysB K && cs.all (conB K)) = true
def hookZ (n : Nat) (fa : List He.Fa) (fn : List He.DefD) (cs : List (Str × PV)) : PySem.W.Hook where
  α := AlZ
  obs := fun s => obsZG n fa fn cs s.heap.get?
  val := fun _ => (true, He.valD fn)
  says := fun _ h => ∃ K : PySem.W.Frag, K.In h ∧ SaysZ fa fn cs K
  of := fun _ _ e => ⟨_, He.frG_in, congrArg (fun z : AlZ => z.2) e, congrArg (fun z : AlZ => z.1) e⟩
  keeps := fun _ _ _ ⟨K, hK, c⟩ k => ⟨K, PySem.W.Frag.In.keeps hK k, c⟩
theorem obsZG_eq {n : Nat} {fa : List He.Fa} {fn : List He.DefD} {cs : List (Str × PV)} {g : Addr → Option Obj} {s : Shared} (h : ∀ a, g a = s.heap.get? a) : obsZG n fa fn cs g = (hookZ n fa fn cs).obs s := by
  rw [show g = s.heap.get? from funext h]; rfl
theorem SaysZ.con {fa : List He.Fa} {fn : List He.DefD} {cs : List (Str × PV)} {K : PySem.W.Frag} {h : Heap} {mg : Str → Option Value} (c : SaysZ fa fn cs K) (X : K.In h) (G : h.Ns mainGlobals mg) (i : Nat) {x : Str} {v : PV} (e : cs[i]? = some (x, v) := by rfl) : Con K mg x v :=
  conB_ok X G (List.all_eq_true.mp (andp c.2).2 _ (List.mem_of_getElem? e))
theorem SaysZ.sys {fa : List He.Fa} {fn : List He.DefD} {cs : List (Str × PV)} {K : PySem.W.Frag} (c : SaysZ fa fn cs K) : SysD K := sysB_ok (andp c.2).1
end
end Z

set_option Elab.async false
set_option linter.all false
set_option maxRecDepth 100000
set_option maxHeartbeats 4000000
/-! Z11: repr of any data; calls by keywords alone. -/
namespace Z
open PySem PySem.Spec PyProof.Rows L2
variable [LamT]

def keyD : Key → PyData
  | .inl i => .int i
  | .inr x => .str x
mutual
def toD : PV → Option PyData
  | .non => some .none
  | .bl b => some (.bool b)
  | .int i => some (.int i)
  | .str x => some (.str x)
  | .tup xs => (toDs xs).map .tuple
  | .lst xs => (toDs xs).map .list
  | .scr xs => (toDs xs).map .list
  | .dic kvs => (toDk kvs).map .dict
  | .obj _ => none
  | .wt _ => none
def toDs : List PV → Option (List PyData)
  | [] => some []
  | x :: xs => match toD x, toDs xs with
    | some d, some ds => some (d :: ds)
    | _, _ => none
def toDk : List (Key × PV) → Option (List (PyData × PyData))
  | [] => some []
  | (k, x) :: xs => match toD x, toDk xs with
    | some d, some ds => some ((keyD k, d) :: ds)
    | _, _ => none
end
section
variable {X : Cx} {pins : List (Addr × Obj)} {σ : L2.St} {H : Hp} {sh : Shared}
theorem ne_sys (hS : SysD X.K) (I : Inv X pins σ H sh) {a : Addr} {o : Obj} (e : sh.heap.get? a = some o) (c : o.cls = .type "list") : a ≠ sysModules := fun z => by
  obtain ⟨o', e', c'⟩ := hS
  have := I.kIn _ _ e'
  rw [← z, e] at this
  cases this
  rw [c] at c'
  injection c' with c'
  exact absurd c' (by decide)
theorem key_reads {k : Key} {u : Value} (h : keyIs k u = true) : Reads sh.heap u (keyD k) [] := by
  rcases keyIs_shape h with ⟨i, t, rfl, rfl⟩ | ⟨x, t, rfl, rfl⟩
  · exact .int i t
  · exact .str x t
theorem pairs_reads : ∀ {es : List DictEntry} {vs : List (Key × Value)}, Pairs (mixKind X.prog X.w) es vs → ReadsAll sh.heap (es.map (·.key)) (vs.map fun p => keyD p.1) [] ∧ es.map (·.val) = vs.map (·.2)
  | _, _, .nil => ⟨.nil, rfl⟩
  | _, _, .cons (kv := kv) h e t => by
    obtain ⟨q1, q2⟩ := pairs_reads t
    exact ⟨.cons (as := []) (bs := []) (key_reads h) q1, by simp [e, q2]⟩
mutual
theorem rep_reads (hS : SysD X.K) (I : Inv X pins σ H sh) : ∀ {x : PV} {v : V} {u : Value} {d : PyData}, Rep X.K ⟨H, [], fun _ => none, fun _ => none⟩ x v → RelV v u → toD x = some d → ∃ as, Reads sh.heap u d as ∧ sysModules ∉ as
  | _, _, _, _, .non, r, e => by cases r; cases e; exact ⟨_, .none, by simp⟩
  | _, _, _, _, .bl b, r, e => by cases r; cases e; exact ⟨_, .bool b, by simp⟩
  | _, _, _, _, .int i, r, e => by obtain ⟨t, rfl⟩ := r; cases e; exact ⟨_, .int i t, by simp⟩
  | _, _, _, _, .str x, r, e => by obtain ⟨t, rfl⟩ := r; cases e; exact ⟨_, .str x t, by simp⟩
  | _, _, _, _, .tup (xs := xs) h q, r, e => by
    cases r
    unfold toD at e
    obtain ⟨ds, e1, rfl⟩ := Option.map_eq_some_iff.mp e
    obtain ⟨its, rv, ⟨o, ho, hc, n, hd⟩, _⟩ := I.tuple (show SqT X.K H _ _ from h.t)
    obtain ⟨as, hr, hn⟩ := reps_reads hS I q rv e1
    exact ⟨_, .tuple ho hc hd hr, hn⟩
  | _, _, _, _, .lst (xs := xs) h q, r, e => by
    cases r
    unfold toD at e
    obtain ⟨ds, e1, rfl⟩ := Option.map_eq_some_iff.mp e
    obtain ⟨its, rv, ⟨o, n, ho, hc, _, hd⟩, _⟩ := I.list (.inl (.inl h))
    obtain ⟨as, hr, hn⟩ := reps_reads hS I q rv e1
    exact ⟨_, .list ho hc hd hr, fun hm => (List.mem_cons.mp hm).elim (fun z => ne_sys hS I ho hc z.symm) hn⟩
  | _, _, _, _, .scr (xs := xs) h q, r, e => by
    cases r
    unfold toD at e
    obtain ⟨ds, e1, rfl⟩ := Option.map_eq_some_iff.mp e
    obtain ⟨its, rv, ⟨o, n, ho, hc, _, hd⟩, _⟩ := I.list h
    obtain ⟨as, hr, hn⟩ := reps_reads hS I q rv e1
    exact ⟨_, .list ho hc hd hr, fun hm => (List.mem_cons.mp hm).elim (fun z => ne_sys hS I ho hc z.symm) hn⟩
  | _, _, _, _, .dic (kvs := kvs) h q, r, e => by
    cases r
    unfold toD at e
    obtain ⟨ds, e1, rfl⟩ := Option.map_eq_some_iff.mp e
    obtain ⟨_, hsys, vs, kv, o, es, ep, ho, hx, hd, _, pr, _⟩ := I.hok _ _ h
    obtain ⟨q1, q2⟩ := pairs_reads (X := X) (sh := sh) pr
    obtain ⟨as, e2, e3, hr, hn⟩ := kreps_reads hS I q kv e1
    refine ⟨_, .dict ho hx.1 hd (by rw [e2]; exact q1) (by rw [q2]; exact hr), fun hm => ?_⟩
    rcases List.mem_cons.mp hm with z | z
    · rw [z] at hsys; simp at hsys
    · exact hn (by simpa using z)
  | _, _, _, _, .obj h, r, e => by simp at h
  | _, _, _, _, .wt h q, r, e => by cases e
theorem reps_reads (hS : SysD X.K) (I : Inv X pins σ H sh) : ∀ {x : List PV} {v : List V} {u : List Value} {d : List PyData}, Reps X.K ⟨H, [], fun _ => none, fun _ => none⟩ x v → Vals v u → toDs x = some d → ∃ as, ReadsAll sh.heap u d as ∧ sysModules ∉ as
  | _, _, _, _, .nil, r, e => by cases r; cases e; exact ⟨_, .nil, by simp⟩
  | _, _, _, _, .cons (x := x) (xs := xs) h t, r, e => by
    cases r with
    | cons r rr =>
      unfold toDs at e
      split at e
      · rename_i d ds e1 e2
        cases e
        obtain ⟨as, q1, n1⟩ := rep_reads hS I h r e1
        obtain ⟨bs, q2, n2⟩ := reps_reads hS I t rr e2
        exact ⟨_, .cons q1 q2, fun hm => (List.mem_append.mp hm).elim n1 n2⟩
      · cases e
theorem kreps_reads (hS : SysD X.K) (I : Inv X pins σ H sh) : ∀ {x : List (Key × PV)} {v : List (Key × V)} {u : List (Key × Value)} {d : List (PyData × PyData)}, KReps X.K ⟨H, [], fun _ => none, fun _ => none⟩ x v → KV v u → toDk x = some d →
    ∃ as, d.map (·.1) = u.map (fun p => keyD p.1) ∧ True ∧ ReadsAll sh.heap (u.map (·.2)) (d.map (·.2)) as ∧ sysModules ∉ as
  | _, _, _, _, .nil, r, e => by cases r; cases e; exact ⟨_, rfl, trivial, .nil, by simp⟩
  | _, _, _, _, .cons (k := k) (x := x) (xs := xs) h t, r, e => by
    cases r with
    | cons r rr =>
      unfold toDk at e
      split at e
      · rename_i d ds e1 e2
        cases e
        obtain ⟨as, q1, n1⟩ := rep_reads hS I h r.2 e1
        obtain ⟨bs, q0, _, q2, n2⟩ := kreps_reads hS I t rr e2
        exact ⟨_, by simp [q0, ← r.1], trivial, .cons q1 q2, fun hm => (List.mem_append.mp hm).elim n1 n2⟩
      · cases e
end
end
section
variable {K : PySem.W.Frag} {W W' : Wd}
mutual
/-- what is wholly data needs no mutable object -/
theorem rep_noobj (hf : W'.fro = W.fro) : ∀ {x : PV} {v : V} {d : PyData}, Rep K W x v → toD x = some d → Rep K W' x v
  | _, _, _, .non, _ => .non
  | _, _, _, .bl b, _ => .bl b
  | _, _, _, .int i, _ => .int i
  | _, _, _, .str x, _ => .str x
  | _, _, _, .tup h q, e => by
    unfold toD at e
    obtain ⟨ds, e1, _⟩ := Option.map_eq_some_iff.mp e
    exact .tup (by rw [hf]; exact h) (reps_noobj hf q e1)
  | _, _, _, .lst h q, e => by
    unfold toD at e
    obtain ⟨ds, e1, _⟩ := Option.map_eq_some_iff.mp e
    exact .lst (by rw [hf]; exact h) (reps_noobj hf q e1)
  | _, _, _, .scr h q, e => by
    unfold toD at e
    obtain ⟨ds, e1, _⟩ := Option.map_eq_some_iff.mp e
    exact .scr (by rw [hf]; exact h) (reps_noobj hf q e1)
  | _, _, _, .dic h q, e => by
    unfold toD at e
    obtain ⟨ds, e1, _⟩ := Option.map_eq_some_iff.mp e
    exact .dic (by rw [hf]; exact h) (kreps_noobj hf q e1)
  | _, _, _, .obj h, e => by cases e
  | _, _, _, .wt h q, e => by cases e
theorem reps_noobj (hf : W'.fro = W.fro) : ∀ {x : List PV} {v : List V} {d : List PyData}, Reps K W x v → toDs x = some d → Reps K W' x v
  | _, _, _, .nil, _ => .nil
  | _, _, _, .cons h t, e => by
    unfold toDs at e
    split at e
    · rename_i e1 e2; exact .cons (rep_noobj hf h e1) (reps_noobj hf t e2)
    · cases e
theorem kreps_noobj (hf : W'.fro = W.fro) : ∀ {x : List (Key × PV)} {v : List (Key × V)} {d : List (PyData × PyData)}, KReps K W x v → toDk x = some d → KReps K W' x v
  | _, _, _, .nil, _ => .nil
  | _, _, _, .cons h t, e => by
    unfold toDk at e
    split at e
    · rename_i e1 e2; exact .cons (rep_noobj hf h e1) (kreps_noobj hf t e2)
    · cases e
end
end
def shows (d : PyData) : Option Str := if d.showable = true ∧ d.depth ≤ 60 ∧ d.shown.length ≤ 16000000 then some d.shown else none
def bRepr : OL := fun xs s =>
  match xs with
  | [x] => match toD (top s x) with
    | some d => (shows d).map fun z => (.str z, s)
    | none => none
  | _ => none
theorem shows_ok {d : PyData} {z : Str} (h : shows d = some z) : d.showable = true ∧ d.depth ≤ 60 ∧ d.shown.length ≤ sizeLine ∧ z = d.shown := by
  unfold shows at h
  split at h
  · rename_i q
    cases h
    exact ⟨q.1, q.2.1, big_line q.2.2, rfl⟩
  · cases h
section
variable {X : Cx}
theorem c_repr (hS : SysD X.K) (gd : X.A.guards = some []) (hu : X.A.units + 64 < cLine) : CallR X (.builtin "repr") (rL (gx X) bRepr) := by
  intro pins sh σ H xs us Q I r ⟨W, s, pxs, v, s', rp, hs, e, hc⟩
  unfold bRepr at e
  split at e
  case h_2 => cases e
  rename_i x
  split at e
  case h_2 => cases e
  rename_i d ed
  obtain ⟨z, ez, e'⟩ := Option.map_eq_some_iff.mp e
  cases e'
  obtain ⟨h1, h2, h3, rfl⟩ := shows_ok ez
  cases rp with
  | cons rx rr =>
    cases rr
    cases r with
    | cons ru rr =>
      cases rr
      rename_i v0 u
      have rt := top_rep hs rx
      have rt2 : Rep X.K ⟨H, W.ob, W.hid, W.lk⟩ (top s x) v0 := rt
      have noobj : ∀ n, top s x ≠ .obj n := fun n z => by rw [z] at ed; cases ed
      have fin : ∀ (h' : Heap) (tk tk' : Nat), (∀ b o, sh.heap.get? b = some o → h'.get? b = some o) → EP X pins σ Q (.str d.shown tk) { sh with heap := h', toks := tk' } := fun h' tk tk' hk =>
        ⟨.str d.shown, H, I.kept (t' := tk') hk, ⟨_, rfl⟩, Cont.here hc hs (.str _)⟩
      obtain ⟨as, rd, hno⟩ := rep_reads hS I (x := top s x) (rep_noobj (W := ⟨H, W.ob, W.hid, W.lk⟩) (W' := ⟨H, [], fun _ => none, fun _ => none⟩) rfl rt2 ed) ru ed
      cases rd with
      | none => exact PySem.P.repr_of_none (fin _ _ _ fun _ _ z => z)
      | bool b => exact PySem.P.repr_of_bool (by cases b <;> exact fin _ _ _ fun _ _ z => z)
      | int i t => exact PySem.P.repr_of_int (by simpa [PyData.showable] using h1) (fin _ _ _ fun _ _ z => z)
      | str y t => exact PySem.P.repr_of_str (fin _ _ _ fun _ _ z => z) h3
      | list q1 q2 q3 q4 => exact repr_of_reads' (.list q1 q2 q3 q4) h1 (fun _ => hno) gd (by omega) (fun _ _ z => z) (fun h' u tk hk => fin h' u tk hk) h3
      | tuple q1 q2 q3 q4 => exact repr_of_reads' (.tuple q1 q2 q3 q4) h1 (fun _ => hno) gd (by omega) (fun _ _ z => z) (fun h' u tk hk => fin h' u tk hk) h3
      | dict q1 q2 q3 q4 q5 => exact repr_of_reads' (.dict q1 q2 q3 q4 q5) h1 (fun _ => hno) gd (by omega) (fun _ _ z => z) (fun h' u tk hk => fin h' u tk hk) h3
end
end Z

set_option Elab.async false
set_option linter.all false
set_option maxRecDepth 100000
set_option maxHeartbeats 4000000
/-! Z12: sets of ints and texts made of a list or a tuple: how many there are (printed by gen12.py). -/
namespace Z
open PySem PySem.Spec PyProof.Rows L2
variable [LamT]

instance lawKey : LawfulBEq Key where
  eq_of_beq := fun {a b} h => by
    cases a <;> cases b
    · exact congrArg Sum.inl (eq_of_beq (show (_ == _) = true from h))
    · cases h
    · cases h
    · exact congrArg Sum.inr (eq_of_beq (show (_ == _) = true from h))
  rfl := fun {a} => by
    cases a
    · exact beq_self_eq_true (α := Int) _
    · exact beq_self_eq_true (α := Str) _
/-- one by one, each once -/
def once (acc : List Key) : List Key → List Key
  | [] => acc
  | k :: ks => once (if k ∈ acc then acc else acc ++ [k]) ks
theorem once_len (acc ks : List Key) : (once acc ks).length ≤ acc.length + ks.length := by
  induction ks generalizing acc with
  | nil => simp [once]
  | cons k ks ih =>
    unfold once
    have := ih (if k ∈ acc then acc else acc ++ [k])
    by_cases h : k ∈ acc
    · rw [if_pos h] at this ⊢; simp; omega
    · rw [if_neg h] at this ⊢; simp at this ⊢; omega
theorem set_congr {prog : Program} {w : World} {h : Heap} {a : Addr} {f g : Key → Bool} {n m : Nat} (x : h.SetOf (mixKind prog w) a f n) (e : ∀ k, f k = g k) (en : n = m) : h.SetOf (mixKind prog w) a g m := by
  rw [← show f = g from funext e, ← en]; exact x
section
variable {prog : Program} {w : World} {A : Around} {R : Result → Shared → Prop} {I : Addr} {fp wr : List Addr} {G : Array GenState → Array GenState → Prop} {n : Nat} {P : Nat → Value → Prop} {St : Nat → Shared → Prop}
theorem set_turns (W : WalksS prog w A.in1 I fp wr G n P St) (T : Addr) (out : T ∉ fp) (ks : List Key) (len : ks.length = n) (small : n < 4000) (val : ∀ i v, P i v → ∃ k, ks[i]? = some k ∧ keyIs k v = true ∧ v.scannable = true) :
    ∀ (rest : List Key) (i : Nat) (acc : List Key) (sh : Shared), rest = ks.drop i → i ≤ n → acc.length ≤ i → St i sh → once acc rest = once [] ks → sh.heap.SetOf (mixKind prog w) T (fun k' => decide (k' ∈ acc)) acc.length →
      (∀ sh', Moved (T :: wr) G sh sh' → sh'.heap.SetOf (mixKind prog w) T (fun k' => decide (k' ∈ once [] ks)) (once [] ks).length → R (.ok (.ret .none)) sh') →
      codeAny (model prog w) A (.builtin "set.update.loop" ⟨[.ref T, .ref I], []⟩) R sh := by
  have outw : T ∉ wr := fun z => out (W.sub _ z)
  have more : ∀ b ∈ wr, b ∈ T :: wr := fun b hb => List.mem_cons_of_mem _ hb
  intro rest
  induction rest with
  | nil =>
    intro i acc sh er hi ha st eo hS goal
    have hin : i = n := by
      have := congrArg List.length er
      simp at this; omega
    subst hin
    refine codeAny_builtin PyProof.Rows.F.entry_set_update_loop ?_
    rw [Around.under_plainId PyProof.Rows.F.plain_set_update_loop _]
    refine (show wpAny _ A.in1 (pyNext (.ref I) >>= _) _ _ sh from wpAny_bind (W.done sh _ _ st fun sh' mv => (show wpAny _ A.in1 (ret Value.none) _ _ sh' from wpAny_pure (goal sh' (mv.mono more) ?_))))
    have eo : acc = once [] ks := eo
    rw [← eo]
    obtain ⟨o, es, ep, t, ho, z⟩ := hS
    exact ⟨o, es, ep, t, mv.heap T _ outw ho, z⟩
  | cons k rest ih =>
    intro i acc sh er hi ha st eo hS goal
    have hlt : i < n := by
      have := congrArg List.length er
      simp at this; omega
    have hk : ks[i]? = some k := by
      have := congrArg (fun l => l[0]?) er
      simpa using this.symm
    have hr : rest = ks.drop (i + 1) := by
      have := congrArg List.tail er
      simpa using this
    refine codeAny_builtin PyProof.Rows.F.entry_set_update_loop ?_
    rw [Around.under_plainId PyProof.Rows.F.plain_set_update_loop _]
    refine (show wpAny _ A.in1 (pyNext (.ref I) >>= _) _ _ sh from wpAny_bind (W.item i sh _ _ hlt st fun v sh' hP st' mv => ?_))
    obtain ⟨k', e', kv, sc⟩ := val i v hP
    rw [hk] at e'; cases e'
    have hS' : sh'.heap.SetOf (mixKind prog w) T (fun k' => decide (k' ∈ acc)) acc.length := by
      obtain ⟨o, es, ep, t, ho, z⟩ := hS
      exact ⟨o, es, ep, t, mv.heap T _ outw ho, z⟩
    refine (show wpAny _ A.in1 (holding [v] (setAdd T v) >>= _) _ _ sh' from wpAny_bind (wpAny_holding ?_))
    unfold setAdd
    refine wpAny_holding (wpAny_bind ((mixKind prog w).pyHash (k := k) kv ?_))
    refine wpAny_setAddHashed_of (knd := mixKind prog w) (s := { sh' with toks := sh'.toks + 1 }) kv sc hS' (by unfold scanBound; omega) fun h' sb hS2 => ?_
    have hS3 : h'.SetOf (mixKind prog w) T (fun k' => decide (k' ∈ (if k ∈ acc then acc else acc ++ [k]))) (if k ∈ acc then acc else acc ++ [k]).length := by
      refine set_congr hS2 (fun k' => ?_) ?_
      · by_cases q : k ∈ acc
        · rw [if_pos q]
          by_cases e : k' = k
          · subst e; simp [q]
          · simp [e]
        · rw [if_neg q]
          by_cases e : k' = k
          · subst e; simp
          · simp [e]
      · by_cases q : k ∈ acc <;> simp [q]
    refine wpAny_pure ⟨plainId_quiet PyProof.Rows.F.plain_set_update_loop _, ih (i + 1) _ _ hr hlt ?_ (W.frame _ sh' _ _ st' (Nat.le_succ _) fun b hb o e => ?_) eo hS3 fun sh2 mv2 q => ?_⟩
    · by_cases q : k ∈ acc
      · rw [if_pos q]; omega
      · rw [if_neg q]; simp; omega
    · rw [sb.2 b (fun z : b = T => out (z ▸ hb))]; exact e
    · refine goal sh2 (Moved.trans W.gtrans ((mv.mono more).then_heap (Nat.le_succ _) fun b o hb e => ?_) mv2) q
      rw [sb.2 b (fun z : b = T => hb (z ▸ List.mem_cons_self))]; exact e
end

section
variable {prog : Program} {w : World} {A : Around} {E : Value → Shared → Prop} {sh : Shared}
theorem set_of_list {l : Addr} {items : Array Value} {ks : List Key} {Q : Value → Shared → Prop} (hh : A.handled = none) (hl : sh.heap.IsList l items) (len : ks.length = items.size) (hv : ∀ (i : Nat) (v : Value), items[i]? = some v → ∃ k, ks[i]? = some k ∧ keyIs k v = true ∧ v.scannable = true) (small : items.size < 4000)
    (goal : ∀ (h' : Heap) (tk : Nat), h'.SetOf (mixKind prog w) sh.heap.objs.size (fun k' => decide (k' ∈ once [] ks)) (once [] ks).length → (∀ b o, b < sh.heap.objs.size → sh.heap.get? b = some o → h'.get? b = some o) → Q (.ref sh.heap.objs.size) { sh with heap := h', toks := tk }) :
    wpAny (model prog w) A (call (.type "set") [.ref l]) Q E sh := by
  obtain ⟨c, tl, hmro⟩ := PySem.F.called_set.mro
  obtain ⟨hmade, hsub⟩ := And.intro PySem.F.called_set.made PySem.F.called_set.sub
  refine wpAny_call (codeAny_of_tree (show wpAny _ _ (callAny (.type "set") _) _ _ _ from wpAny_pure ⟨Code.quiet_builtin _ (by decide +kernel), codeAny_builtin PySem.F.entry_type_call ?_⟩))
  rw [Around.under_plain (weight_type_call_type "set" [.ref l] []) rfl]
  obtain ⟨h1, h2, hct⟩ := And.intro PySem.F.called_set.notType (And.intro PySem.F.called_set.canCreate (PySem.F.typeCall_set_1 (.ref l)))
  repeat (any_goals (first | assumption | wp_step))
  refine codeAny_mono (code_set_new_1 (.ref l) (E := E) (Q₁ := fun obj s1 => ∃ led : Bool, obj = .ref sh.heap.objs.size ∧ s1 = { sh with heap := sh.heap.push { cls := .type "set", dict := none, data := .set #[] 0 (.fresh 0 0 led) } }) fun led => ⟨led, rfl, rfl⟩) fun r s1 hr => ?_
  cases r with
  | error e => exact hr
  | ok fl =>
    cases fl with
    | ret obj =>
      obtain ⟨led, rfl, rfl⟩ := hr
      have at0 : (sh.heap.push { cls := .type "set", dict := none, data := .set #[] 0 (.fresh 0 0 led) }).get? sh.heap.objs.size = some { cls := .type "set", dict := none, data := .set #[] 0 (.fresh 0 0 led) } := Heap.get?_push_size _ rfl
      have hT : Shared.TypeIs { sh with heap := sh.heap.push { cls := .type "set", dict := none, data := .set #[] 0 (.fresh 0 0 led) } } (.ref sh.heap.objs.size) "set" := ⟨_, at0, rfl⟩
      obtain ⟨hli, hbi⟩ := And.intro PySem.F.called_set.init.lookup (PySem.F.called_set.init.bind (.ref sh.heap.objs.size))
      repeat (any_goals (first | assumption | wp_step))
      refine codeAny_mono (codeAny_call_builtin (R := wants (fun r s2 => r = .none ∧ ∃ h' tk, s2 = { sh with heap := h', toks := tk } ∧ h'.SetOf (mixKind prog w) sh.heap.objs.size (fun k' => decide (k' ∈ once [] ks)) (once [] ks).length ∧
          (∀ b o, b < sh.heap.objs.size → sh.heap.get? b = some o → h'.get? b = some o)) E) PySem.F.called_set.init.plain PySem.F.entry_set_init (check_set_init_1 hT ?_)) fun r2 s2 hr2 => ?_
      · obtain ⟨⟨ocls, odict, odata, oslots⟩, hol, hcl, nl, hdl⟩ := hl
        cases (show ocls = _ from hcl)
        cases (show odata = _ from hdl)
        have hol1 : (sh.heap.push { cls := .type "set", dict := none, data := .set #[] 0 (.fresh 0 0 led) }).get? l = some { cls := .type "list", dict := odict, data := .seq items nl, slots := oslots } := Heap.get?_push_of_some _ hol
        obtain ⟨hsls, hslf⟩ := And.intro PySem.F.sub_list_set PySem.F.sub_list_frozenset
        have hne : (Value.type "list" == Value.type "dict") = false := by decide
        have hl1 : (sh.heap.push { cls := .type "set", dict := none, data := .set #[] 0 (.fresh 0 0 led) }).IsList l items := ⟨_, hol1, rfl, nl, rfl⟩
        unfold Builtin.«set.__init__» noKeywords Builtin.Frozenset.updateFrom
        generalize hPI : pyIter = PI
        wp_walk
        subst hPI
        refine wpAny_pyIter_list hl1 (wpAny_bind (wpAny_runValue ?_))
        have ll : l < sh.heap.objs.size := Heap.lt_size hol
        have cool : A.in1.in1.in1.handled = none := by simp [hh]
        have apart : l ≠ (sh.heap.push { cls := .type "set", dict := none, data := .set #[] 0 (.fresh 0 0 led) }).objs.size := by rw [Heap.size_push]; exact Nat.ne_of_lt (Nat.lt_succ_of_lt ll)
        have out : sh.heap.objs.size ∉ [(sh.heap.push { cls := .type "set", dict := none, data := .set #[] 0 (.fresh 0 0 led) }).objs.size, l] := by
          rw [Heap.size_push]
          simp only [List.mem_cons, List.not_mem_nil, or_false, not_or]
          exact ⟨Nat.ne_of_lt (Nat.lt_succ_self _), Nat.ne_of_gt ll⟩
        have fresh : ((sh.heap.push { cls := .type "set", dict := none, data := .set #[] 0 (.fresh 0 0 led) }).push { cls := .type "list_iterator", data := .fields #[.ref l, .int 0 0] }).get? sh.heap.objs.size = some { cls := .type "set", dict := none, data := .set #[] 0 (.fresh 0 0 led) } := Heap.get?_push_of_some _ at0
        refine set_turns ((Walks.list cool _ l apart items).toS) sh.heap.objs.size out ks len small hv ks 0 [] _ rfl (Nat.zero_le _) (Nat.le_refl _) ⟨⟨_, Heap.get?_push_size _ rfl, rfl, rfl⟩, (hl1.push _)⟩ rfl
          (set_congr ((setObjOf_fresh (knd := mixKind prog w) led).setOf fresh (by unfold scanBound; omega)) (fun _ => rfl) rfl) fun s3 mv q => ?_
        obtain ⟨h3, g3, d3, t3, o3⟩ := s3
        cases (show g3 = sh.gens from mv.gens)
        cases (show d3 = sh.drawn from mv.drawn)
        cases (show o3 = sh.os from mv.os)
        refine (show wpAny _ _ _ _ _ _ from wpAny_pure (show wpAny _ _ (ret Value.none) _ _ _ from wpAny_pure ⟨rfl, h3, t3, rfl, q, fun b o hb e => ?_⟩))
        refine mv.heap b o ?_ (Heap.get?_push_of_some _ (Heap.get?_push_of_some _ e))
        simp only [List.mem_cons, List.not_mem_nil, or_false, not_or]
        exact ⟨Nat.ne_of_lt hb, by rw [Heap.size_push]; exact Nat.ne_of_lt (Nat.lt_succ_of_lt hb)⟩
      · cases r2 with
        | error e => exact hr2
        | ok fl2 =>
          cases fl2 with
          | ret r =>
            obtain ⟨rfl, h3, t3, rfl, q, keep⟩ := hr2
            repeat (any_goals (first | assumption | wp_step))
            exact goal _ _ q keep
          | _ => exact hr2.elim
    | _ => exact hr.elim
theorem set_of_tuple {l : Addr} {items : Array Value} {ks : List Key} {Q : Value → Shared → Prop} (hh : A.handled = none) (hl : sh.heap.IsTuple l items) (len : ks.length = items.size) (hv : ∀ (i : Nat) (v : Value), items[i]? = some v → ∃ k, ks[i]? = some k ∧ keyIs k v = true ∧ v.scannable = true) (small : items.size < 4000)
    (goal : ∀ (h' : Heap) (tk : Nat), h'.SetOf (mixKind prog w) sh.heap.objs.size (fun k' => decide (k' ∈ once [] ks)) (once [] ks).length → (∀ b o, b < sh.heap.objs.size → sh.heap.get? b = some o → h'.get? b = some o) → Q (.ref sh.heap.objs.size) { sh with heap := h', toks := tk }) :
    wpAny (model prog w) A (call (.type "set") [.ref l]) Q E sh := by
  obtain ⟨c, tl, hmro⟩ := PySem.F.called_set.mro
  obtain ⟨hmade, hsub⟩ := And.intro PySem.F.called_set.made PySem.F.called_set.sub
  refine wpAny_call (codeAny_of_tree (show wpAny _ _ (callAny (.type "set") _) _ _ _ from wpAny_pure ⟨Code.quiet_builtin _ (by decide +kernel), codeAny_builtin PySem.F.entry_type_call ?_⟩))
  rw [Around.under_plain (weight_type_call_type "set" [.ref l] []) rfl]
  obtain ⟨h1, h2, hct⟩ := And.intro PySem.F.called_set.notType (And.intro PySem.F.called_set.canCreate (PySem.F.typeCall_set_1 (.ref l)))
  repeat (any_goals (first | assumption | wp_step))
  refine codeAny_mono (code_set_new_1 (.ref l) (E := E) (Q₁ := fun obj s1 => ∃ led : Bool, obj = .ref sh.heap.objs.size ∧ s1 = { sh with heap := sh.heap.push { cls := .type "set", dict := none, data := .set #[] 0 (.fresh 0 0 led) } }) fun led => ⟨led, rfl, rfl⟩) fun r s1 hr => ?_
  cases r with
  | error e => exact hr
  | ok fl =>
    cases fl with
    | ret obj =>
      obtain ⟨led, rfl, rfl⟩ := hr
      have at0 : (sh.heap.push { cls := .type "set", dict := none, data := .set #[] 0 (.fresh 0 0 led) }).get? sh.heap.objs.size = some { cls := .type "set", dict := none, data := .set #[] 0 (.fresh 0 0 led) } := Heap.get?_push_size _ rfl
      have hT : Shared.TypeIs { sh with heap := sh.heap.push { cls := .type "set", dict := none, data := .set #[] 0 (.fresh 0 0 led) } } (.ref sh.heap.objs.size) "set" := ⟨_, at0, rfl⟩
      obtain ⟨hli, hbi⟩ := And.intro PySem.F.called_set.init.lookup (PySem.F.called_set.init.bind (.ref sh.heap.objs.size))
      repeat (any_goals (first | assumption | wp_step))
      refine codeAny_mono (codeAny_call_builtin (R := wants (fun r s2 => r = .none ∧ ∃ h' tk, s2 = { sh with heap := h', toks := tk } ∧ h'.SetOf (mixKind prog w) sh.heap.objs.size (fun k' => decide (k' ∈ once [] ks)) (once [] ks).length ∧
          (∀ b o, b < sh.heap.objs.size → sh.heap.get? b = some o → h'.get? b = some o)) E) PySem.F.called_set.init.plain PySem.F.entry_set_init (check_set_init_1 hT ?_)) fun r2 s2 hr2 => ?_
      · obtain ⟨⟨ocls, odict, odata, oslots⟩, hol, hcl, nl, hdl⟩ := hl
        cases (show ocls = _ from hcl)
        cases (show odata = _ from hdl)
        have hol1 : (sh.heap.push { cls := .type "set", dict := none, data := .set #[] 0 (.fresh 0 0 led) }).get? l = some { cls := .type "tuple", dict := odict, data := .seq items nl, slots := oslots } := Heap.get?_push_of_some _ hol
        obtain ⟨hsls, hslf⟩ := And.intro PySem.F.sub_tuple_set PySem.F.sub_tuple_frozenset
        have hne : (Value.type "tuple" == Value.type "dict") = false := by decide
        have hl1 : (sh.heap.push { cls := .type "set", dict := none, data := .set #[] 0 (.fresh 0 0 led) }).IsTuple l items := ⟨_, hol1, rfl, nl, rfl⟩
        unfold Builtin.«set.__init__» noKeywords Builtin.Frozenset.updateFrom
        generalize hPI : pyIter = PI
        wp_walk
        subst hPI
        refine wpAny_pyIter_tuple hl1 (wpAny_bind (wpAny_runValue ?_))
        have ll : l < sh.heap.objs.size := Heap.lt_size hol
        have cool : A.in1.in1.in1.handled = none := by simp [hh]
        have apart : l ≠ (sh.heap.push { cls := .type "set", dict := none, data := .set #[] 0 (.fresh 0 0 led) }).objs.size := by rw [Heap.size_push]; exact Nat.ne_of_lt (Nat.lt_succ_of_lt ll)
        have out : sh.heap.objs.size ∉ [(sh.heap.push { cls := .type "set", dict := none, data := .set #[] 0 (.fresh 0 0 led) }).objs.size, l] := by
          rw [Heap.size_push]
          simp only [List.mem_cons, List.not_mem_nil, or_false, not_or]
          exact ⟨Nat.ne_of_lt (Nat.lt_succ_self _), Nat.ne_of_gt ll⟩
        have fresh : ((sh.heap.push { cls := .type "set", dict := none, data := .set #[] 0 (.fresh 0 0 led) }).push { cls := .type "tuple_iterator", data := .fields #[.ref l, .int 0 0] }).get? sh.heap.objs.size = some { cls := .type "set", dict := none, data := .set #[] 0 (.fresh 0 0 led) } := Heap.get?_push_of_some _ at0
        refine set_turns ((Walks.tuple cool _ l apart items).toS) sh.heap.objs.size out ks len small hv ks 0 [] _ rfl (Nat.zero_le _) (Nat.le_refl _) ⟨⟨_, Heap.get?_push_size _ rfl, rfl, rfl⟩, (hl1.push _)⟩ rfl
          (set_congr ((setObjOf_fresh (knd := mixKind prog w) led).setOf fresh (by unfold scanBound; omega)) (fun _ => rfl) rfl) fun s3 mv q => ?_
        obtain ⟨h3, g3, d3, t3, o3⟩ := s3
        cases (show g3 = sh.gens from mv.gens)
        cases (show d3 = sh.drawn from mv.drawn)
        cases (show o3 = sh.os from mv.os)
        refine (show wpAny _ _ _ _ _ _ from wpAny_pure (show wpAny _ _ (ret Value.none) _ _ _ from wpAny_pure ⟨rfl, h3, t3, rfl, q, fun b o hb e => ?_⟩))
        refine mv.heap b o ?_ (Heap.get?_push_of_some _ (Heap.get?_push_of_some _ e))
        simp only [List.mem_cons, List.not_mem_nil, or_false, not_or]
        exact ⟨Nat.ne_of_lt hb, by rw [Heap.size_push]; exact Nat.ne_of_lt (Nat.lt_succ_of_lt hb)⟩
      · cases r2 with
        | error e => exact hr2
        | ok fl2 =>
          cases fl2 with
          | ret r =>
            obtain ⟨rfl, h3, t3, rfl, q, keep⟩ := hr2
            repeat (any_goals (first | assumption | wp_step))
            exact goal _ _ q keep
          | _ => exact hr2.elim
    | _ => exact hr.elim
end

/-! ### len(set(xs)) -/
def keysOf : List PV → Option (List Key)
  | [] => some []
  | x :: xs => match kP x, keysOf xs with
    | some k, some ks => some (k :: ks)
    | _, _ => none
theorem keysOf_len : ∀ {xs : List PV} {ks : List Key}, keysOf xs = some ks → ks.length = xs.length
  | [], _, h => by cases h; rfl
  | x :: xs, _, h => by
    unfold keysOf at h
    split at h
    · rename_i k ks e1 e2; cases h; simp [keysOf_len e2]
    · cases h
theorem keysOf_at : ∀ {xs : List PV} {ks : List Key} {i : Nat} {k : Key}, keysOf xs = some ks → ks[i]? = some k → ∃ x, xs[i]? = some x ∧ kP x = some k
  | [], _, i, k, h, e => by cases h; simp at e
  | x :: xs, _, i, k, h, e => by
    unfold keysOf at h
    split at h
    · rename_i k' ks' e1 e2
      cases h
      cases i with
      | zero => simp at e; subst e; exact ⟨x, rfl, e1⟩
      | succ i =>
        obtain ⟨y, q1, q2⟩ := keysOf_at (xs := xs) (ks := ks') (i := i) (k := k) e2 (by simpa using e)
        exact ⟨y, by simpa using q1, q2⟩
    · cases h
def uLenSet : O1 := fun x s =>
  match sqOf s x with
  | some xs => if xs.length < 4000 then (keysOf xs).map fun ks => (.int ((once [] ks).length : Nat), s) else none
  | none => none
section
variable {X : Cx} {Ex : XK} {pos : Pos}
theorem se_lenSet {a : Expr} {p p2 q : Pos} {m : EM} (hc : X.calm = true) (hg : Gl X "len") (hm : X.mg "len" = none) (hg2 : Gl X "set") (hm2 : X.mg "set" = none) (ha : PE X a (tE (gx X) Ex m))
    (na : starEach [a] X.env = (false, eval a X.env) :: starEach [] X.env := by rfl) : PE X (.Call (.Name "len" p) [.Call (.Name "set" p2) [a] [] q] [] pos) (tE (gx X) Ex (eUn uLenSet m)) := by
  refine ⟨fun pins sh σ H Q I ⟨W, s, env, hE, hs, h⟩ => ?_⟩
  refine Call_ (ld_blt I hg hm boot_len (PyProof.Rows.callWith_builtin1 (PyProof.Rows.args_cons (Call_ (ld_blt I hg2 hm2 boot_set ?_)) rfl) rfl rfl))
  refine PyProof.Rows.callWith_type1 (PyProof.Rows.args_cons (thn (ha.run pins sh σ H (fun v H1 => ∃ W1 s1 x r s', Rep X.K W1 x v ∧ StR (gx X) W1 H1 s1 ∧ uLenSet x s1 = some (r, s') ∧ Cont (gx X) W1 Q r s') I ?_) fun u sh1 got => PyProof.Rows.args_nil ?_) na) na rfl
  · refine tE_bind hE hs h fun x s1 W1 H1 u l1 he1 hs1 r1 h1 => ?_
    obtain ⟨v, s', e, hc⟩ := h1.lift
    exact ⟨W1, s1, x, v, s', r1, hs1, e, hc.mono l1⟩
  · obtain ⟨v, H1, I1, ru, W1, s1, x, r, s', rx, hs1, e, hcn⟩ := got
    unfold uLenSet at e
    split at e
    case h_2 => cases e
    rename_i xs ex
    split at e
    case isFalse => cases e
    rename_i small
    obtain ⟨ks, ek, e'⟩ := Option.map_eq_some_iff.mp e
    cases e'
    obtain ⟨l, vs, rfl, hq, rr⟩ := sqOf_ok hs1 rx ex
    cases ru
    have fin : ∀ (h' : Heap) (tk : Nat), h'.SetOf (mixKind X.prog X.w) sh1.heap.objs.size (fun k' => decide (k' ∈ once [] ks)) (once [] ks).length → (∀ b o, b < sh1.heap.objs.size → sh1.heap.get? b = some o → h'.get? b = some o) →
        wpAny (model X.prog X.w) X.A (spliced (backTo pos (starEach [] X.env))) (fun vs s2 => wpAny (model X.prog X.w) X.A (call (.builtin "len") (Value.ref sh1.heap.objs.size :: vs)) (EP X pins σ Q) X.xe s2) X.xe { sh1 with heap := h', toks := tk } := fun h' tk hS hk => by
      refine PyProof.Rows.args_nil ?_
      obtain ⟨o, es, ep, t, ho, hex, hd, _, _, _, hf, hn⟩ := hS
      have I2 : Inv X pins σ H1 { sh1 with heap := h', toks := tk } := I1.kept fun b o e => hk b o (Heap.lt_size e) e
      have hb : (once [] ks).length ≤ xs.length := by have := once_len [] ks; rw [keysOf_len ek] at this; simpa using this
      exact call_len_set ho hex hd hf (by rw [hn]; omega) ⟨.int ((once [] ks).length : Nat), H1, I2.tok _, ⟨_, by rw [hn]⟩, Cont.here hcn hs1 (.int _)⟩
    have val : ∀ (its : List Value), Vals vs its → ∀ (i : Nat) (v : Value), its.toArray[i]? = some v → ∃ k, ks[i]? = some k ∧ keyIs k v = true ∧ v.scannable = true := fun its rv i v hv => by
      have hv' : its[i]? = some v := by simpa using hv
      have hi : i < its.length := (List.getElem?_eq_some_iff.mp hv').1
      have hi2 : i < ks.length := by rw [keysOf_len ek, rr.length, rv.length]; exact hi
      have ek2 := List.getElem?_eq_getElem hi2
      obtain ⟨y, ey, ky⟩ := keysOf_at ek ek2
      obtain ⟨vv, ev, ry⟩ := rr.get ey
      obtain ⟨u, eu, ru⟩ := rv.get ev
      rw [hv'] at eu; cases eu
      refine ⟨_, ek2, ?_⟩
      have := kP_ok ry ky
      rw [this] at ru
      refine ⟨?_, key_scan ru⟩
      generalize ks[i] = k at ru
      cases k with
      | inl i => obtain ⟨t, rfl⟩ := ru; exact keyIs_int _ _
      | inr z => obtain ⟨t, rfl⟩ := ru; exact keyIs_str _ _
    rcases hq with hq | hq
    · obtain ⟨its, rv, pl, hz⟩ := I1.list hq
      exact set_of_list (I1.ok.hd hc) pl.isList (by rw [List.size_toArray, ← rv.length, ← rr.length, keysOf_len ek]) (val its rv) (by rw [List.size_toArray, ← rv.length, ← rr.length]; exact small) fin
    · obtain ⟨its, rv, pl, hz⟩ := I1.tuple hq
      exact set_of_tuple (I1.ok.hd hc) pl (by rw [List.size_toArray, ← rv.length, ← rr.length, keysOf_len ek]) (val its rv) (by rw [List.size_toArray, ← rv.length, ← rr.length]; exact small) fin
end
end Z

set_option Elab.async false
set_option linter.all false
set_option maxRecDepth 100000
set_option maxHeartbeats 4000000
/-! Z13: a dict beside a text by == and !=. -/
namespace Z
open PySem PySem.Spec PyProof.Rows L2
variable [LamT]
open AutoSeq1 (wpAny_loadPart')

theorem dict_ne_str (l : Addr) (o : Obj) (b : Str) (u : Tok) : Meets (Builtin.«dict.__ne__» ⟨[.ref l, .str b u], []⟩) (fun _ R s => (l == sysModules) = false ∧ s.heap.get? l = some o ∧ o.cls = .type "dict" ∧ R (.ok (.ret .notImplemented)) s) :=
  .of_wp fun prog w A R s h => by
    obtain ⟨hp, g, d, tk, os⟩ := s
    obtain ⟨hs, hl, hc, h⟩ := h
    have f1 := PySem.F.sub_str_dict
    wp_walk using wpAny_loadPart' hl
    exact ⟨_, rfl, h⟩
theorem dict_eq_str (l : Addr) (o : Obj) (b : Str) (u : Tok) : Meets (Builtin.«dict.__eq__» ⟨[.ref l, .str b u], []⟩) (fun _ R s => (l == sysModules) = false ∧ s.heap.get? l = some o ∧ o.cls = .type "dict" ∧ R (.ok (.ret .notImplemented)) s) :=
  .of_wp fun prog w A R s h => by
    obtain ⟨hp, g, d, tk, os⟩ := s
    obtain ⟨hs, hl, hc, h⟩ := h
    have f1 := PySem.F.sub_str_dict
    wp_walk using wpAny_loadPart' hl
    exact ⟨_, rfl, h⟩
theorem str_ne_dict (l : Addr) (o : Obj) (es : Array DictEntry) (ep : Nat) (b : Str) (u : Tok) : Meets (Builtin.«str.__ne__» ⟨[.str b u, .ref l], []⟩) (fun _ R s => s.heap.get? l = some o ∧ o.cls = .type "dict" ∧ o.data = .dict es ep ∧ R (.ok (.ret .notImplemented)) s) :=
  .of_wp fun prog w A R s h => by
    obtain ⟨hp, g, d, tk, os⟩ := s
    obtain ⟨hl, hc, hdt, h⟩ := h
    obtain ⟨c, dd, dt, sl⟩ := o
    cases (show c = _ from hc)
    cases (show dt = _ from hdt)
    wp_walk using wpAny_loadPart' hl, wpAny_load hl
    exact ⟨_, rfl, h⟩
theorem str_eq_dict (l : Addr) (o : Obj) (es : Array DictEntry) (ep : Nat) (b : Str) (u : Tok) : Meets (Builtin.«str.__eq__» ⟨[.str b u, .ref l], []⟩) (fun _ R s => s.heap.get? l = some o ∧ o.cls = .type "dict" ∧ o.data = .dict es ep ∧ R (.ok (.ret .notImplemented)) s) :=
  .of_wp fun prog w A R s h => by
    obtain ⟨hp, g, d, tk, os⟩ := s
    obtain ⟨hl, hc, hdt, h⟩ := h
    obtain ⟨c, dd, dt, sl⟩ := o
    cases (show c = _ from hc)
    cases (show dt = _ from hdt)
    wp_walk using wpAny_loadPart' hl, wpAny_load hl
    exact ⟨_, rfl, h⟩
theorem rc_dict_str {A : Around} {s : Shared} {l : Addr} {o : Obj} (b : Str) (u : Tok) (hs : (l == sysModules) = false) (hl : s.heap.get? l = some o) (hc : o.cls = .type "dict") {es : Array DictEntry} {ep : Nat} (hd : o.data = .dict es ep) (hu : A.units < cLine) : SeqAt.RcAt A s (.ref l) (.str b u) false ∧ SeqAt.RcNeAt A s (.ref l) (.str b u) true := by
  refine ⟨fun prog w E Q h => ?_, fun prog w E Q h => ?_⟩
  · exact SeqAt.rc_eq_decline_or (k := false) ⟨_, hl, hc⟩ (typeIs_str s b u) (by decide) PySem.F.sub_str_dict PySem.F.slot_dict_eq PySem.F.slot_str_eq_refl
      (fun _ hq => call_meets PySem.F.slot_dict_eq ⟨_, hl, hc⟩ PySem.F.entry_dict_eq (PySem.F.args_dict_eq_2 _ _) (dict_eq_str l o b u) ⟨hs, hl, hc, hq⟩)
      (fun _ hq => call_meets PySem.F.slot_str_eq_refl (typeIs_str s b u) PySem.F.entry_str_eq (PySem.F.args_str_eq_2 _ _) (str_eq_dict l o es ep b u) ⟨hl, hc, hd, hq⟩)
      (fun _ hq => wpAny_of_eq (rfl : isSame (.ref l) (.str b u) = pure false) hq) (.inr hu) h
  · exact SeqAt.rc_ne_decline_or (k := false) ⟨_, hl, hc⟩ (typeIs_str s b u) (by decide) PySem.F.sub_str_dict PySem.F.slot_dict_ne PySem.F.slot_str_ne_refl
      (fun _ hq => call_meets PySem.F.slot_dict_ne ⟨_, hl, hc⟩ PySem.F.entry_dict_ne (PySem.F.args_dict_ne_2 _ _) (dict_ne_str l o b u) ⟨hs, hl, hc, hq⟩)
      (fun _ hq => call_meets PySem.F.slot_str_ne_refl (typeIs_str s b u) PySem.F.entry_str_ne (PySem.F.args_str_ne_2 _ _) (str_ne_dict l o es ep b u) ⟨hl, hc, hd, hq⟩)
      (fun _ hq => wpAny_of_eq (rfl : isSame (.ref l) (.str b u) = pure false) hq) (.inr hu) h
def dicStr (x y : PV) : Bool :=
  match x, y with
  | .dic _, .str _ => true
  | _, _ => false
def oEqD : O2 := fun x y s => if dicStr x y then some (.bl false, s) else oEq x y s
def oNeD : O2 := fun x y s => if dicStr x y then some (.bl true, s) else oNe x y s
section
variable {X : Cx}
theorem r_eqD (hu : X.A.units + 64 < cLine) : OpR X (compareOp .Eq) (rM (gx X) oEqD) := by
  intro pins sh σ H x y v u Q I rx ry ⟨W, st, px, py, r, s', r1, r2, hs, e, hc⟩
  unfold oEqD at e
  split at e
  case isFalse => exact r_eq hu pins sh σ H x y v u Q I rx ry ⟨W, st, px, py, r, s', r1, r2, hs, e, hc⟩
  rename_i hd
  cases e
  cases r1 <;> try (cases hd; done)
  cases r2 <;> try (cases hd; done)
  rename_i kvs h q z
  cases rx
  obtain ⟨t, rfl⟩ := ry
  obtain ⟨_, hsys, vs, kv, o, es, ep, ho, hx, hdd, _⟩ := I.hok _ _ (hs.fro _ _ h)
  exact (rc_dict_str (A := X.A) z t hsys ho hx.1 hdd (by omega)).1 _ _ _ _ ⟨.bl false, H, I, rfl, hc.here hs (.bl false)⟩
theorem r_neD (hu : X.A.units + 64 < cLine) : OpR X (compareOp .NotEq) (rM (gx X) oNeD) := by
  intro pins sh σ H x y v u Q I rx ry ⟨W, st, px, py, r, s', r1, r2, hs, e, hc⟩
  unfold oNeD at e
  split at e
  case isFalse => exact r_ne hu pins sh σ H x y v u Q I rx ry ⟨W, st, px, py, r, s', r1, r2, hs, e, hc⟩
  rename_i hd
  cases e
  cases r1 <;> try (cases hd; done)
  cases r2 <;> try (cases hd; done)
  rename_i kvs h q z
  cases rx
  obtain ⟨t, rfl⟩ := ry
  obtain ⟨_, hsys, vs, kv, o, es, ep, ho, hx, hdd, _⟩ := I.hok _ _ (hs.fro _ _ h)
  exact (rc_dict_str (A := X.A) z t hsys ho hx.1 hdd (by omega)).2 _ _ _ _ ⟨.bl true, H, I, rfl, hc.here hs (.bl true)⟩
end
end Z

set_option Elab.async false
set_option linter.all false
set_option maxRecDepth 100000
set_option maxHeartbeats 4000000
/-! Z14: calls by keywords alone; what a def's binding is; short words for the printed texts. -/
namespace Z
open PySem PySem.Spec PyProof.Rows L2
variable [LamT]

def eCallK0 (f : FM) (ix : List Nat) (mk : AM) : EM := fun env s => (mk env s).bind fun zs s2 => if zs.length = ix.length then f (pick ix 0 [] zs) s2 else .fail
section
variable {X : Cx} {CX : CXT} {k : Nat} {a : Addr} {fd : FuncData} {ps : List Str} {f : FM} {Ex : XK} {x : Str} {p pos : Pos}
theorem se_callK0 {kws : List Keyword} {mk : AM} {ks : List Str} {ix : List Nat} (F : FnZ X.prog X.w X.K X.mg X.base CX k a fd ps f) (hr : Room k X.A) (gd : X.A.guards = some []) (hg : Gl X x) (hm : X.mg x = some (.ref a)) (hk : PySem.W.keepIn X.K (.ref a) = true) (hb : KBz X.K fd ps ks ix 0) (hx : Passes CX X Ex) (hix : ix.length = ks.length)
    (hkw : PK X kws (tA (gx X) Ex mk)) (hall : (backToKw pos (keywordEach kws X.env)).all (·.1.isSome) = true := by rfl) (hks : (backToKw pos (keywordEach kws X.env)).filterMap (·.1) = ks := by rfl) (hdb : (x == ("__debug__" : Str)) = false := by decide)
    (hpl : ((backTo pos (starEach [] X.env)).any (·.1) || (backToKw pos (keywordEach kws X.env)).any (·.1.isNone)) = false := by rfl) : PE X (.Call (.Name x p) [] kws pos) (tE (gx X) Ex (eCallK0 f ix mk)) := by
  refine ⟨fun pins sh σ H Q I ⟨W, s, env, hE, hs, h⟩ => wpAny_Call_Name_kw (ld_glob I hg hm ?_ hdb)⟩
  refine PySem.W.callWith_KW0 (h₀ := X.base) I.ok.mod.kin hk hall (thn (hkw.run pos pins sh σ H (fun zs H2 => zs.length = ix.length ∧ spZ (gx X) f (pick ix 0 [] zs) H2 Q Ex) I ?_) fun ws s2 ⟨zs, H2, I2, rz, q1, q2⟩ => ⟨I2.kIn, ?_⟩) hpl
  · refine tA_bind hE hs h fun ys s2 W2 H2 ws l2 he2 hs2 r2 h2 => ?_
    split at h2
    · rename_i hl
      exact ⟨by rw [← r2.length]; exact hl, W2, s2, _, reps_pick .nil r2, hs2, h2.mono (fun _ _ z => z.mono l2) fun _ _ _ z => z⟩
    · exact h2.elim
  · rw [hks]
    exact call_fzk (us := []) (vs := []) F hr gd hb hx I2 .nil rz rfl (by rw [← hix]; exact q1) q2
end
theorem kbz_of {K : PySem.W.Frag} {x qual : Str} {params : Arguments} {body : List Stmt} {scope : Scope} {kws : List (Str × V)} {f : Addr} {fd : FuncData} {ps ks : List Str} {ix : List Nat} {n : Nat} (F : FunD K x qual params body scope [] kws f fd)
    (h : ∀ (kV doc pm : Value) (an : Option Addr) (cdv ct : Value) (us ws : List Value), us.length = n → ws.length = ks.length → bindArgs (PySem.W.fnOf x qual params body scope .none kV doc pm an cdv ct) ⟨us, ks.zip ws⟩ = pure (ps.zip (pick ix n us ws))) : KBz K fd ps ks ix n := by
  obtain ⟨oc, od, dV, kV, doc, pm, an, cdv, ct, osl, rfl, lk, hcd, hD, hK⟩ := F.ex
  rcases hD with ⟨_, rfl⟩ | ⟨e, _⟩
  · exact fun sh us ws _ h1 h2 => .of_eq (h kV doc pm an cdv ct us ws h1 h2)
  · exact absurd rfl e
end Z

set_option Elab.async false
set_option linter.all false
set_option maxRecDepth 100000
set_option maxHeartbeats 4000000
/-! Z15: written dicts of the module with text keys: d[k], k in d; the head's Hook with them. -/
namespace Z
open PySem PySem.Spec PyProof.Rows L2
variable [LamT]
def getS (kvs : List (Str × PV)) (z : Str) : Option PV := (kvs.find? fun kv => decide (kv.1 = z)).map (·.2)
/-- a name of the module that stands for a written dict -/
def KDc (w : World) (K : PySem.W.Frag) (mg : Str → Option Value) (x : Str) (kvs : List (Str × PV)) : Prop :=
  ∃ a es n, mg x = some (.ref a) ∧ KDict K w a es n ∧ ∀ z : Str, (∃ c u v, getS kvs z = some c ∧ PySem.W.nsIn K a z = some (some u) ∧ RelV v u ∧ ∀ W, Rep K W c v) ∨ (getS kvs z = none ∧ PySem.W.nsIn K a z = some none)
def eKIx (kvs : List (Str × PV)) (m : EM) : EM := fun env s => (m env s).bind fun x s1 =>
  match x with
  | .str z => match getS kvs z with
    | some c => .ok c s1
    | none => .fail
  | _ => .fail
def eKIn (kvs : List (Str × PV)) (m : EM) : EM := fun env s => (m env s).bind fun x s1 =>
  match x with
  | .str z => .ok (.bl (getS kvs z).isSome) s1
  | _ => .fail
def eKNin (kvs : List (Str × PV)) (m : EM) : EM := fun env s => (m env s).bind fun x s1 =>
  match x with
  | .str z => .ok (.bl (!(getS kvs z).isSome)) s1
  | _ => .fail
section
variable {X : Cx} {Ex : XK} {b : Expr} {mb : EM} {x : Str} {kvs : List (Str × PV)} {pos p1 : Pos}
theorem se_kix (hg : Gl X x) (h : KDc X.w X.K X.mg x kvs) (hb : PE X b (tE (gx X) Ex mb)) (hd : (x == ("__debug__" : Str)) = false := by decide) (hp : PlainIx b := by exact fun _ _ => rfl) :
    PE X (.Subscript (.Name x p1) b pos) (tE (gx X) Ex (eKIx kvs mb)) := by
  obtain ⟨a, es, n, h1, D, h2⟩ := h
  refine pe_weak (pe_ix ix_kdict (pe_glob (v := .ref a) hg h1 rfl hd) hb hp) fun σ H Q h => ?_
  obtain ⟨W, s, env, he, hs, h⟩ := h
  refine tE_bind he hs h fun y s1 W1 H1 u l1 he1 hs1 r1 q => ?_
  cases y with
  | str z =>
    cases r1
    rcases h2 z with ⟨c, u, v, e1, e2, r, rc⟩ | ⟨e1, e2⟩
    · have q : Post (match getS kvs z with | some c => .ok c s1 | none => .fail) _ _ := q
      rw [e1] at q
      exact ⟨a, z, v, rfl, rfl, ⟨es, n, u, D.at_, D.lit, e2, r⟩, Cont.here (Cont.mono q l1) hs1 (rc _)⟩
    · have q : Post (match getS kvs z with | some c => .ok c s1 | none => .fail) _ _ := q
      rw [e1] at q
      exact q.elim
  | _ => exact q.elim
theorem kin_of {a : Addr} (h2 : ∀ z : Str, (∃ c u v, getS kvs z = some c ∧ PySem.W.nsIn X.K a z = some (some u) ∧ RelV v u ∧ ∀ W, Rep X.K W c v) ∨ (getS kvs z = none ∧ PySem.W.nsIn X.K a z = some none)) {σ : L2.St} {H : Hp} {Q : VK} (h : tE (gx X) Ex (eKIn kvs mb) σ H Q) :
    tOp (fun x y H Q => ∃ (z : Str) (r : Option Value), x = .str z ∧ y = .ref a ∧ PySem.W.nsIn X.K a z = some r ∧ Q (.bl r.isSome) H) (tE (gx X) Ex mb) (tC (.ref a)) σ H Q := by
  obtain ⟨W, s, env, he, hs, h⟩ := h
  refine tE_bind he hs h fun y s1 W1 H1 u l1 he1 hs1 r1 q => ?_
  cases y with
  | str z =>
    cases r1
    have q : Cont _ _ _ _ _ := q
    rcases h2 z with ⟨c, u, v, e1, e2, r, rc⟩ | ⟨e1, e2⟩
    · refine ⟨z, _, rfl, rfl, e2, ?_⟩
      rw [e1] at q
      exact Cont.here (Cont.mono q l1) hs1 (.bl true)
    · refine ⟨z, _, rfl, rfl, e2, ?_⟩
      rw [e1] at q
      exact Cont.here (Cont.mono q l1) hs1 (.bl false)
  | _ => exact q.elim
theorem se_kin (hg : Gl X x) (h : KDc X.w X.K X.mg x kvs) (hb : PE X b (tE (gx X) Ex mb)) (hd : (x == ("__debug__" : Str)) = false := by decide) :
    PE X (.Compare b [.In] [.Name x p1] pos) (tE (gx X) Ex (eKIn kvs mb)) := by
  obtain ⟨a, es, n, h1, D, h2⟩ := h
  exact pe_weak (pe_cmpR (op_in_kd D) hb (pe_glob (v := .ref a) hg h1 rfl hd) rfl) fun σ H Q h => kin_of h2 h
theorem st_kin (hg : Gl X x) (h : KDc X.w X.K X.mg x kvs) (hb : PE X b (tE (gx X) Ex mb)) (hd : (x == ("__debug__" : Str)) = false := by decide) :
    PT X (.Compare b [.In] [.Name x p1] pos) (tT (gx X) Ex (tB (eKIn kvs mb))) := by
  obtain ⟨a, es, n, h1, D, h2⟩ := h
  exact pt_weak (pt_cmpR (op_in_kd D) hb (pe_glob (v := .ref a) hg h1 rfl hd) rfl) fun σ H Q h => kin_of h2 (tE_bl h)
theorem knin_of {a : Addr} (h2 : ∀ z : Str, (∃ c u v, getS kvs z = some c ∧ PySem.W.nsIn X.K a z = some (some u) ∧ RelV v u ∧ ∀ W, Rep X.K W c v) ∨ (getS kvs z = none ∧ PySem.W.nsIn X.K a z = some none)) {σ : L2.St} {H : Hp} {Q : VK} (h : tE (gx X) Ex (eKNin kvs mb) σ H Q) :
    tOp (fun x y H Q => ∃ (z : Str) (r : Option Value), x = .str z ∧ y = .ref a ∧ PySem.W.nsIn X.K a z = some r ∧ Q (.bl (!r.isSome)) H) (tE (gx X) Ex mb) (tC (.ref a)) σ H Q := by
  obtain ⟨W, s, env, he, hs, h⟩ := h
  refine tE_bind he hs h fun y s1 W1 H1 u l1 he1 hs1 r1 q => ?_
  cases y with
  | str z =>
    cases r1
    have q : Cont _ _ _ _ _ := q
    rcases h2 z with ⟨c, u, v, e1, e2, r, rc⟩ | ⟨e1, e2⟩
    · refine ⟨z, _, rfl, rfl, e2, ?_⟩
      rw [e1] at q
      exact Cont.here (Cont.mono q l1) hs1 (.bl false)
    · refine ⟨z, _, rfl, rfl, e2, ?_⟩
      rw [e1] at q
      exact Cont.here (Cont.mono q l1) hs1 (.bl true)
  | _ => exact q.elim
theorem se_knin (hg : Gl X x) (h : KDc X.w X.K X.mg x kvs) (hb : PE X b (tE (gx X) Ex mb)) (hd : (x == ("__debug__" : Str)) = false := by decide) :
    PE X (.Compare b [.NotIn] [.Name x p1] pos) (tE (gx X) Ex (eKNin kvs mb)) := by
  obtain ⟨a, es, n, h1, D, h2⟩ := h
  exact pe_weak (pe_cmpR (op_notIn_kd D) hb (pe_glob (v := .ref a) hg h1 rfl hd) rfl) fun σ H Q h => knin_of h2 h
theorem st_knin (hg : Gl X x) (h : KDc X.w X.K X.mg x kvs) (hb : PE X b (tE (gx X) Ex mb)) (hd : (x == ("__debug__" : Str)) = false := by decide) :
    PT X (.Compare b [.NotIn] [.Name x p1] pos) (tT (gx X) Ex (tB (eKNin kvs mb))) := by
  obtain ⟨a, es, n, h1, D, h2⟩ := h
  exact pt_weak (pt_cmpR (op_notIn_kd D) hb (pe_glob (v := .ref a) hg h1 rfl hd) rfl) fun σ H Q h => knin_of h2 (tE_bl h)
end

/-! ### the head -/
theorem find_no {P : Params} {z : Str} : ∀ {l : List DictEntry} {ks : List Str}, l.map He.keyOf = He.keysIn P ks → z ∉ ks → l.find? (·.key.isStr z) = none ∧ l.any (·.refKey) = false
  | [], _, _, _ => ⟨rfl, rfl⟩
  | e :: r, [], h, _ => by cases h
  | e :: r, k :: ks, h, hz => by
    have h1 : He.keyOf e :: r.map He.keyOf = some (k, PyData.keyHash P k) :: He.keysIn P ks := h
    injection h1 with h2 h3
    obtain ⟨i1, i2⟩ := find_no h3 (fun q => hz (List.mem_cons_of_mem _ q))
    unfold He.keyOf at h2
    split at h2
    · rename_i x t q
      have h4 := Option.some.inj h2
      obtain ⟨h5, h6⟩ := Prod.mk.inj h4
      have hn : e.key.isStr z = false := by
        rw [q, PySem.W.isStr_of]
        have : x ≠ z := fun y => hz (by rw [← y, h5]; exact List.mem_cons_self)
        simp [Value.isStrOf, this]
      have hr : e.refKey = false := by unfold DictEntry.refKey; rw [q]
      exact ⟨by rw [List.find?_cons, hn]; exact i1, by rw [List.any_cons, hr, i2]; rfl⟩
    · cases h2
abbrev TabZ : Type := Str × List (Str × PV)
abbrev AlK : Type := AlZ × (Bool × List (Option (List (Option (Str × Int)))))
def kconB (K : PySem.W.Frag) (t : TabZ) : Bool := (match PySem.W.nsIn K mainGlobals t.1 with
  | some (some (.ref a)) => decide (a = He.ga K t.1)
  | _ => false) && t.2.all fun q => match PySem.W.nsIn K (He.ga K t.1) q.1 with
    | some (some u) => cRel K q.2 u
    | _ => false
def obsK (fa : List He.Fa) (fn : List He.DefD) (cs : List (Str × PV)) (ts : List TabZ) (K : PySem.W.Frag) : AlK := (obsZ fa fn cs K, ts.all (kconB K), ts.map fun t => He.dicW K (He.ga K t.1))
def valK (fn : List He.DefD) (ts : List TabZ) (w : World) : AlK := ((true, He.valD fn), true, ts.map fun t => some (He.keysIn w.params (t.2.map (·.1))))
def obsKG (n : Nat) (fa : List He.Fa) (fn : List He.DefD) (cs : List (Str × PV)) (ts : List TabZ) (g : Addr → Option Obj) : AlK := obsK fa fn cs ts (He.frG g (sysModules :: He.asD g n))
def SaysK (fa : List He.Fa) (fn : List He.DefD) (cs : List (Str × PV)) (ts : List TabZ) (w : World) (K : PySem.W.Frag) : Prop := obsK fa fn cs ts K = valK fn ts w
def hookK (n : Nat) (fa : List He.Fa) (fn : List He.DefD) (cs : List (Str × PV)) (ts : List TabZ) : PySem.W.Hook where
  α := AlK
  obs := fun s => obsKG n fa fn cs ts s.heap.get?
  val := fun w => valK fn ts w
  says := fun w h => ∃ K : PySem.W.Frag, K.In h ∧ SaysK fa fn cs ts w K
  of := fun _ _ e => ⟨_, He.frG_in, e⟩
  keeps := fun _ _ _ ⟨K, hK, c⟩ k => ⟨K, PySem.W.Frag.In.keeps hK k, c⟩
theorem obsKG_eq {n : Nat} {fa : List He.Fa} {fn : List He.DefD} {cs : List (Str × PV)} {ts : List TabZ} {g : Addr → Option Obj} {s : Shared} (h : ∀ a, g a = s.heap.get? a) : obsKG n fa fn cs ts g = (hookK n fa fn cs ts).obs s := by
  rw [show g = s.heap.get? from funext h]; rfl
section
variable {fa : List He.Fa} {fn : List He.DefD} {cs : List (Str × PV)} {ts : List TabZ} {w : World} {K : PySem.W.Frag} {h : Heap} {mg : Str → Option Value}
theorem SaysK.z (c : SaysK fa fn cs ts w K) : SaysZ fa fn cs K :=
  ⟨congrArg (fun z : AlK => z.1.2) c, congrArg (fun z : AlK => z.1.1) c⟩
theorem SaysK.tab (c : SaysK fa fn cs ts w K) (X : K.In h) (G : h.Ns mainGlobals mg) (i : Nat) {x : Str} {kvs : List (Str × PV)} (e : ts[i]? = some (x, kvs) := by rfl) : KDc w K mg x kvs := by
  have e1 : ts.all (kconB K) = true := congrArg (fun z : AlK => z.2.1) c
  have e2 : ts.map (fun t => He.dicW K (He.ga K t.1)) = ts.map fun t => some (He.keysIn w.params (t.2.map (·.1))) := congrArg (fun z : AlK => z.2.2) c
  have e3 : (ts.map fun t => He.dicW K (He.ga K t.1))[i]? = (ts.map fun t => some (He.keysIn w.params (t.2.map (·.1))))[i]? := by rw [e2]
  rw [List.getElem?_map, List.getElem?_map, e] at e3
  have e4 : He.dicW K (He.ga K x) = some (He.keysIn w.params (kvs.map (·.1))) := Option.some.inj e3
  obtain ⟨es, n, D⟩ := He.dicW_ok e4
  obtain ⟨k1, k2⟩ := andp (List.all_eq_true.mp e1 _ (List.mem_of_getElem? e))
  have k1 : (match PySem.W.nsIn K mainGlobals x with
    | some (some (.ref a)) => decide (a = He.ga K x)
    | _ => false) = true := k1
  split at k1
  case h_2 => cases k1
  rename_i a q
  obtain rfl := of_decide_eq_true k1
  refine ⟨_, es, n, PySem.W.mg_of X G q, D, fun z => ?_⟩
  cases hz : getS kvs z with
  | some c =>
    left
    obtain ⟨p, hp, e5⟩ := Option.map_eq_some_iff.mp hz
    have hm := List.mem_of_find?_eq_some hp
    have hk : p.1 = z := by simpa using List.find?_some hp
    subst hk e5
    have k3 := List.all_eq_true.mp k2 p hm
    have k3 : (match PySem.W.nsIn K (He.ga K x) p.1 with
      | some (some u) => cRel K p.2 u
      | _ => false) = true := k3
    split at k3
    · rename_i u qu
      obtain ⟨v, r1, r2⟩ := cRel_ok p.2 u k3
      exact ⟨_, u, v, rfl, qu, r1, r2⟩
    · cases k3
  | none =>
    right
    refine ⟨rfl, ?_⟩
    have hn : z ∉ kvs.map (·.1) := fun hm => by
      obtain ⟨p, hp, e5⟩ := List.mem_map.mp hm
      have h0 := List.find?_eq_none.mp (Option.map_eq_none_iff.mp hz) p hp
      simp [e5] at h0
    have e6 : es.toList.map He.keyOf = He.keysIn w.params (kvs.map (·.1)) := by
      have e7 := e4
      unfold He.dicW at e7
      rw [D.at_] at e7
      simp [D.low] at e7
      exact e7
    obtain ⟨f1, f2⟩ := find_no e6 hn
    unfold PySem.W.nsIn
    rw [D.at_]
    simp only [f1, f2]
    rfl
end
end Z

set_option Elab.async false
set_option linter.all false
set_option maxRecDepth 100000
set_option maxHeartbeats 4000000
/-! Z16: x * y of ints, tuples, lists. -/
namespace Z
open PySem PySem.Spec PyProof.Rows L2
variable [LamT]
def oRepT : O2 := fun x y s =>
  match x, y with
  | .tup xs, .int k => if xs.isEmpty = false ∧ 2 ≤ k ∧ k ≤ 1000 ∧ xs.length ≤ 1000 then newT (List.replicate k.toNat xs).flatten s else none
  | _, _ => none
def oMul (mu : Bool) : O2 := fun x y s =>
  match x with
  | .tup xs => oRepT (.tup xs) y s
  | .int i => oMulI (.int i) y s
  | x => oRep mu x y s
section
variable {X : Cx}
theorem op_repN : OpR X (binaryOp .Mult) (fun x y H Q => ∃ l k xs, x = .ref l ∧ y = .int k ∧ SqT X.K H l xs ∧ xs ≠ [] ∧ 2 ≤ k ∧ k ≤ 1000 ∧ xs.length ≤ 1000 ∧ NewT H (List.replicate k.toNat xs).flatten Q) := by
  intro pins s σ H x y v u Q I rx ry ⟨l, k, xs, ex, ey, sq, ne, k2, k3, hz, hn⟩
  subst ex; subst ey
  cases rx
  obtain ⟨tk, ek⟩ := ry
  subst ek
  obtain ⟨ws, rv, ⟨⟨c, dd, dt, sl⟩, hl, hc, n, hd⟩, _⟩ := I.tuple sq
  dsimp only at hc hd
  subst hc; subst hd
  have el : ws.toArray.size = xs.length := by rw [List.size_toArray, rv.length]
  have ne' : ws.toArray.isEmpty = false := by
    cases ws with
    | nil => exact absurd (List.eq_nil_of_length_eq_zero (by rw [rv.length]; rfl)) ne
    | cons _ _ => rfl
  have bound : k.toNat * xs.length ≤ 1000000 := Nat.le_trans (Nat.mul_le_mul (show k.toNat ≤ 1000 by omega) hz) (by decide)
  have boundI : ((ws.toArray.size : Nat) : Int) * k ≤ 1000000 := by
    have e1 : ((ws.toArray.size : Nat) : Int) * k = ((k.toNat * xs.length : Nat) : Int) := by
      rw [el, Int.natCast_mul, Int.toNat_of_nonneg (by omega), Int.mul_comm]
    rw [e1]; omega
  have flat : ((List.replicate k.toNat ws).flatten).length = k.toNat * xs.length := by rw [PyProof.Rows.lm_len_rep_flat, rv.length]
  have line : 1000000 ≤ sizeLine := by rw [sizeLine_eq]; decide
  have t0 : (decide (k < -(2 ^ 63)) || decide (k ≥ 2 ^ 63)) = false := by
    rw [Bool.or_eq_false_iff]; exact ⟨decide_eq_false (by omega), decide_eq_false (by omega)⟩
  have t1 : (ws.toArray.isEmpty || k == 1) = false := by
    rw [ne', Bool.false_or]; exact beq_eq_false_iff_ne.mpr (by omega)
  have t2 : (decide (k ≤ 0) || ws.toArray.isEmpty) = false := by
    rw [ne', Bool.or_false]; exact decide_eq_false (by omega)
  have t4 : Builtin.Tuple.tupleTooMany (((ws.toArray.size : Nat) : Int) * k) = false := by
    unfold Builtin.Tuple.tupleTooMany; exact decide_eq_false (by rw [sizeLine_eq]; omega)
  have main := tuple_mulW l ws.toArray n dd sl k tk t0 t1 t2 (by omega) t4 (by rw [size_rep, List.size_toArray, flat]; omega)
  refine wpAny_binaryOp_repeat_ref (T := "tuple") (U := "int") (by decide) ⟨_, hl, rfl⟩ (fun s' => typeIs_int s' k tk) noFill_tuple_mul F.fills_int_mul F.slot_int_rmul repeat_tuple F.slot_int_index.lookup ?_
  refine call_meets F.slot_int_rmul (typeIs_int s k tk) F.entry_int_rmul (F.args_int_rmul_2 _ _) (int_rmul_tuple k tk l ws.toArray n dd sl) ⟨hl, rfl, ⟨_, hl, rfl⟩, ?_⟩
  refine call_meets F.slot_tuple_mul ⟨_, hl, rfl⟩ F.entry_tuple_mul (F.args_tuple_mul_2 _ _) main ⟨hl, ?_⟩
  rw [size_rep]
  exact lay_tup I (by rw [PyProof.Rows.lm_len_rep_flat]; omega) (rv.rep k.toNat) hn _
theorem r_repT : OpR X (binaryOp .Mult) (rM (gx X) oRepT) := by
  intro pins s σ H x y v u Q I rx ry ⟨W, st, px, py, r, s', r1, r2, hs, e, hc⟩
  unfold oRepT at e
  split at e <;> try (cases e; done)
  split at e <;> try (cases e; done)
  rename_i xs k h
  cases r1 with
  | tup q rr =>
  cases r2
  refine op_repN pins s σ H _ _ v u Q I rx ry ⟨_, _, _, rfl, rfl, tup_sq hs q, ?_, h.2.1, h.2.2.1, by rw [← rr.length]; exact h.2.2.2, (newT_ok hs (rr.flat k.toNat) e hc).2⟩
  intro z
  subst z
  cases rr
  cases h.1
theorem r_mul (mu : Bool) : OpR X (binaryOp .Mult) (rM (gx X) (oMul mu)) := by
  intro pins s σ H x y v u Q I rx ry ⟨W, st, px, py, r, s', r1, r2, hs, e, hc⟩
  unfold oMul at e
  split at e
  · exact r_repT pins s σ H x y v u Q I rx ry ⟨W, st, _, py, r, s', r1, r2, hs, e, hc⟩
  · exact r_mulI pins s σ H x y v u Q I rx ry ⟨W, st, _, py, r, s', r1, r2, hs, e, hc⟩
  · exact r_rep mu pins s σ H x y v u Q I rx ry ⟨W, st, _, py, r, s', r1, r2, hs, e, hc⟩
end
end Z

set_option Elab.async false
/-! Z17: a world whose one open question is answered: the head's run with dict displays asks followText "special-get-raises". -/
namespace Z
open PySem
variable [LamT]
def wf (w : World) (b : Bool) : World := { w with params := { w.params with followText := fun t => if t = "special-get-raises" then b else w.params.followText t } }
theorem wf_eq (w : World) : w = wf w (w.params.followText "special-get-raises") := by
  have : (fun t => if t = "special-get-raises" then w.params.followText "special-get-raises" else w.params.followText t) = w.params.followText := by
    funext t
    split
    · rename_i h; rw [h]
    · rfl
  unfold wf
  rw [this]
theorem run_wf {P : World → Prop} (h : ∀ w b, P (wf w b)) (w : World) : P w := by
  rw [wf_eq w]; exact h w _
end Z

set_option Elab.async false
set_option linter.all false
set_option maxRecDepth 100000
set_option maxHeartbeats 4000000
/-! Z18: xs[i] = v, tuple.index, sorted of keys and of texts, dicts walked. -/
namespace Z
open PySem PySem.Spec PyProof.Rows L2
variable [LamT]

section
variable {X : Cx} {Ex : XK} {pos : Pos}
/-! ### xs[i] = v -/
def sLPut (mv mo mi : EM) : SM := fun env s => (mv env s).bind fun v s1 => (mo env s1).bind fun x s2 => (mi env s2).bind fun y s3 =>
  match mlst s3 x, y with
  | some (n, xs), .int k => match ixN xs.length k with
    | some j => .ok (.nx env) (s3.set n (.lst (xs.set j v)))
    | none => .fail
  | _, _ => .fail
theorem ss_lput {pos' : Pos} {o i value : Expr} {mv mo mi : EM} (ho : PE X o (tE (gx X) Ex mo)) (hi : PE X i (tE (gx X) Ex mi)) (hv : PE X value (tE (gx X) Ex mv))
    (hsw : swapsWithSole [.Subscript o i pos'] value pos.line X.env = pure false := by rfl) (hw : swappedStores [.Subscript o i pos'] value X.env = pure none := by rfl)
    (h1 : (assignEach [.Subscript o i pos'] X.env).map (·.2) = [assign (.Subscript o i pos') X.env] := by rfl)
    (ha : ∀ v, assign (.Subscript o i pos') X.env v = (do
      let ov ← holding [v] (eval o X.env)
      let iv ← holding [v, ov] (eval i X.env)
      standAt pos'
      holding [v, ov, iv] (setItem ov iv v)
      release [v, ov, iv] []) := by intro _; rfl) : PS X (.Assign [.Subscript o i pos'] value pos) (tS (gx X) Ex (sLPut mv mo mi)) := by
  refine ps_weak (ps_asg hv (pg_sub ho hi set_list ha) hsw hw h1) fun D σ H ⟨W, s, env, he, hs, h⟩ => ?_
  refine tE_bind he hs h fun v s1 W1 H1 u l1 he1 hs1 r1 h1 => ?_
  refine tE_bind he1 hs1 h1 fun x s2 W2 H2 u2 l2 he2 hs2 r2 h2 => ?_
  refine tE_bind he2 hs2 h2 fun y s3 W3 H3 u3 l3 he3 hs3 r3 h3 => ?_
  split at h3 <;> try (exact h3.elim)
  rename_i n xs k e1
  split at h3 <;> try (exact h3.elim)
  rename_i j ej
  cases r3
  obtain ⟨a, vs, rfl, ha, ho, h4, h5⟩ := mlst_ok hs3 (r2.mono l3) e1
  refine ⟨a, vs, k, j, rfl, rfl, h4, by rw [← h5.length]; exact ej, ?_⟩
  exact h3 W3 _ σ ((l1.trans l2).trans l3) (put_lst hs3 ha ho (h5.set j ((r1.mono l2).mono l3))) he3

/-! ### tuple.index of texts -/
theorem reps_strs {K : PySem.W.Frag} {W : Wd} : ∀ {xs : List PV} {vs : List V} {ts : List Str}, Reps K W xs vs → strsOf xs = some ts → vs = ts.map V.str
  | [], _, _, r, e => by cases r; cases e; rfl
  | x :: xs, _, ts, r, e => by
    cases r with
    | cons h t =>
      cases x with
      | str z =>
        have e' : (match strsOf xs with | some bs => some (z :: bs) | none => none) = some ts := e
        cases q : strsOf xs with
        | none => rw [q] at e'; cases e'
        | some bs => rw [q] at e'; cases e'; cases h; rw [reps_strs t q]; rfl
      | _ => cases e
def mTIndex : OM := fun x xs s =>
  match x, xs with
  | .tup ys, [.str z] => match strsOf ys with
    | some ts => match ts.findIdx? (fun t => decide (t = z)) with
      | some j => some (.int (j : Nat), s)
      | none => none
    | none => none
  | _, _ => none
theorem m_tindex : MtR X "tuple.index" (rMt (gx X) mTIndex) := by
  intro pins s σ H x xs v us Q I rx rs ⟨W, st, px, pxs, r, s', r1, r2, hs, e, hc⟩
  unfold mTIndex at e
  split at e <;> try (cases e; done)
  rename_i ys z
  split at e <;> try (cases e; done)
  rename_i ts et
  split at e <;> cases e
  rename_i j ej
  cases r1 with
  | @tup a vs _ hq rq =>
    cases r2 with
    | cons ra rb =>
      cases ra; cases rb
      have hv := reps_strs rq et
      subst hv
      obtain ⟨hj, h1, h2⟩ := List.findIdx?_eq_some_iff_getElem.mp ej
      refine mt_tup_index pins s σ H _ _ v us Q I rx rs ⟨a, ts, z, j, rfl, rfl, tup_sq hs hq, by rw [List.getElem?_eq_getElem hj]; simpa using h1, fun m hm e => ?_, hc.here hs (.int _)⟩
      have := h2 m hm
      rw [List.getElem?_eq_getElem (by omega)] at e
      simp [Option.some.inj e] at this

/-! ### a tuple's methods -/
theorem tup_is {pins : List (Addr × Obj)} {σ : L2.St} {H : Hp} {s : Shared} {a : Addr} {vs : List V} (I : Inv X pins σ H s) (h : SqN X.K H a vs) :
    s.TypeIs (.ref a) "tuple" ∧ ∀ b, Value.ref a = .ref b → ∃ ob, s.heap.get? b = some ob ∧ ob.dict = none := by
  have key : ∃ ob, s.heap.get? a = some ob ∧ ob.cls = .type "tuple" ∧ ob.dict = none := by
    rcases h with ⟨ob, h, hd⟩ | ⟨ob, its, n, ⟨hk, hc, _⟩, hd⟩
    · obtain ⟨e, _, us, _, ob', e', hc, _⟩ := (show s.heap.get? a = some ob ∧ ObjOk X.prog X.w H s.heap a (.tup vs) from I.hok a _ h)
      rw [e] at e'; cases e'
      exact ⟨ob, e, hc, hd⟩
    · exact ⟨ob, I.kIn a ob hk, hc, hd⟩
  obtain ⟨ob, e, hc, hd⟩ := key
  exact ⟨⟨ob, e, hc⟩, fun b eb => by cases eb; exact ⟨ob, e, hd⟩⟩
def tBMT (K : PySem.W.Frag) (r : V → List V → Hp → VK → Prop) (to : TE) (t : TA) : TE := fun σ H Q => to σ H fun x H1 => (∃ a vs, x = .ref a ∧ SqN K H1 a vs) ∧ t σ H1 fun xs H2 => r x xs H2 Q
section
variable {o e : Expr} {es : List Expr} {to : TE} {t : TA} {name : Str} {apos cpos : Pos} {id : String} {r : V → List V → Hp → VK → Prop}
theorem pe_bmT (pa : PlainAttrs "tuple") (slot : Slot "tuple" name id) (hty : typeOf (.builtin id) = pure (.type "method_descriptor")) (hm : MtR X id r) (ho : PE X o to) (ha : PA X (e :: es) t)
    (hbase : attributeBase o name X.env (eval o X.env) = eval o X.env := by rfl)
    (hfew : ((backTo cpos (starEach (e :: es) X.env)).all (fun x => !x.1) && (backToKw cpos (keywordEach [] X.env)).all (fun x => x.1.isSome) && decide ((e :: es).length + ([] : List Keyword).length + (if ([] : List Keyword).isEmpty then 0 else 1) < 30)) = true := by rfl)
    (hline : (apos.endLine == cpos.line) = true := by rfl) (hst : starEach (e :: es) X.env = (false, eval e X.env) :: starEach es X.env := by rfl) (hpl : (backTo cpos (starEach es X.env)).any (·.1) = false := by rfl) :
    PE X (.Call (.Attribute o name apos) (e :: es) [] cpos) (tBMT X.K r to t) := by
  refine ⟨fun pins s σ H Q I h => wpAny_Call_method_late hbase hfew hline rfl (thn (ho.run pins s σ H _ I h) fun v s1 ⟨x, H1, I1, rx, ⟨a, vs, ex, sq⟩, q1⟩ => ?_)⟩
  subst ex
  obtain rfl : v = Value.ref a := rx
  obtain ⟨ty, dn⟩ := tup_is I1 sq
  refine ⟨"tuple", id, pa, slot, hty, ty, dn, ?_⟩
  have args := ha.run cpos pins s1 σ H1 _ I1 q1
  rw [hst] at args ⊢
  have none_star : (backTo cpos ((false, eval e X.env) :: starEach es X.env)).any (·.1) = false := by
    show (false || (backTo cpos (starEach es X.env)).any (·.1)) = false
    rw [hpl]; rfl
  exact Calls.callWith_builtin none_star (Calls.evalArgs_plain (thn args fun us s2 ⟨ws, H2, I2, r2, q2⟩ => hm pins s2 σ H2 (.ref a) ws _ us Q I2 rfl r2 q2))
theorem se_bmT {f : OM} {m : EM} {ms : AM} (pa : PlainAttrs "tuple") (slot : Slot "tuple" name id) (hty : typeOf (.builtin id) = pure (.type "method_descriptor")) (hm : MtR X id (rMt (gx X) f)) (ho : PE X o (tE (gx X) Ex m)) (ha : PA X (e :: es) (tA (gx X) Ex ms))
    (hbase : attributeBase o name X.env (eval o X.env) = eval o X.env := by rfl)
    (hfew : ((backTo cpos (starEach (e :: es) X.env)).all (fun x => !x.1) && (backToKw cpos (keywordEach [] X.env)).all (fun x => x.1.isSome) && decide ((e :: es).length + ([] : List Keyword).length + (if ([] : List Keyword).isEmpty then 0 else 1) < 30)) = true := by rfl)
    (hline : (apos.endLine == cpos.line) = true := by rfl) (hst : starEach (e :: es) X.env = (false, eval e X.env) :: starEach es X.env := by rfl) (hpl : (backTo cpos (starEach es X.env)).any (·.1) = false := by rfl) :
    PE X (.Call (.Attribute o name apos) (e :: es) [] cpos) (tE (gx X) Ex (eMt .tuple f m ms)) := by
  refine pe_weak (pe_bmT pa slot hty hm ho ha hbase hfew hline hst hpl) fun σ H Q ⟨W, s, env, he, hs, h⟩ => ?_
  refine tE_bind he hs h fun x s1 W1 H1 u l1 he1 hs1 r1 h1 => ?_
  split at h1 <;> try (exact h1.elim)
  rename_i ht
  have isT : ∃ xs, x = .tup xs := by
    unfold isTy at ht
    cases x with
    | tup xs => exact ⟨xs, rfl⟩
    | obj n =>
      simp only [kn] at ht
      split at ht
      · rename_i k hk
        have hk : (match s1[n]? with | some (.lst _) => some Kn.list | some (.dic _) => some Kn.dict | _ => none) = some k := hk
        have := of_decide_eq_true ht
        subst this
        split at hk <;> cases hk
      · cases ht
    | _ => cases ht
  obtain ⟨xs, rfl⟩ := isT
  have r1' := r1
  cases r1 with
  | @tup a vs _ hq rq =>
    refine ⟨⟨a, vs, rfl, hs1.fro.sqN hq⟩, ?_⟩
    refine tA_bind he1 hs1 h1 fun ys s2 W2 H2 us l2 he2 hs2 r2 h2 => ?_
    obtain ⟨v, s', e, hc⟩ := h2.lift
    exact ⟨W2, s2, _, ys, v, s', r1'.mono l2, r2, hs2, e, hc.mono (l1.trans l2)⟩
end

/-! ### sorted -/
def leS (a b : Str) : Bool := !ltCps b.cps.toList a.cps.toList
theorem ltCps_asymm : ∀ {a b : List Nat}, ltCps a b = true → ltCps b a = false
  | [], [], h => by cases h
  | [], _ :: _, _ => rfl
  | _ :: _, [], h => by cases h
  | x :: a, y :: b, h => by
    simp only [ltCps] at h ⊢
    by_cases h1 : x < y
    · simp [h1, Nat.lt_asymm h1, Nat.ne_of_gt h1]
    · by_cases h2 : x = y
      · subst h2
        simp at h ⊢
        exact ltCps_asymm h
      · simp [h1, h2] at h
theorem ltCps_trans' : ∀ {a b c : List Nat}, ltCps b a = false → ltCps c b = false → ltCps c a = false
  | [], b, [], _, _ => rfl
  | [], b, _ :: _, _, _ => by simp [ltCps]
  | x :: a, [], c, h, _ => by simp [ltCps] at h
  | x :: a, y :: b, [], _, h => by simp [ltCps] at h
  | x :: a, y :: b, z :: c, h, g => by
    simp only [ltCps] at h g ⊢
    by_cases h1 : y < x
    · simp [h1] at h
    · by_cases g1 : z < y
      · simp [g1] at g
      · by_cases h2 : y = x
        · subst h2
          by_cases g2 : z = y
          · subst g2
            simp at h g ⊢
            exact ltCps_trans' h g
          · simp [g1, g2]
        · by_cases g2 : z = y
          · subst g2; simp [h1, h2]
          · have : ¬ z < x := by omega
            have : z ≠ x := by omega
            simp [*]
theorem ltCps_total : ∀ {a b : List Nat}, ltCps a b = false → ltCps b a = false → a = b
  | [], [], _, _ => rfl
  | [], _ :: _, h, _ => by simp [ltCps] at h
  | _ :: _, [], _, h => by simp [ltCps] at h
  | x :: a, y :: b, h, g => by
    simp only [ltCps] at h g
    by_cases h1 : x < y
    · simp [h1] at h
    · by_cases h2 : y < x
      · simp [h2] at g
      · have : x = y := by omega
        subst this
        simp at h g
        rw [ltCps_total h g]
theorem str_ext {a b : Str} (h : a.cps.toList = b.cps.toList) : a = b := by
  obtain ⟨⟨a⟩⟩ := a
  obtain ⟨⟨b⟩⟩ := b
  have : a = b := h
  rw [this]
theorem leS_trans {a b c : Str} (h : leS a b = true) (g : leS b c = true) : leS a c = true := by
  unfold leS at *
  simp only [Bool.not_eq_true'] at *
  exact ltCps_trans' h g
theorem leS_total (a b : Str) : (leS a b || leS b a) = true := by
  unfold leS
  cases h : ltCps b.cps.toList a.cps.toList with
  | false => rfl
  | true => rw [ltCps_asymm h]; rfl
theorem leS_anti {a b : Str} (h : leS a b = true) (g : leS b a = true) : a = b := by
  unfold leS at *
  simp only [Bool.not_eq_true'] at *
  exact str_ext (ltCps_total g h)
theorem rising_pw : ∀ {ys : List Str} {p : Str}, risingS p ys = true → (p :: ys).Pairwise (fun a b => leS a b = true)
  | [], p, _ => List.pairwise_singleton _ _
  | y :: ys, p, h => by
    simp only [risingS, Bool.and_eq_true] at h
    have ih := rising_pw h.2
    have h1 : leS p y = true := h.1
    refine List.pairwise_cons.mpr ⟨fun z hz => ?_, ih⟩
    rcases List.mem_cons.mp hz with rfl | hz
    · exact h1
    · exact leS_trans h1 ((List.pairwise_cons.mp ih).1 z hz)
theorem sortedS_pw {ys : List Str} (h : sortedS ys = true) : ys.Pairwise (fun a b => leS a b = true) := by
  cases ys with
  | nil => exact .nil
  | cons y ys => exact rising_pw h
def sortS (ks : List Str) : List Str := ks.mergeSort leS
theorem sortS_pw (ks : List Str) : (sortS ks).Pairwise (fun a b => leS a b = true) := List.pairwise_mergeSort (le := leS) (fun _ _ _ => leS_trans) leS_total ks
theorem sortS_perm (ks : List Str) : (sortS ks).Perm ks := List.mergeSort_perm ks leS
theorem sortS_uniq {ks ys : List Str} (h1 : ys.Perm ks) (h2 : ys.Pairwise (fun a b => leS a b = true)) : ys = sortS ks :=
  List.Perm.eq_of_pairwise (fun _ _ _ _ => leS_anti) h2 (sortS_pw ks) (h1.trans (sortS_perm ks).symm)
def strKs : List (Key × PV) → Option (List Str)
  | [] => some []
  | (.inr z, _) :: r => match strKs r with
    | some bs => some (z :: bs)
    | none => none
  | _ => none
theorem kreps_strs {K : PySem.W.Frag} {W : Wd} : ∀ {xs : List (Key × PV)} {vs : List (Key × V)} {ts : List Str}, KReps K W xs vs → strKs xs = some ts → vs.map (·.1) = ts.map Sum.inr
  | [], _, _, r, e => by cases r; cases e; rfl
  | (k, x) :: xs, _, ts, r, e => by
    cases r with
    | cons h t =>
      cases k with
      | inr z =>
        have e' : (match strKs xs with | some bs => some (z :: bs) | none => none) = some ts := e
        cases q : strKs xs with
        | none => rw [q] at e'; cases e'
        | some bs => rw [q] at e'; cases e'; simp [kreps_strs t q]
      | inl z => cases e
/-- sorted of a dict's keys (texts), of a list of texts or of ints -/
def bSortedD (mu : Bool) : OL := fun xs s =>
  match xs with
  | [x] => match dcOf s x with
    | some kvs => match strKs kvs with
      | some ks => if ks.length < 64 then newL mu ((sortS ks).map .str) s else none
      | none => none
    | none => none
  | _ => none
theorem reps_of_strs {K : PySem.W.Frag} {W : Wd} : ∀ ts : List Str, Reps K W (ts.map .str) (ts.map V.str)
  | [] => .nil
  | t :: ts => .cons (.str t) (reps_of_strs ts)
theorem c_sortedD (mu : Bool) (hc : X.calm = true) : CallR X (.builtin "sorted") (rL (gx X) (bSortedD mu)) := by
  intro pins s σ H xs us Q I r h
  obtain ⟨W, st, pxs, v, s', rp, hs, e, hcont⟩ := h
  unfold bSortedD at e
  split at e <;> try (cases e; done)
  rename_i x
  split at e <;> try (cases e; done)
  rename_i kvs e1
  split at e <;> try (cases e; done)
  rename_i ks e2
  split at e <;> try (cases e; done)
  rename_i hl
  cases rp with
  | cons r1 r2 =>
    cases r2
    obtain ⟨a, ws, rfl, h3, h4⟩ := dcOf_ok hs r1 e1
    refine call_sortedD hc pins s σ H _ us Q I r ⟨a, ws, ks, rfl, h3, kreps_strs h4 e2, hl, fun ys p hp hsrt hf => ?_⟩
    have := sortS_uniq hp (sortedS_pw hsrt)
    subst this
    have q := newL_ok hs (reps_of_strs _) e hcont
    exact q.2 p hf
end
end Z

set_option Elab.async false
set_option linter.all false
set_option maxRecDepth 100000
set_option maxHeartbeats 4000000
/-! Z19: a dict walked by its keys (it is locked while the loop runs). -/
namespace Z
open PySem PySem.Spec PyProof.Rows L2
variable [LamT]

def keyPV : Key → PV
  | .inl i => .int i
  | .inr x => .str x
/-! ### worlds with another table of locks -/
abbrev Wd.rk (W : Wd) (l : Hp) : Wd := ⟨W.fro, W.ob, W.hid, l⟩
section
variable {K : PySem.W.Frag} {W : Wd} {l : Hp}
mutual
theorem Rep.rk : ∀ {x : PV} {v : V}, Rep K W x v → Rep K (W.rk l) x v
  | _, _, .non => .non
  | _, _, .bl b => .bl b
  | _, _, .int i => .int i
  | _, _, .str x => .str x
  | _, _, .tup h r => .tup h (Reps.rk r)
  | _, _, .wt h r => .wt h (Reps.rk r)
  | _, _, .lst h r => .lst h (Reps.rk r)
  | _, _, .scr h r => .scr h (Reps.rk r)
  | _, _, .dic h r => .dic h (KReps.rk r)
  | _, _, .obj h => .obj h
theorem Reps.rk : ∀ {x : List PV} {v : List V}, Reps K W x v → Reps K (W.rk l) x v
  | _, _, .nil => .nil
  | _, _, .cons r t => .cons (Rep.rk r) (Reps.rk t)
theorem KReps.rk : ∀ {x : List (Key × PV)} {v : List (Key × V)}, KReps K W x v → KReps K (W.rk l) x v
  | _, _, .nil => .nil
  | _, _, .cons r t => .cons (Rep.rk r) (KReps.rk t)
end
theorem FReps.rk {x : List (Str × PV)} {v : List (Str × V)} (r : FReps K W x v) : FReps K (W.rk l) x v := by
  induction r with
  | nil => exact .nil
  | cons h _ ih => exact .cons h.rk ih
theorem EnvR.rk {env : En} {σ : L2.St} (h : EnvR K W env σ) : EnvR K (W.rk l) env σ :=
  ⟨h.1, fun i v e => let ⟨u, e', r⟩ := h.2 i v e; ⟨u, e', r.rk⟩⟩
end
section
variable {g : G} {W : Wd} {H H' : Hp} {s : S} {a : Addr} {n : Nat}
theorem ORel.rk {l : Hp} {b : Addr} {o : MO} (r : ORel g W H b o) (hl : l b = W.lk b) (e : H' b = H b) : ORel g (W.rk l) H' b o := by
  cases r with
  | dead => exact .dead
  | lst h q => exact .lst (e.trans h) q.rk
  | dic h q => exact .dic (e.trans h) q.rk
  | ldc k h q => exact .ldc (hl.trans k) (e.trans h) q.rk
  | ins c h q => exact .ins c (e.trans h) q.rk
/-- the object at n, from here on another one, the table of locks another one there -/
theorem StR.relock {l : Hp} {u : HO} {o o' : MO} (h : StR g W H s) (ha : W.ob[n]? = some a) (ho : s[n]? = some o) (hd : o ≠ .dead) (hl : ∀ b, b ≠ a → l b = W.lk b) (r : ORel g (W.rk l) (upd H a u) a o') (hpo : plainO u := by exact True.intro) : StR g (W.rk l) (upd H a u) (s.set n o') := by
  have hf : W.fro a = none := h.off n a o ha ho hd
  have hlt : n < s.length := (List.getElem?_eq_some_iff.mp ho).1
  have hh : W.hid a = none := h.hno n a ha
  refine ⟨fun b v e => ?_, by simp [h.len], h.nd, fun m b e => ?_, fun m b x e e' d => ?_, fun m b x e e' => ?_, fun b v e => ?_, h.hno, h.hnf, h.ntb, h.nth, tabs_upd h.tab fun u' q => by
      obtain ⟨o2, q2, q3⟩ := h.alv n a ha
      rw [q] at q2; cases q2; exact q3⟩
  · have : b ≠ a := fun z => by
      have e : W.fro b = some v := e
      rw [z, hf] at e; cases e
    rw [upd_ne this]; exact h.fro _ _ e
  · by_cases hb : b = a
    · rw [hb, upd_same]; exact ⟨u, rfl, hpo⟩
    · rw [upd_ne hb]; exact h.alv m b e
  · by_cases hm : n = m
    · subst hm
      have e : W.ob[n]? = some b := e
      have : b = a := by rw [ha] at e; exact (Option.some.inj e).symm
      rw [this]; exact hf
    · rw [List.getElem?_set_ne hm] at e'
      exact h.off m b x e e' d
  · by_cases hm : n = m
    · subst hm
      have e : W.ob[n]? = some b := e
      have hb : b = a := by rw [ha] at e; exact (Option.some.inj e).symm
      rw [List.getElem?_set_self hlt] at e'
      cases e'
      rw [hb]; exact r
    · rw [List.getElem?_set_ne hm] at e'
      have hb : b ≠ a := fun z => hm (nd_ix h.nd ha (z ▸ e))
      exact (h.has m b x e e').rk (hl b hb) (upd_ne hb)
  · have : b ≠ a := fun z => by
      have e : W.hid b = some v := e
      rw [z, hh] at e; cases e
    rw [upd_ne this]; exact h.hid _ _ e
end
theorem keyPV_rep {K : PySem.W.Frag} {W : Wd} (k : Key) : Rep K W (keyPV k) (kV k) := by
  cases k with
  | inl i => exact .int i
  | inr x => exact .str x
theorem kreps_key {K : PySem.W.Frag} {W : Wd} : ∀ {kvs : List (Key × PV)} {ws : List (Key × V)}, KReps K W kvs ws → kvs.map (·.1) = ws.map (·.1)
  | [], _, r => by cases r; rfl
  | (k, x) :: xs, _, r => by
    cases r with
    | cons h t => simp [kreps_key t]
theorem it_keys {g : G} {W : Wd} {d : Addr} {n : Nat} {od : Obj} {kvs : List (Key × PV)} {ws : List (Key × V)} (hn : W.ob[n]? = some d) (hk : W.lk d = some (.frz od (.dK ws))) (r : KReps g.K W kvs ws) : ItOf g W (Itk d od ws) (kvs.map fun kv => keyPV kv.1) [(n, .ldc kvs)] := by
  intro i W' H' s' l hs' ck
  have hlen := r.length
  have hat : H' d = some (.frz od (.dK ws)) := by
    have q := hs'.obj (l.at hn) (ck1_of ck)
    cases q with
    | ldc k h _ => rw [l.lk, hk] at k; cases k; exact h
  refine ⟨fun hi => ?_, fun hi => ⟨hat, by simpa [← hlen] using hi⟩⟩
  have hi' : i < ws.length := by simpa [← hlen] using hi
  refine ⟨⟨hat, hi'⟩, fun x H'' y => ?_⟩
  obtain ⟨rfl, k, v, e, rfl⟩ := y
  refine ⟨W', Wd.Le.refl _, hs', fun px e' => ?_⟩
  have hkk := congrArg (fun l => l[i]?) (kreps_key r)
  simp only [List.getElem?_map, e, Option.map_some] at hkk e'
  cases q : kvs[i]? with
  | none => rw [q] at hkk; cases hkk
  | some kv =>
    rw [q] at hkk e'
    simp only [Option.map_some, Option.some.injEq] at hkk e'
    subst e'
    rw [hkk]
    exact keyPV_rep k
section
variable {X : Cx} {Ex : XK} {pos : Pos} {b : SM}
/-- a loop's core: the iterator is given -/
theorem for_core {t : GM} {ix : List Nat} {D : Ends} {xs : List PV} {c : Ck} {W1 : Wd} {H1 : Hp} {s1 : S} {env : En} {σ : L2.St} {J : It} (he1 : EnvR X.K W1 env σ) (hs1 : StR (gx X) W1 H1 s1) (h1 : Post (forL c t b xs env s1) (FlC (gx X) W1 D) (XW (gx X) W1 Ex)) (hJ : ItOf (gx X) W1 J xs c) :
    ∃ Wf : Nat → Nat → L2.St → Hp → Prop, (∃ m, Wf 0 m σ H1) ∧ ∀ i m σ H, Wf i m σ H →
      (J.stop i H ∧ D.nx σ H) ∨ (J.go i H ∧ ∃ N : L2.St → Hp → Prop, (∀ σ' H', N σ' H' → ∃ m', m' < m ∧ Wf (i + 1) m' σ' H') ∧ ∀ x H', J.yld i H x H' → tG (gx X) ix t x σ H' fun σ2 H2 => tS (gx X) Ex b { D with nx := N, ct := N, bk := D.nx } σ2 H2) := by
  refine ⟨fun i k σ H => k = xs.length - i ∧ i ≤ xs.length ∧ ∃ W' s env, W1.Le W' ∧ EnvR X.K W' env σ ∧ StR (gx X) W' H s ∧ Post (forL c t b (xs.drop i) env s) (FlC (gx X) W' D) (XW (gx X) W' Ex),
    ⟨_, rfl, Nat.zero_le _, W1, s1, env, Wd.Le.refl W1, he1, hs1, by rw [List.drop_zero]; exact h1⟩, ?_⟩
  rintro i k σ H ⟨rfl, hle, W2, s2, env2, l2, he2, hs2, h2⟩
  by_cases hi : i < xs.length
  · right
    rw [List.drop_eq_getElem_cons hi] at h2
    unfold forL at h2
    split at h2
    · rename_i hck
      split at h2
      · exact h2.elim
      · rename_i e1 ht
        obtain ⟨g1, y1⟩ := (hJ i W2 H s2 l2.lo hs2 hck).1 hi
        refine ⟨g1, _, fun σ' H' q => ⟨xs.length - (i + 1), by omega, q⟩, fun x H' y => ?_⟩
        obtain ⟨W3, l3, hs3, r3⟩ := y1 x H' y
        refine ⟨W3, s2, env2, xs[i], e1, he2.mono l3, hs3, r3 _ (List.getElem?_eq_getElem hi), ht, fun σ' he' _ => ?_⟩
        refine ⟨W3, s2, e1, he', hs3, h2.bind.mono (fun f s4 q => ?_) fun _ _ _ z => z.mono l3⟩
        cases f with
        | nx e => exact fun W' H' σ' l q' p => ⟨rfl, hi, W', s4, e, (l2.trans l3).trans l, p, q', Post.mono q (fun f s z => z.mono (l3.trans l)) fun _ _ _ z => z.mono (l3.trans l)⟩
        | cnt e => exact fun W' H' σ' l q' p => ⟨rfl, hi, W', s4, e, (l2.trans l3).trans l, p, q', Post.mono q (fun f s z => z.mono (l3.trans l)) fun _ _ _ z => z.mono (l3.trans l)⟩
        | brk e => exact fun W' H' σ' l q' p => q W' H' σ' (l3.trans l) q' p
        | ret v => exact fun W' H' σ' l q' p => q W' H' σ' (l3.trans l) q' p
    · exact h2.elim
  · left
    rw [List.drop_eq_nil_of_le (by omega)] at h2
    unfold forL at h2
    split at h2
    · rename_i hck
      exact ⟨(hJ i W2 H s2 l2.lo hs2 hck).2 (show xs.length ≤ i by omega), h2 W2 H σ (Wd.Le.refl _) hs2 he2⟩
    · exact h2.elim
def unlk (n : Nat) (fl : Fl) (s : S) : Rs Fl :=
  match s[n]? with
  | some (.ldc kvs) => .ok fl (s.set n (.dic kvs))
  | _ => .fail
noncomputable def sForD (i : Nat) (t : GM) (b : SM) : SM := fun env s =>
  match env[i]? with
  | some (some (.obj n)) => match s[n]? with
    | some (.dic kvs) => (noX (forL [(n, .ldc kvs)] t b (kvs.map fun kv => keyPV kv.1) env (s.set n (.ldc kvs)))).bind (unlk n)
    | _ => .fail
  | _ => .fail
theorem ss_forD {tg : Expr} {x : Str} {p : Pos} {i : Nat} {body : List Stmt} {t : GM} {ix : List Nat} (hN : X.N[i]? = some x) (hv : Vis X.env.scope x) (hp : PassesOwn (model X.prog X.w) X.A X.env X.xe) (hc : X.calm = true) (hg : PG X tg (tG (gx X) ix t)) (hb : PSs X body (tS (gx X) Ex b))
    (hfs : ∀ z, foldedSetIterable (.Name x p) X.env z = pure z := by intro _; rfl) (hd : (x == ("__debug__" : Str)) = false := by decide) (hcd : (x == ("__classdict__" : Str)) = false := by decide) : PS X (.For tg (.Name x p) body [] pos) (tS (gx X) Ex (sForD i t b)) := by
  refine ps_weak (ps_lock (ps_for hp hc (pi_keys (pe_var hN hv hd hcd)) hg hb hfs)) fun D σ H ⟨W, s, env, hE, hs, h⟩ => ?_
  unfold sForD at h
  split at h <;> try (exact h.elim)
  rename_i n e1
  split at h <;> try (exact h.elim)
  rename_i kvs e2
  obtain ⟨u, eu, ru⟩ := hE.2 i _ e1
  cases ru with
  | @obj a _ hn =>
    cases hs.obj hn e2 with
    | @dic _ ws ha r =>
      refine ⟨a, .dK ws, ha, trivial, fun od => ?_⟩
      have hs1 : StR (gx X) (W.rk (upd W.lk a (.frz od (.dK ws)))) (upd H a (.frz od (.dK ws))) (s.set n (.ldc kvs)) := hs.relock hn e2 (fun z => by cases z) (fun b hb => upd_ne hb) (.ldc upd_same upd_same r.rk)
      refine ⟨.ref a, eu, a, od, rfl, .inl ⟨ws, upd_same, ?_⟩⟩
      have back : ∀ {W2 : Wd} {H2 : Hp} {s2 : S} {kvs2 : List (Key × PV)}, (W.rk (upd W.lk a (.frz od (.dK ws)))).Le W2 → StR (gx X) W2 H2 s2 → s2[n]? = some (.ldc kvs2) → H2 a = some (.frz od (.dK ws)) ∧ StR (gx X) (W2.rk W.lk) (upd H2 a (.dK ws)) (s2.set n (.dic kvs2)) ∧ W.Le (W2.rk W.lk) := by
        intro W2 H2 s2 kvs2 l hs2 e
        cases hs2.obj (l.at hn) e with
        | ldc k h2 q =>
          have k' : upd W.lk a (.frz od (.dK ws)) a = some _ := (congrFun l.lk a).symm.trans k
          rw [upd_same] at k'
          cases k'
          refine ⟨h2, hs2.relock (l.at hn) e (fun z => by cases z) (fun b hb => ?_) (.dic upd_same q.rk), ⟨l.fro, l.hid, rfl, l.ob⟩⟩
          exact ((congrFun l.lk b).trans (upd_ne hb)).symm
      refine for_core (W1 := W.rk (upd W.lk a (.frz od (.dK ws)))) hE.rk hs1 ?_ (it_keys (W := W.rk (upd W.lk a (.frz od (.dK ws)))) hn upd_same r.rk)
      have h0 := h.bind.noX (E' := XW (gx X) (W.rk (upd W.lk a (.frz od (.dK ws)))) Ex)
      refine h0.mono (fun fl s2 q => ?_) fun _ _ _ z => z
      unfold unlk at q
      split at q <;> try (exact q.elim)
      rename_i kvs2 e3
      have q : FlC (gx X) W D fl (s2.set n (.dic kvs2)) := q
      cases fl with
      | nx e => exact fun W' H' σ' l hs' he' => let ⟨b1, b2, b3⟩ := back l hs' e3; ⟨b1, q _ _ σ' b3 b2 he'.rk⟩
      | brk e => exact fun W' H' σ' l hs' he' => let ⟨b1, b2, b3⟩ := back l hs' e3; ⟨b1, q _ _ σ' b3 b2 he'.rk⟩
      | cnt e => exact fun W' H' σ' l hs' he' => let ⟨b1, b2, b3⟩ := back l hs' e3; ⟨b1, q _ _ σ' b3 b2 he'.rk⟩
      | ret v => exact fun W' H' u l hs' r' => let ⟨b1, b2, b3⟩ := back l hs' e3; ⟨b1, q _ _ u b3 b2 r'.rk⟩
end
end Z

set_option Elab.async false
set_option linter.all false
set_option maxRecDepth 100000
set_option maxHeartbeats 4000000
/-! ZU: a list extended by a tuple or a list. -/
namespace Z
open PySem PySem.Spec PyProof.Rows L2
variable [LamT]

set_option maxRecDepth 8000 in
theorem ext_lt (l t : Addr) (xs ys : Array Value) (n m : Nat) (dd : Option Addr) (sl : Array (Option Value)) (h0 : ¬(!xs.isEmpty && Builtin.List.listTooLong (xs.size + ys.size)) = true) (h1 : xs.size ≤ sizeLine) (h2 : xs.size + ys.size ≤ sizeLine + 1) :
    Meets (Builtin.«list.extend» ⟨[.ref l, .ref t], []⟩) (fun _ R s => s.heap.get? l = some { cls := .type "list", dict := none, data := .seq xs n, slots := #[] } ∧
      s.heap.get? t = some { cls := .type "tuple", dict := dd, data := .seq ys m, slots := sl } ∧ R (.ok (.ret Value.none)) { s with heap := s.heap.update l (Obj.mapSeq fun z => z ++ ys), toks := s.toks }) :=
  .of_wp fun prog w A R s ⟨gl, gt, fin⟩ => by
    obtain ⟨hp, g, d, tk, os⟩ := s
    have i1 := AutoSeq1.idx_int
    have i2 := AutoSeq1.sub_tuple_tuple
    have i3 := AutoSeq1.sub_list_list
    have i4 := AutoSeq1.sub_tuple_list
    have i5 := AutoSeq1.sub_list_tuple
    have big : (xs ++ ys).size ≤ sizeLine + 1 := by rw [Array.size_append]; exact h2
    wp_walk using (wpAny_updateSeq gl rfl (hz := h1) (_hz' := big)), wpAny_loadPart' gl, wpAny_loadPart' gt
    exact ⟨_, rfl, fin⟩
section
variable {X : Cx}
theorem mt_extendT : MtR X "list.extend" (fun x vs H Q => ∃ l b xs zs, x = .ref l ∧ vs = [.ref b] ∧ H l = some (.lst xs) ∧ SqT X.K H b zs ∧ xs.length + zs.length ≤ sizeLine ∧ Q .non (upd H l (.lst (xs ++ zs)))) := by
  intro pins s σ H x vs v us Q I rx rv ⟨l, b, xs, zs, ex, ev, hl, hb, hz, q⟩
  subst ex; subst ev
  cases rx
  obtain ⟨u, eu, ru⟩ := rv.one
  subst eu
  cases ru
  obtain ⟨zl, as, n, ra, _, ea⟩ := I.lstM hl
  obtain ⟨bs, rb, ⟨⟨c, dd, dt, sl⟩, eb, hc, m, hd⟩, _⟩ := I.tuple hb
  dsimp only at hc hd
  subst hc; subst hd
  have la := ra.length
  have lb := rb.length
  have sum : as.toArray.size + bs.toArray.size ≤ sizeLine := by rw [List.size_toArray, List.size_toArray]; omega
  have short : ¬ (!as.toArray.isEmpty && Builtin.List.listTooLong (as.toArray.size + bs.toArray.size)) = true := by rw [notLongL sum]; simp
  refine call_meets F.slot_list_extend ⟨_, ea, rfl⟩ F.entry_list_extend (F.args_list_extend_2 _ _) (ext_lt l b as.toArray bs.toArray n m dd sl short (by rw [List.size_toArray]; omega) (by omega)) ⟨ea, eb, ?_⟩
  exact ⟨.non, _, I.lset (its' := as ++ bs) hl ea (by simp) (ra.append rb) (by rw [List.length_append]; omega), rfl, q⟩
/-- .. by a list or a tuple -/
def mExtG : OM := fun x xs s =>
  match x, xs with
  | .obj n, [.tup zs] => match mlst s (.obj n) with
    | some (_, ys) => if ys.length + zs.length ≤ 16000000 then some (.non, s.set n (.lst (ys ++ zs))) else none
    | none => none
  | x, xs => mExtend x xs s
theorem m_extG : MtR X "list.extend" (rMt (gx X) mExtG) := by
  intro pins s σ H x xs v us Q I rx rs ⟨W, st, px, pxs, r, s', r1, r2, hs, e, hc⟩
  unfold mExtG at e
  split at e
  · rename_i n zs
    split at e <;> try (cases e; done)
    rename_i m ys e1
    split at e <;> cases e
    rename_i hz
    have hm : m = n := by
      have e1' : (match st[n]? with | some (.lst xs) => some (n, xs) | _ => none) = some (m, ys) := e1
      split at e1' <;> cases e1'
      rfl
    subst hm
    obtain ⟨a, vs, rfl, ha, ho, h1, h2⟩ := mlst_ok hs r1 e1
    obtain ⟨u, rfl, q⟩ := r2.one
    cases q with
    | @tup b ws _ hq rq =>
      refine mt_extendT pins s σ H _ _ v us Q I rx rs ⟨a, b, vs, ws, rfl, rfl, h1, tup_sq hs hq, ?_, hc.here (put_lst hs ha ho (h2.append rq)) .non⟩
      rw [← h2.length, ← rq.length]; exact big_line hz
  · exact m_extend pins s σ H x xs v us Q I rx rs ⟨W, st, px, pxs, r, s', r1, r2, hs, e, hc⟩
end
end Z

set_option Elab.async false
set_option linter.all false
set_option maxRecDepth 100000
set_option maxHeartbeats 4000000
/-! Z20: sorted of a list of texts, any number of them. -/
namespace Z
open PySem PySem.Spec PyProof.Rows L2
variable [LamT]
section
variable {X : Cx}
def bSortedL (mu : Bool) : OL := fun xs s =>
  match xs with
  | [x] => match rdOf s x with
    | some ys => match strsOf ys with
      | some ts => newL mu ((sortS ts).map .str) s
      | none => none
    | none => none
  | _ => none
theorem c_sortedL (mu : Bool) : CallR X (.builtin "sorted") (rL (gx X) (bSortedL mu)) := by
  intro pins s σ H xs us Q I r h
  obtain ⟨W, st, pxs, v, s', rp, hs, e, hcont⟩ := h
  unfold bSortedL at e
  split at e <;> try (cases e; done)
  rename_i x
  split at e <;> try (cases e; done)
  rename_i ys0 e1
  split at e <;> try (cases e; done)
  rename_i ts e2
  cases rp with
  | cons r1 r2 =>
    cases r2
    obtain ⟨a, ws, rfl, hq, rr⟩ := rdOf_ok hs r1 e1
    have hws := strsOf_ok rr e2
    subst hws
    obtain ⟨its, rv, hl, hz⟩ := I.list hq
    rw [Vals.ref1 r]
    refine sorted_strsAny hl.isList rv.strs (by rw [← rv.length]; exact hz) fun out ys g1 hp hsrt => ?_
    have := sortS_uniq hp (sortedS_pw hsrt)
    subst this
    obtain ⟨ep, he'⟩ := PyProof.Rows.sortedAll_at s.heap its out
    have hlen : ((sortS ts).map V.str).length ≤ sizeLine := by
      rw [List.length_map, hp.length_eq]
      rw [List.length_map] at hz
      exact hz
    have q := newL_ok hs (reps_of_strs _) e hcont
    exact ⟨.ref _, upd H (s.heap.objs.size + 1) (.lst ((sortS ts).map V.str)), I.laid (t' := s.toks) (fun _ _ => PyProof.Rows.sortedAll_old) (Nat.le_succ _) ⟨hlen, out.toList, ep, vals_of_strs g1, by rw [Array.toArray_toList]; exact he'⟩, rfl, q.2 _ (I.hok.fresh (Nat.le_succ _))⟩
end
end Z

set_option Elab.async false
set_option linter.all false
set_option maxRecDepth 100000
set_option maxHeartbeats 4000000
/-! ZV: a text turned round. -/
namespace Z
open PySem PySem.Spec PyProof.Rows L2
variable [LamT]
def revS (z : Str) : Str := ⟨z.cps.toList.reverse.toArray⟩
theorem rev_range (n : Nat) : Builtin.Str.strSliceIndices none none (-1) n = (List.range n).map fun (k : Nat) => ((n : Int) - 1 + -1 * (k : Int)).toNat := by
  show sliceRange ((n : Int) - 1) (-1) (-1) = _
  unfold sliceRange
  have e : (if (-1 : Int) > 0 then (if (n : Int) - 1 < -1 then (-1 - ((n : Int) - 1) + -1 - 1) / (-1) else 0) else (if (n : Int) - 1 > -1 then ((n : Int) - 1 - -1 - -1 - 1) / (- -1) else 0)) = (n : Int) := by
    rw [if_neg (by decide)]
    by_cases h : (n : Int) - 1 > -1
    · rw [if_pos h, show (- -1 : Int) = 1 from rfl, Int.ediv_one]; omega
    · rw [if_neg h]; omega
  simp only [e, Int.toNat_natCast]
theorem nat_pick (xs : Array Nat) : ((List.range xs.size).filterMap fun (k : Nat) => xs[((xs.size : Int) - 1 + -1 * (k : Int)).toNat]?) = xs.toList.reverse := by
  have key : ∀ m, m ≤ xs.size → ((List.range m).filterMap fun (k : Nat) => xs[((xs.size : Int) - 1 + -1 * (k : Int)).toNat]?) = xs.toList.reverse.take m := by
    intro m
    induction m with
    | zero => intro _; simp
    | succ m ih =>
      intro hm
      have e : ((xs.size : Int) - 1 + -1 * (m : Int)).toNat = xs.size - 1 - m := by omega
      have hl : m < xs.toList.reverse.length := by simp; omega
      rw [List.range_succ, List.filterMap_append, ih (by omega), List.take_add_one, List.getElem?_eq_getElem hl, List.getElem_reverse]
      simp only [List.filterMap_cons, List.filterMap_nil, e]
      rw [Array.getElem?_eq_getElem (show xs.size - 1 - m < xs.size by omega)]
      simp
  rw [key xs.size (Nat.le_refl _), List.take_of_length_le (by simp)]
theorem rev_pick (z : Str) : (Builtin.Str.strSliceIndices none none (-1) z.length).filterMap (z.cps[·]?) = z.cps.toList.reverse := by
  rw [rev_range, List.filterMap_map]
  exact nat_pick z.cps
section
variable {X : Cx} {Ex : XK} {pos : Pos} {e : Expr}
def tBackS (te : TE) : TE := fun σ H Q => te σ H fun x H1 => ∃ z, x = .str z ∧ z.length ≤ sizeLine ∧ Q (.str (revS z)) H1
theorem pe_backS {te : TE} {k : Nat} {p1 p2 p3 : Pos} (he : PE X e te) : PE X (.Subscript e (.Slice none none (some (.UnaryOp .USub (.Constant (.int 1) k p1) p2)) p3) pos) (tBackS te) := by
  refine ⟨fun pins sh σ H Q I h => Subscript_ (thn (he.run pins sh σ H _ I h) fun v s1 q => ?_)⟩
  obtain ⟨x, H1, I1, r1, z, rfl, hz, goal⟩ := q
  obtain ⟨tz, rfl⟩ := r1
  have one : PO X (some (.UnaryOp .USub (.Constant (.int 1) k p1) p2)) (tPart (tUn (rU fun i => .int (-i)) (tC (.int 1)))) := po_some (pe_un un_neg pe_int)
  refine wpAny_Slice (thn (po_none.run pins s1 σ H1 (fun o H' => o = none ∧ H' = H1) I1 ⟨rfl, rfl⟩) fun vl s2 q => ?_)
  obtain ⟨_, _, I2, pl, rfl, rfl⟩ := q
  refine thn (po_none.run pins s2 σ _ (fun o H' => o = none ∧ H' = _) I2 ⟨rfl, rfl⟩) fun vu s3 q => ?_
  obtain ⟨_, _, I3, pu, rfl, rfl⟩ := q
  refine thn (one.run pins s3 σ _ (fun o H' => o = some (-1) ∧ H' = _) I3 ⟨1, rfl, -1, rfl, rfl, rfl⟩) fun vs s4 q => ?_
  obtain ⟨_, H4, I4, ps, rfl, rfl⟩ := q
  cases pl
  cases pu
  cases ps with
  | int _ tok =>
  have I5 := I4.kept (h' := s4.heap.push { cls := .type "slice", data := .fields #[Value.none, Value.none, Value.int (-1) tok] }) (t' := s4.toks) fun b ob q => Heap.get?_push_of_some _ q
  refine tail_any (ops := [.str z tz, .ref s4.heap.objs.size]) (typeIs_str _ _ _) F.slot_str_getitem.lookup ?_ (by with_unfolding_all rfl)
  refine wpAny_getItem_str_slice (l := none) (u := none) (st := some (-1, tok)) ⟨_, Heap.get?_push_size _ rfl, rfl, rfl⟩ rfl ?_
  have ee : sliceMade z tz none none (some (-1, tok)) = Made.str (revS z) := by
    show (if ((-1 : Int) == 1 && _) = true then _ else Made.str ⟨((Builtin.Str.strSliceIndices none none (-1) z.length).filterMap (z.cps[·]?)).toArray⟩) = _
    rw [if_neg (by simp), rev_pick]; rfl
  rw [ee]
  have hl : (revS z).length ≤ sizeLine := by
    show z.cps.toList.reverse.toArray.size ≤ _
    have : z.cps.toList.length = z.length := rfl
    simp; exact hz
  exact ⟨hl, .str _, _, I5.tok _, ⟨_, rfl⟩, goal⟩
def uBackA (mu : Bool) : O1 := fun x s =>
  match x with
  | .str z => if z.length ≤ 16000000 then some (.str (revS z), s) else none
  | x => uBack mu x s
theorem se_backA {k : Nat} {p1 p2 p3 : Pos} (mu : Bool) {m : EM} (he : PE X e (tE (gx X) Ex m)) : PE X (.Subscript e (.Slice none none (some (.UnaryOp .USub (.Constant (.int 1) k p1) p2)) p3) pos) (tE (gx X) Ex (eUn (uBackA mu) m)) := by
  refine ⟨fun pins sh σ H Q I ⟨W, s, env, hE, hs, h⟩ => ?_⟩
  by_cases hk : ∃ z s1, m env s = .ok (.str z) s1
  · obtain ⟨z, s1, em⟩ := hk
    refine (pe_backS he).run pins sh σ H Q I (tE_ok hE hs h fun x s1' W1 H1 u eq l1 he1 hs1 r1 h1 => ?_)
    rw [em] at eq; cases eq
    obtain ⟨v, s', e', hc⟩ := h1.lift
    have e' : (if z.length ≤ 16000000 then some (PV.str (revS z), s1) else none) = some (v, s') := e'
    split at e' <;> cases e'
    rename_i hz
    cases r1
    exact ⟨z, rfl, by rw [sizeLine_eq]; omega, (hc.mono l1).here hs1 (.str _)⟩
  · refine (se_back mu he).run pins sh σ H Q I ⟨W, s, env, hE, hs, ?_⟩
    have : eUn (uBackA mu) m env s = eUn (uBack mu) m env s := by
      unfold eUn
      cases hm : m env s with
      | ok x s1 =>
        cases x with
        | str z => exact absurd ⟨z, s1, hm⟩ hk
        | _ => rfl
      | exc c x s1 => rfl
      | fail => rfl
    rw [this] at h
    exact h
end
end Z

set_option Elab.async false
set_option linter.all false
set_option maxRecDepth 100000
set_option maxHeartbeats 4000000
/-! ZW: enumerate over a tuple. -/
namespace Z
open PySem PySem.Spec PyProof.Rows L2
variable [LamT]
theorem meets_enum1 {v : Value} {o : Obj} {H : Heap → Prop} (B : Begins v o H) :
    Meets (Builtin.«enumerate.__new__» ⟨[.type "enumerate", v], []⟩) (fun _ R s => H s.heap ∧
      R (.ok (.ret (.ref (s.heap.push o).objs.size))) { s with heap := (s.heap.push o).push { cls := .type "enumerate", data := .fields #[.none, .bool false, .ref s.heap.objs.size, rawInt 0, .none, .none] } }) :=
  .of_wp fun prog w A R s h => by
    obtain ⟨hp, g, d, tk, os⟩ := s; obtain ⟨h1, h⟩ := h
    have hsub := sub_enumerate
    have q1 : ∀ {A' : Around} {E : Value → Shared → Prop} {Q : Value → Shared → Prop}, Q (.ref hp.objs.size) ⟨hp.push o, g, d, tk, os⟩ → wpAny (model prog w) A' (pyIter v) Q E ⟨hp, g, d, tk, os⟩ :=
      fun q => B.iter prog w _ _ ⟨hp, g, d, tk, os⟩ _ h1 q
    wp_walk using q1
    refine wpAny_stack_any fun st => wpAny_pure ?_
    split
    · rename_i c _ _ _ _ _
      cases (c == Value.type "enumerate")
      · wp_walk using q1
        exact ⟨_, rfl, h⟩
      · wp_walk using q1
        exact ⟨_, rfl, h⟩
    · wp_walk using q1
      exact ⟨_, rfl, h⟩
theorem enum_begins1 {prog : Program} {w : World} {A : Around} {E : Value → Shared → Prop} {s : Shared} {v : Value} {o : Obj} {H : Heap → Prop} {Q : Value → Shared → Prop} (B : Begins v o H) (h1 : H s.heap)
    (h : ∀ h', IsEnum h' (s.heap.objs.size + 1) s.heap.objs.size 0 .none → h'.get? s.heap.objs.size = some o → h'.objs.size = s.heap.objs.size + 2 →
      (∀ b o, s.heap.get? b = some o → h'.get? b = some o) → Q (.ref (s.heap.objs.size + 1)) { s with heap := h' }) :
    wpAny (model prog w) A (call (.type "enumerate") [v]) Q E s := by
  refine callType_new F.called_enumerate (by decide) (F.typeCall_enumerate_1 _) (F.newCall_enumerate_1 _) (fun obj => F.args_object_init_2 obj _) F.entry_enumerate_new
    (meets_enum1 B) ⟨h1, ?_⟩
  have hz : (s.heap.push o).objs.size = s.heap.objs.size + 1 := Heap.size_push ..
  show _ ∧ _
  rw [hz]
  have he : IsEnum ((s.heap.push o).push { cls := .type "enumerate", data := .fields #[.none, .bool false, .ref s.heap.objs.size, rawInt 0, .none, .none] }) (s.heap.objs.size + 1) s.heap.objs.size 0 .none := by
    have := Heap.get?_push_size (s.heap.push o) (o := { cls := .type "enumerate", data := .fields #[.none, .bool false, .ref s.heap.objs.size, rawInt 0, .none, .none] }) rfl
    rw [hz] at this; exact this
  refine ⟨⟨_, he, rfl⟩, h _ he (Heap.get?_push_of_some _ (Heap.get?_push_size _ B.free)) (by rw [Heap.size_push, hz]) fun b o x => Heap.get?_push_of_some _ (Heap.get?_push_of_some _ x)⟩
/-- the tuple at a, each item in a new pair -/
def IteT (K : PySem.W.Frag) (a : Addr) : It :=
  ⟨fun i H => ∃ (xs : List V) (x : V), SqT K H a xs ∧ xs[i]? = some x, fun i H v H' => ∃ T x, v = .ref T ∧ H T = none ∧ H' = upd H T (.tup [.int (i : Nat), x]) ∧ ∀ xs, SqT K H a xs → xs[i]? = some x, fun i H => ∃ xs : List V, SqT K H a xs ∧ xs.length ≤ i⟩
theorem turn_enumT {P : Program} {w : World} {K : PySem.W.Frag} {elts : List Expr} {kk : Nat} {tpos : Pos} (a e it : Addr) :
    Turn P w K (.Tuple elts kk tpos) (IteT K a) [e, it] e (fun i h => (∃ old, IsEnum h e it ((i : Nat) : Int) old) ∧ h.IsTupleIter it a i ∧ e ≠ it) where
  mem := by simp
  obj := fun i h st b hb => by
    obtain ⟨⟨old, he⟩, ⟨o, ho, hc, hd⟩, _⟩ := st
    have e' : b = e ∨ b = it := by simpa using hb
    rcases e' with z | z
    · rw [z]; exact ⟨_, he, fun v q => nomatch q⟩
    · rw [z]; exact ⟨o, ho, fun v q => by rw [hd] at q; cases q⟩
  keep := fun i h h' st k => let ⟨⟨old, he⟩, hi, hne⟩ := st; ⟨⟨old, k e (by simp) _ he⟩, hi.at fun o q => k it (by simp) o q, hne⟩
  item := by
    intro X hP hw hK hc i pins s σ H E I hf st hg
    subst hP hw hK
    obtain ⟨⟨old, he⟩, hit, hne⟩ := st
    obtain ⟨xs, x, hq, hx⟩ := hg
    obtain ⟨its, rv, p, hz⟩ := I.tuple hq
    obtain ⟨u, hu, ru⟩ := rv.get hx
    have hel : e < s.heap.objs.size := Heap.lt_size he
    have hil : it < s.heap.objs.size := by obtain ⟨_, q, _⟩ := hit; exact Heap.lt_size q
    have p' : s.heap.IsTuple a its.toArray := p
    have hai : a ≠ it := fun z => by
      obtain ⟨o1, q1, c1, _⟩ := p'
      obtain ⟨o2, q2, c2, _⟩ := hit
      rw [z, q2] at q1
      cases q1
      rw [c1] at c2
      simp at c2
    have hea : e ∉ [it, a] := fun z => by
      simp at z
      rcases z with z | z
      · exact hne z
      · obtain ⟨o1, q1, c1, _⟩ := p'
        rw [← z, he] at q1
        cases q1
        simp at c1
    refine wpAny_pyNext_enum_itemD (Draws.tuple (prog := X.prog) (w := X.w) (A := X.A.in1) (show X.A.in1.handled = none from I.ok.hd hc) it a hai its.toArray) he ⟨hit, p'⟩ (by have := (List.getElem?_eq_some_iff.mp hu).1; simpa using this) hne hea fun u' h' tk hP' ho hst' hT hsz hk => ?_
    have hu' : u' = u := by
      have hP' : its.toArray[i]? = some u' := hP'
      simp at hP'
      rw [hu] at hP'
      exact (Option.some.inj hP').symm
    subst hu'
    obtain ⟨hit', _⟩ := hst'
    refine ⟨_, rfl, wpAny_letOwnedTupleGo_enum (s := { s with heap := h', toks := tk + 1 }) ho fun h'' he' sb => ?_⟩
    have hT2 : h''.get? s.heap.objs.size = some { cls := .type "tuple", data := .seq #[.int i tk, u'] } := (sb.2 _ (Nat.ne_of_gt hel)).trans hT
    have new : ObjOk X.prog X.w (upd H s.heap.objs.size (.tup [.int (i : Nat), x])) h'' s.heap.objs.size (.tup [.int (i : Nat), x]) :=
      ⟨by show 2 ≤ sizeLine; decide, [.int i tk, u'], .cons ⟨_, rfl⟩ (.cons ru .nil), ⟨_, hT2, rfl, _, rfl⟩⟩
    have I1 : Inv X pins σ (upd H s.heap.objs.size (.tup [.int (i : Nat), x])) { s with heap := h'', toks := tk + 1 } :=
      I.turnedNew (ch := [e, it]) (fun b ob hb q => (sb.2 b (fun z => hb (by simp [z]))).trans (hk b ob (fun z => hb (by simp [z])) (fun z => hb (by simp [z])) q)) hf (Nat.le_refl _) new
    refine ⟨.ref s.heap.objs.size, _, I1, rfl, ⟨_, x, rfl, I.hok.fresh (Nat.le_refl _), rfl, fun ys hy => by rw [I.tuple_inj hy hq]; exact hx⟩, ⟨⟨u', ?_⟩, hit'.at fun o q => (sb.2 it (Ne.symm hne)).trans q, hne⟩, fun b hb => ?_⟩
    · have e1 : ((i + 1 : Nat) : Int) = (i : Int) + 1 := by omega
      rw [e1]; exact he'
    · have hb' : b < s.heap.objs.size := by
        have e' : b = e ∨ b = it := by simpa using hb
        rcases e' with z | z
        · rw [z]; exact hel
        · rw [z]; exact hil
      rw [upd_ne (Nat.ne_of_lt hb')]
      exact (hf b hb).1
  done := by
    intro X hP hw hK hc i pins s σ H E I hf st hg
    subst hP hw hK
    obtain ⟨⟨old, he⟩, hit, hne⟩ := st
    obtain ⟨xs, hq, hx⟩ := hg
    obtain ⟨its, rv, p, hz⟩ := I.tuple hq
    obtain ⟨f0, f1, f2, f3, f4, f5⟩ := hf it (by simp)
    have hl := rv.length
    have p' : s.heap.IsTuple a its.toArray := p
    have hT : s.TypeIs (.ref e) "enumerate" := ⟨_, he, rfl⟩
    unfold pyNext
    refine wpAny_bind (wpAny_attempt (wpAny_callSpecial?_slot (name := Str.ofString "__next__") hT F.slot_enumerate_next
      (wpAny_call_entry F.slot_enumerate_next hT F.entry_enumerate_next ?_ (F.args_enumerate_next_1 _))))
    show wpAny _ _ (field (.ref e) 2 >>= _) _ _ _
    refine wpAny_bind (wpAny_field he rfl (x := .ref it) rfl ?_)
    refine wpAny_bind (wpAny_nextOf_tuple_end (I.ok.hd hc) hit p' (by simp; omega) fun h' x he' hx' => ?_)
    obtain ⟨o, ho, hc⟩ := hx'
    refine wpAny_bind (wpAny_isInstance (T := "StopIteration") (b := true) ⟨o, ho, hc⟩ isSubtype_stop ?_)
    exact wpAny_pure ⟨rfl, I.turned (t' := s.toks) (fun b o hb q => he' b o hb q) f0 f1 f3 f4 f5⟩
  self := fun A i s Q E st h => let ⟨⟨_, he⟩, _⟩ := st; wpAny_pyIter_enum he h
def iEnumT (K : PySem.W.Frag) (ta : TA) : TI := fun σ H R => ta σ H fun vs H1 => ∃ a xs, vs = [.ref a] ∧ SqT K H1 a xs ∧ R (IteT K a) H1
theorem pi_enumT {X : Cx} {e : Expr} {ta : TA} {p pos tpos : Pos} {elts : List Expr} {kk : Nat} (hg : Gl X "enumerate") (hm : X.mg "enumerate" = none) (ha : PA X [e] ta) (hs : starEach [e] X.env = [(false, eval e X.env)] := by rfl) :
    PI X (.Tuple elts kk tpos) (.Call (.Name "enumerate" p) [e] [] pos) (iEnumT X.K ta) := by
  refine ⟨fun pins s σ H R I h => ?_⟩
  refine Call_ (ld_blt I hg hm boot_enumerate (PyProof.Rows.callWith_type1 (thn (ha.run pos pins s σ H _ I h) fun us s1 ⟨vs, H1, I1, r1, q1⟩ => ?_) hs rfl))
  obtain ⟨a, xs, ex, hq, q⟩ := q1
  subst ex
  cases r1 with
  | cons r rr =>
    cases rr
    cases r
    obtain ⟨its, rv, p', hz⟩ := I1.tuple hq
    refine enum_begins1 (begins_tuple a its.toArray) p' fun h' he hit hsz hk => wpAny_pyIter_enum he ?_
    have I2 : Inv X pins σ H1 { s1 with heap := h' } := I1.kept (t' := s1.toks) hk
    refine ⟨s1.heap.objs.size + 1, [s1.heap.objs.size + 1, s1.heap.objs.size], _, _, H1, rfl, I2, turn_enumT a (s1.heap.objs.size + 1) s1.heap.objs.size, ⟨⟨.none, he⟩, ⟨_, hit, rfl, rfl⟩, Nat.succ_ne_self _⟩, fun b hb => ?_, q⟩
    have e' : b = s1.heap.objs.size + 1 ∨ b = s1.heap.objs.size := by simpa using hb
    have hle : s1.heap.objs.size ≤ b := by
      rcases e' with z | z
      · rw [z]; exact Nat.le_add_right _ _
      · rw [z]; exact Nat.le_refl _
    exact I1.fpOk hle (I1.hok.fresh hle)
section
variable {X : Cx} {Ex : XK} {g : G} {W : Wd} {tg : Expr}
theorem it_enumT {a : Addr} {xs : List PV} {vs : List V} (h : SqT g.K W.fro a vs) (r : Reps g.K W xs vs) : ItOf g W (IteT g.K a) (nums xs) [] := by
  intro i W' H' s' l hs' ck
  have hq : SqT g.K H' a vs := (l.fro.trans hs'.fro).sqT h
  have r := r.lo l
  have hl : (nums xs).length = xs.length := by simp [nums]
  rw [hl]
  refine ⟨fun hi => ?_, fun hi => ⟨vs, hq, by rw [← r.length]; exact hi⟩⟩
  obtain ⟨v, e, rv⟩ := r.get (List.getElem?_eq_getElem hi)
  refine ⟨⟨vs, v, hq, e⟩, fun x H'' y => ?_⟩
  obtain ⟨T, x', rfl, hT, rfl, y⟩ := y
  have := y vs hq
  rw [e] at this; cases this
  have l2 : W'.Le ⟨upd W'.fro T (.tup [.int (i : Nat), v]), W'.ob, W'.hid, W'.lk⟩ := hs'.le_new hT
  refine ⟨_, l2, hs'.new hT, fun px e' => ?_⟩
  have : px = .wt [.int (i : Nat), xs[i]] := by
    simp only [nums, List.getElem?_mapIdx] at e'
    rw [List.getElem?_eq_getElem hi] at e'
    exact (Option.some.inj e').symm
  rw [this]
  exact .wt (.inl (.inl upd_same)) (.cons (.int _) (.cons (rv.mono l2) .nil))
def iEnG (m : AM) : IM := fun env s => (m env s).bind fun vs s1 =>
  match vs with
  | [.tup xs] => .ok (nums xs, []) s1
  | [v] => liftI ((lsCk s1 v).map fun p => (nums p.1, p.2)) s1
  | _ => .fail
theorem si_enumG {e : Expr} {m : AM} {p pos tpos : Pos} {elts : List Expr} {kk : Nat} (hg : Gl X "enumerate") (hm : X.mg "enumerate" = none) (ha : PA X [e] (tA (gx X) Ex m)) (hs : starEach [e] X.env = [(false, eval e X.env)] := by rfl) :
    PI X (.Tuple elts kk tpos) (.Call (.Name "enumerate" p) [e] [] pos) (tI (gx X) Ex (iEnG m)) := by
  classical
  refine ⟨fun pins s σ H R I q => ?_⟩
  obtain ⟨W, st, env, hE, hs', h⟩ := q
  by_cases ht : ∃ xs s1, m env st = .ok [.tup xs] s1
  · obtain ⟨xs, s1, e1⟩ := ht
    refine (pi_weak (pi_enumT hg hm ha hs) (t' := tI (gx X) Ex fun env' s' => if env' = env ∧ s' = st then .ok (nums xs, []) s1 else .fail) ?_).run pins s σ H R I ⟨W, st, env, hE, hs', ?_⟩
    · rintro σ' H' R' ⟨W', st', env', hE', hs2, h⟩
      by_cases hz : env' = env ∧ st' = st
      · obtain ⟨rfl, rfl⟩ := hz
        simp only [true_and, and_self, if_true] at h
        refine ⟨W', st', env', hE', hs2, ?_⟩
        rw [e1]
        intro W1 H1 us l1 hs1 r1
        cases r1 with
        | cons r rr =>
          cases rr
          cases r with
          | tup h2 r2 => exact ⟨_, _, rfl, tup_sq hs1 h2, h W1 H1 _ l1 hs1 (it_enumT h2.t r2)⟩
      · simp only [hz, if_false] at h
        exact h.elim
    · have h1 : Post ((m env st).bind _) _ _ := h
      rw [e1] at h1
      simp only [and_self, if_true]
      exact h1
  · refine (si_enum hg hm ha hs).run pins s σ H R I ⟨W, st, env, hE, hs', ?_⟩
    have e2 : iEnG m env st = iEn m env st := by
      unfold iEnG iEn
      cases hm : m env st with
      | ok vs s1 =>
        cases vs with
        | nil => rfl
        | cons v r => cases r with
          | nil => cases v <;> first | rfl | exact absurd ⟨_, _, hm⟩ ht
          | cons y r => cases v <;> rfl
      | exc c x s1 => rfl
      | fail => rfl
    rw [← e2]
    exact h
end
end Z

set_option Elab.async false
set_option linter.all false
set_option maxRecDepth 100000
set_option maxHeartbeats 4000000
/-! ZX: zip of two tuples. -/
namespace Z
open PySem PySem.Spec PyProof.Rows L2 RZ
variable [LamT]
def zipW (xs ys : List PV) : List PV := (xs.zip ys).map fun p => .wt [p.1, p.2]
section
variable {X : Cx} {Ex : XK} {g : G} {W : Wd} {tg : Expr}
theorem it_zipT {a b : Addr} {xs ys : List PV} {us vs : List V} (h : SqT g.K W.fro a us) (h2 : SqT g.K W.fro b vs) (r : Reps g.K W xs us) (r2 : Reps g.K W ys vs) : ItOf g W (ItzT g.K a b) (zipW xs ys) [] := by
  intro i W' H' s' l hs' ck
  have hq : SqT g.K H' a us := (l.fro.trans hs'.fro).sqT h
  have hq2 : SqT g.K H' b vs := (l.fro.trans hs'.fro).sqT h2
  have r := r.lo l
  have r2 := r2.lo l
  have hl : (zipW xs ys).length = min xs.length ys.length := by simp [zipW]
  rw [hl]
  refine ⟨fun hi => ?_, fun hi => ⟨us, vs, hq, hq2, by rw [← r.length, ← r2.length]; omega⟩⟩
  have hi1 : i < xs.length := by omega
  have hi2 : i < ys.length := by omega
  obtain ⟨v, e, rv⟩ := r.get (List.getElem?_eq_getElem hi1)
  obtain ⟨v2, e2, rv2⟩ := r2.get (List.getElem?_eq_getElem hi2)
  refine ⟨⟨us, vs, v, v2, hq, hq2, e, e2⟩, fun x H'' y => ?_⟩
  obtain ⟨T, x', y', rfl, hT, rfl, y1, y2⟩ := y
  have := y1 us hq
  rw [e] at this; cases this
  have := y2 vs hq2
  rw [e2] at this; cases this
  have l2 : W'.Le ⟨upd W'.fro T (.tup [v, v2]), W'.ob, W'.hid, W'.lk⟩ := hs'.le_new hT
  refine ⟨_, l2, hs'.new hT, fun px e' => ?_⟩
  have : px = .wt [xs[i], ys[i]] := by
    simp only [zipW, List.getElem?_map] at e'
    rw [List.getElem?_eq_getElem (by simp; omega)] at e'
    have := (Option.some.inj e').symm
    simpa using this
  rw [this]
  exact .wt (.inl (.inl upd_same)) (.cons (rv.mono l2) (.cons (rv2.mono l2) .nil))
def iZ (m : AM) : IM := fun env s => (m env s).bind fun vs s1 =>
  match vs with
  | [.tup xs, .tup ys] => .ok (zipW xs ys, []) s1
  | _ => .fail
theorem si_zip {e e2 : Expr} {m : AM} {p pos tpos : Pos} {elts : List Expr} {kk : Nat} (hg : Gl X "zip") (hm : X.mg "zip" = none) (ha : PA X [e, e2] (tA (gx X) Ex m))
    (hs : starEach [e, e2] X.env = (false, eval e X.env) :: starEach [e2] X.env := by rfl) (hpl : (backTo pos (starEach [e2] X.env)).any (·.1) = false := by rfl) :
    PI X (.Tuple elts kk tpos) (.Call (.Name "zip" p) [e, e2] [] pos) (tI (gx X) Ex (iZ m)) := by
  refine pi_weak (pi_zipA hg hm ha hs hpl) fun σ H R ⟨W, st, env, hE, hs, h⟩ => ?_
  refine tA_bind hE hs h fun vs s1 W1 H1 us l1 he1 hs1 r1 h1 => ?_
  split at h1
  · cases r1 with
    | cons r rr =>
      cases rr with
      | cons r' rr =>
        cases rr
        cases r with
        | tup h2 r2 =>
          cases r' with
          | tup h3 r3 => exact ⟨_, _, _, _, rfl, .inr ⟨tup_sq hs1 h2, tup_sq hs1 h3, h1 W1 H1 _ l1 hs1 (it_zipT h2.t h3.t r2 r3)⟩⟩
  · exact h1.elim
end
end Z

set_option Elab.async false
set_option linter.all false
set_option maxRecDepth 100000
set_option maxHeartbeats 4000000
/-! ZX2: comprehensions over two. -/
namespace Z
open PySem PySem.Spec PyProof.Rows L2
variable [LamT]
open Classical in
noncomputable def lcL2 (c : Ck) (t : GM) (ts : TM) (it1 : IM) (t1 : GM) (ts1 : TM) (m : EM) (vs1 : List Nat) (env : En) : List PV → S → Rs (List PV)
  | [], s => if ckOk c s then .ok [] s else .fail
  | x :: xs, s => if ckOk c s then
      match t x env s with
      | none => .fail
      | some e1 => (noX (ts e1 s)).bind fun k s1 => if k then (noX (it1 e1 s1)).bind fun p1 s2 =>
          if p1.1.length ≤ 1000 then (lcL p1.2 t1 ts1 m (wipeE e1 vs1) p1.1 s2).bind fun ys s3 => (lcL2 c t ts it1 t1 ts1 m vs1 env xs s3).bind fun zs s4 => .ok (ys ++ zs) s4 else .fail
        else lcL2 c t ts it1 t1 ts1 m vs1 env xs s1
    else .fail
noncomputable def eLc2 (mu : Bool) (it : IM) (t : GM) (ts : TM) (it1 : IM) (t1 : GM) (ts1 : TM) (m : EM) (vs vs1 : List Nat) : EM := fun env s => (it env s).bind fun p s1 =>
  if p.1.length ≤ 10000 then (lcL2 p.2 t ts it1 t1 ts1 m vs1 (wipeE env vs) p.1 s1).bind fun ys s2 => lift (newL mu ys s2) else .fail
theorem wipe_same {ix vs : List Nat} {σ σ' : L2.St} (hv : ∀ i ∈ ix, i ∈ vs) (sm : Same ix (wipe σ vs) σ') : wipe σ' vs = wipe σ vs := by
  have hww := sm.wipe hv
  rw [hww]
  refine List.ext_getElem? fun j => ?_
  by_cases hj : j ∈ vs
  · by_cases hl : j < σ.length
    · rw [wipe_in hj (by rw [wipe_length]; exact hl), wipe_in hj hl]
    · rw [List.getElem?_eq_none (by rw [wipe_length, wipe_length]; omega), List.getElem?_eq_none (by rw [wipe_length]; omega)]
  · rw [wipe_out hj]
section
variable {X : Cx} {Ex : XK} {pos : Pos} {e : Expr}
theorem tLc2_of {g : G} {mu : Bool} {it it1 : IM} {ix vs ix1 vs1 : List Nat} {t t1 : GM} {ts ts1 : TM} {m : EM} (hv : ∀ i ∈ ix, i ∈ vs) (hv1 : ∀ i ∈ ix1, i ∈ vs1) {σ : L2.St} {H : Hp} {Q : VK} (h : tE g Ex (eLc2 mu it t ts it1 t1 ts1 m vs vs1) σ H Q) :
    tLc2 (tI g Ex it) (tG g ix t) (tT g noK ts) (tI g noK it1) (tG g ix1 t1) (tT g noK ts1) (tE g noK m) vs vs1 σ H Q := by
  obtain ⟨W, s, env, hE, hs, h⟩ := h
  refine ⟨W, s, env, hE, hs, h.bind.mono (fun p s1 h1 W1 H1 J l1 hs1 hJ => ?_) fun _ _ _ z => z⟩
  obtain ⟨xs, c⟩ := p
  split at h1
  · rename_i hbig
    have hbig : xs.length ≤ 10000 := hbig
    intro D hD
    have hf : W1.fro D = none := hs1.fro.free hD
    have hh : W1.hid D = none := hs1.hid.free hD
    have hob : ∀ (n : Nat) (a : Addr), W1.ob[n]? = some a → a ≠ D := fun n a q z => hs1.alive n a q (z ▸ hD)
    refine ⟨fun i k H => k = xs.length - i ∧ i ≤ xs.length ∧ ∃ W2 s2 acc us, W1.Lo W2 ∧ W2.hid = upd W1.hid D (.lst us) ∧ StR g W2 H s2 ∧ Reps g.K W2 acc us ∧ acc.length ≤ i * 1000 ∧
      Post (lcL2 c t ts it1 t1 ts1 m vs1 (wipeE env vs) (xs.drop i) s2) (fun ys s3 => Post (lift (newL mu (acc ++ ys) s3)) (fun v s' => Cont g W Q v s') (XW g W Ex)) (XW g W Ex),
      ⟨_, rfl, Nat.zero_le _, W1.re (upd W1.hid D (.lst [])), s1, [], [], W1.lo_re _, rfl, hs1.hide hf hob (fun _ _ => rfl) (fun u q => by rw [hD] at q; cases q), .nil, by simp, by simpa using h1.bind⟩, ?_⟩
    rintro i k H ⟨rfl, hle, W2, s2, acc, us, l2, hhid, hs2, racc, hacc, h2⟩
    by_cases hi : i < xs.length
    · right
      rw [List.drop_eq_getElem_cons hi] at h2
      unfold lcL2 at h2
      split at h2
      · rename_i hck
        split at h2
        · exact h2.elim
        · rename_i e1 ht
          obtain ⟨g1, y1⟩ := (hJ i W2 H s2 l2 hs2 hck).1 hi
          refine ⟨g1, _, fun H' q => ⟨xs.length - (i + 1), by omega, q⟩, fun x H' y => ?_⟩
          obtain ⟨W3, l3, hs3, r3⟩ := y1 x H' y
          have he3 : EnvR g.K W3 (wipeE env vs) (wipe σ vs) := ((hE.mono l1).lo (l2.trans l3.lo)).wipe vs
          refine ⟨W3, s2, _, xs[i], e1, he3, hs3, r3 _ (List.getElem?_eq_getElem hi), ht, fun σ' he' sm => ?_⟩
          refine ⟨wipe_same hv sm, ?_⟩
          have h3 := noX_bind h2 (XW g W3 noK)
          refine ⟨W3, s2, e1, he', hs3, h3.mono (fun b s4 h4 W4 H4 l4 hs4 => ?_) fun _ _ _ z => z⟩
          cases b with
          | false =>
            rw [if_neg Bool.false_ne_true]
            refine ⟨rfl, hi, W4, s4, acc, us, (l2.trans l3.lo).trans l4.lo, l4.hid.trans (l3.hid.trans hhid), hs4, racc.lo (l3.lo.trans l4.lo), by omega, ?_⟩
            rw [if_neg Bool.false_ne_true] at h4
            exact h4
          | true =>
            rw [if_pos rfl]
            rw [if_pos rfl] at h4
            have h5 := noX_bind h4 (XW g W4 noK)
            refine ⟨W4, s4, e1, he'.mono l4, hs4, h5.mono (fun p1 s5 h6 W5 H5 J1 l5 hs5 hJ1 => ?_) fun _ _ _ z => z⟩
            obtain ⟨zs, c1⟩ := p1
            split at h6
            · rename_i hb1
              have hb1 : zs.length ≤ 1000 := hb1
              have l25 : W2.Lo W5 := l3.lo.trans (l4.lo.trans l5.lo)
              refine ⟨fun j k H => k = zs.length - j ∧ j ≤ zs.length ∧ ∃ W6 s6 acc us, W5.Lo W6 ∧ W6.hid = upd W1.hid D (.lst us) ∧ StR g W6 H s6 ∧ Reps g.K W6 acc us ∧ acc.length ≤ i * 1000 + j ∧
                Post (lcL c1 t1 ts1 m (wipeE e1 vs1) (zs.drop j) s6) (fun ys s7 => Post (lcL2 c t ts it1 t1 ts1 m vs1 (wipeE env vs) (xs.drop (i + 1)) s7) (fun ws s8 => Post (lift (newL mu (acc ++ (ys ++ ws)) s8)) (fun v s' => Cont g W Q v s') (XW g W Ex)) (XW g W Ex)) (XW g W Ex),
                ⟨_, rfl, Nat.zero_le _, W5, s5, acc, us, ⟨Sub.refl _, rfl, [], by simp⟩, l5.hid.trans (l4.hid.trans (l3.hid.trans hhid)), hs5, racc.lo l25, by omega, ?_⟩, ?_⟩
              · refine h6.bind.mono (fun ys s7 h7 => h7.bind.mono (fun ws s8 h8 => h8) fun _ _ _ z => z) fun _ _ _ z => z
              · rintro j k H ⟨rfl, hlj, W6, s6, acc, us, l6, hhid6, hs6, racc, hacc6, h7⟩
                by_cases hj : j < zs.length
                · right
                  rw [List.drop_eq_getElem_cons hj] at h7
                  unfold lcL at h7
                  split at h7
                  · rename_i hck1
                    split at h7
                    · exact h7.elim
                    · rename_i e2 ht1
                      obtain ⟨g2, y2⟩ := (hJ1 j W6 H s6 l6 hs6 hck1).1 hj
                      refine ⟨g2, _, fun H' q => ⟨zs.length - (j + 1), by omega, q⟩, fun x H' y => ?_⟩
                      obtain ⟨W7, l7, hs7, r7⟩ := y2 x H' y
                      have he7 : EnvR g.K W7 (wipeE e1 vs1) (wipe σ' vs1) := ((he'.mono l4).lo (l5.lo.trans (l6.trans l7.lo))).wipe vs1
                      refine ⟨W7, s6, _, zs[j], e2, he7, hs7, r7 _ (List.getElem?_eq_getElem hj), ht1, fun σ3 he3' sm3 => ?_⟩
                      refine ⟨wipe_same hv1 sm3, ?_⟩
                      have h8 := noX_bind h7 (XW g W7 noK)
                      refine ⟨W7, s6, e2, he3', hs7, h8.mono (fun b s9 h9 W9 H9 l9 hs9 => ?_) fun _ _ _ z => z⟩
                      cases b with
                      | false =>
                        rw [if_neg Bool.false_ne_true]
                        rw [if_neg Bool.false_ne_true] at h9
                        exact ⟨rfl, hj, W9, s9, acc, us, (l6.trans l7.lo).trans l9.lo, l9.hid.trans (l7.hid.trans hhid6), hs9, racc.lo (l7.lo.trans l9.lo), by omega, h9⟩
                      | true =>
                        rw [if_pos rfl]
                        rw [if_pos rfl] at h9
                        have h10 := noX_bind h9 (XW g W9 noK)
                        refine ⟨W9, s9, e2, he3'.mono l9, hs9, h10.mono (fun y s10 h11 W10 H10 u l10 hs10 r10 => ?_) fun _ _ _ z => z⟩
                        have hid5 : W10.hid = upd W1.hid D (.lst us) := l10.hid.trans (l9.hid.trans (l7.hid.trans hhid6))
                        have hD5 : H10 D = some (.lst us) := hs10.hid D _ (by rw [hid5, upd_same])
                        have racc5 : Reps g.K W10 acc us := racc.lo (l7.lo.trans (l9.lo.trans l10.lo))
                        refine ⟨us, hD5, ?_, ?_⟩
                        · rw [← racc.length]
                          rw [sizeLine_eq]; omega
                        · have hf5 : W10.fro D = none := hs10.hnf D (by rw [hid5, upd_same]; simp)
                          have hob5 : ∀ (n : Nat) (a : Addr), W10.ob[n]? = some a → a ≠ D := fun n a q z => by
                            have := hs10.hno n a q
                            rw [z, hid5, upd_same] at this; cases this
                          have hs11 := hs10.hide (o := .lst (us ++ [u])) (h0 := W1.hid) hf5 hob5 (fun b hb => by rw [hid5, upd_ne hb]) (fun u q => by first | (rw [hD5] at q; cases q; exact True.intro) | (rw [hD6] at q; cases q; exact True.intro) | (rw [hD10] at q; cases q; exact True.intro))
                          have lo6 := W10.lo_re (upd W1.hid D (.lst (us ++ [u])))
                          refine ⟨rfl, hj, _, s10, acc ++ [y], us ++ [u], ((l6.trans l7.lo).trans (l9.lo.trans l10.lo)).trans lo6, rfl, hs11, (racc5.append (.cons r10 .nil)).lo lo6, by simp; omega, ?_⟩
                          refine h11.bind.mono (fun ys s12 h12 => ?_) fun _ _ _ z => z
                          have h12 : Post (lcL2 c t ts it1 t1 ts1 m vs1 (wipeE env vs) (xs.drop (i + 1)) s12) (fun ws s8 => Post (lift (newL mu (acc ++ ((y :: ys) ++ ws)) s8)) (fun v s' => Cont g W Q v s') (XW g W Ex)) (XW g W Ex) := h12
                          refine h12.mono (fun ws s13 h13 => ?_) fun _ _ _ z => z
                          rw [List.append_assoc]
                          exact h13
                  · exact h7.elim
                · left
                  rw [List.drop_eq_nil_of_le (by omega)] at h7
                  unfold lcL at h7
                  split at h7
                  · rename_i hck1
                    refine ⟨(hJ1 j W6 H s6 l6 hs6 hck1).2 (show zs.length ≤ j by omega), ?_⟩
                    have hm : acc.length ≤ (i + 1) * 1000 := by rw [Nat.add_mul]; omega
                    exact ⟨rfl, hi, W6, s6, acc, us, l2.trans (l25.trans l6), hhid6, hs6, racc, hm, h7⟩
                  · exact h7.elim
            · exact h6.elim
      · exact h2.elim
    · left
      rw [List.drop_eq_nil_of_le (by omega)] at h2
      unfold lcL2 at h2
      split at h2
      · rename_i hck
        refine ⟨(hJ i W2 H s2 l2 hs2 hck).2 (show xs.length ≤ i by omega), ?_⟩
        have h2 : Post (lift (newL mu (acc ++ []) s2)) _ _ := h2
        obtain ⟨v, s3, e3, hc3⟩ := h2.lift
        rw [List.append_nil] at e3
        unfold newL at e3
        split at e3
        · cases mu with
          | true =>
            cases e3
            have l3 : W2.Lo ⟨W2.fro, W2.ob ++ [D], W1.hid, W2.lk⟩ := ⟨Sub.refl _, rfl, [D], rfl⟩
            have hs3 := hs2.showO (m := .lst acc) hhid hh (.lst (hs2.hid D _ (by rw [hhid, upd_same])) (racc.lo l3))
            exact hc3 _ _ _ (l1.trans ⟨(l2.trans l3).fro, rfl, (l2.trans l3).lk, (l2.trans l3).ob⟩) hs3 (.obj (by rw [← hs2.len]; simp))
          | false =>
            cases e3
            have hf2 : W2.fro D = none := hs2.hnf D (by rw [hhid, upd_same]; simp)
            have l3 : W2.Lo ⟨upd W2.fro D (.lst us), W2.ob, W1.hid, W2.lk⟩ := ⟨Sub.upd hf2, rfl, [], by simp⟩
            have hs3 := hs2.show hhid hh
            exact hc3 _ _ _ (l1.trans ⟨(l2.trans l3).fro, rfl, (l2.trans l3).lk, (l2.trans l3).ob⟩) hs3 (.lst upd_same (racc.lo l3))
        · cases e3
      · exact h2.elim
  · exact h1.elim
theorem se_lc2 {elt tg iter tg1 iter1 : Expr} {ifs ifs1 : List Expr} {scope : Scope} {own : List (Str × Nat)} {vs1 : List Nat} {it it1 : IM} {t t1 : GM} {ts ts1 : TM} {m : EM} {ix ix1 : List Nat} (mu : Bool) (hc : X.calm = true) (hN : X.N.Nodup) (hi : PI X tg iter (tI (gx X) Ex it)) (ok : BlkOk X.N X.env.scope scope own)
    (hg : ∀ (s : Shared) (H : Hp) (C : Addr) (cl : List (Str × Addr)) (fp : List Addr), PG (X.blk s H scope (compEnvC scope cl C X.env) fp) tg (tG (gx X) ix t)) (ht : ∀ (s : Shared) (H : Hp) (C : Addr) (cl : List (Str × Addr)) (fp : List Addr), PTs (X.blk s H scope (compEnvC scope cl C X.env) fp) ifs (tT (gx X) noK ts))
    (hi1 : ∀ (s : Shared) (H : Hp) (C : Addr) (cl : List (Str × Addr)) (fp : List Addr), PI (X.blk s H scope (compEnvC scope cl C X.env) fp) tg1 iter1 (tI (gx X) noK it1))
    (hg1 : ∀ (s : Shared) (H : Hp) (C : Addr) (cl : List (Str × Addr)) (fp : List Addr), PG (X.blk s H scope (compEnvC scope cl C X.env) fp) tg1 (tG (gx X) ix1 t1)) (ht1 : ∀ (s : Shared) (H : Hp) (C : Addr) (cl : List (Str × Addr)) (fp : List Addr), PTs (X.blk s H scope (compEnvC scope cl C X.env) fp) ifs1 (tT (gx X) noK ts1))
    (he : ∀ (s : Shared) (H : Hp) (C : Addr) (cl : List (Str × Addr)) (fp : List Addr), PE (X.blk s H scope (compEnvC scope cl C X.env) fp) elt (tE (gx X) noK m)) (hv : ∀ i ∈ ix, i ∈ own.map (·.2) := by decide) (hv1 : ∀ i ∈ ix1, i ∈ vs1 := by decide) (hvv : ∀ i ∈ vs1, i ∈ own.map (·.2) := by decide)
    (hfs : ∀ x, foldedSetIterable iter X.env x = pure x := by intro _; rfl) (hfs1 : ∀ env x, foldedSetIterable iter1 env x = pure x := by intro _ _; rfl) :
    PE X (.ListComp elt [⟨tg, iter, ifs, 0⟩, ⟨tg1, iter1, ifs1, 0⟩] scope pos) (tE (gx X) Ex (eLc2 mu it t ts it1 t1 ts1 m (own.map (·.2)) vs1)) :=
  pe_weak (pe_lc2 hc hN hi ok hvv hg ht hi1 hg1 ht1 he hfs hfs1) fun σ H Q h => tLc2_of hv hv1 h
end
end Z

set_option Elab.async false
set_option linter.all false
set_option maxRecDepth 100000
set_option maxHeartbeats 4000000
/-! ZX3: dict comprehensions. -/
namespace Z
open PySem PySem.Spec PyProof.Rows L2
variable [LamT]
open Classical in
noncomputable def dcL (c : Ck) (t : GM) (ts : TM) (mk mv : EM) (env : En) : List PV → List (Key × PV) → S → Rs (List (Key × PV))
  | [], acc, s => if ckOk c s then .ok acc s else .fail
  | x :: xs, acc, s => if ckOk c s then
      match t x env s with
      | none => .fail
      | some e1 => (noX (ts e1 s)).bind fun b s1 => if b then (noX (mk e1 s1)).bind fun y s2 => (noX (mv e1 s2)).bind fun z s3 =>
          match kP y with
          | some k => dcL c t ts mk mv env xs (putP acc k z) s3
          | none => .fail
        else dcL c t ts mk mv env xs acc s1
    else .fail
noncomputable def eDc (mu : Bool) (it : IM) (t : GM) (ts : TM) (mk mv : EM) (vs : List Nat) : EM := fun env s => (it env s).bind fun p s1 =>
  if p.1.length ≤ 16000000 then (dcL p.2 t ts mk mv (wipeE env vs) p.1 [] s1).bind fun kvs s2 => (if mu then .ok (.obj s2.length) (s2 ++ [.dic kvs]) else .ok (.dic kvs) s2) else .fail
theorem putP_len (kvs : List (Key × PV)) (k : Key) (v : PV) : (putP kvs k v).length ≤ kvs.length + 1 := by
  unfold putP
  split <;> simp
theorem KReps.len {K : PySem.W.Frag} {W : Wd} : ∀ {xs : List (Key × PV)} {vs : List (Key × V)}, KReps K W xs vs → xs.length = vs.length
  | _, _, .nil => rfl
  | _, _, .cons _ t => by simp [t.len]
section
variable {X : Cx} {Ex : XK} {pos : Pos} {e : Expr}
theorem tDc_of {g : G} {mu : Bool} {it : IM} {ix vs : List Nat} {t : GM} {ts : TM} {mk mv : EM} (hv : ∀ i ∈ ix, i ∈ vs) {σ : L2.St} {H : Hp} {Q : VK} (h : tE g Ex (eDc mu it t ts mk mv vs) σ H Q) :
    tDc (tI g Ex it) (tG g ix t) (tT g noK ts) (tE g noK mk) (tE g noK mv) vs σ H Q := by
  obtain ⟨W, s, env, hE, hs, h⟩ := h
  refine ⟨W, s, env, hE, hs, h.bind.mono (fun p s1 h1 W1 H1 J l1 hs1 hJ => ?_) fun _ _ _ z => z⟩
  obtain ⟨xs, c⟩ := p
  split at h1
  · rename_i hbig
    have hbig : xs.length ≤ 16000000 := hbig
    intro D hD
    have hf : W1.fro D = none := hs1.fro.free hD
    have hh : W1.hid D = none := hs1.hid.free hD
    have hob : ∀ (n : Nat) (a : Addr), W1.ob[n]? = some a → a ≠ D := fun n a q z => hs1.alive n a q (z ▸ hD)
    refine ⟨fun i k H => k = xs.length - i ∧ i ≤ xs.length ∧ ∃ W2 s2 acc us, W1.Lo W2 ∧ W2.hid = upd W1.hid D (.dK us) ∧ StR g W2 H s2 ∧ KReps g.K W2 acc us ∧ acc.length ≤ i ∧
      Post (dcL c t ts mk mv (wipeE env vs) (xs.drop i) acc s2) (fun kvs s3 => Post (if mu then Rs.ok (PV.obj s3.length) (s3 ++ [.dic kvs]) else .ok (.dic kvs) s3) (fun v s' => Cont g W Q v s') (XW g W Ex)) (XW g W Ex),
      ⟨_, rfl, Nat.zero_le _, W1.re (upd W1.hid D (.dK [])), s1, [], [], W1.lo_re _, rfl, hs1.hide hf hob (fun _ _ => rfl) (fun u q => by rw [hD] at q; cases q), .nil, by simp, by simpa using h1.bind⟩, ?_⟩
    rintro i k H ⟨rfl, hle, W2, s2, acc, us, l2, hhid, hs2, racc, hacc, h2⟩
    by_cases hi : i < xs.length
    · right
      rw [List.drop_eq_getElem_cons hi] at h2
      unfold dcL at h2
      split at h2
      · rename_i hck
        split at h2
        · exact h2.elim
        · rename_i e1 ht
          obtain ⟨g1, y1⟩ := (hJ i W2 H s2 l2 hs2 hck).1 hi
          refine ⟨g1, _, fun H' q => ⟨xs.length - (i + 1), by omega, q⟩, fun x H' y => ?_⟩
          obtain ⟨W3, l3, hs3, r3⟩ := y1 x H' y
          have he3 : EnvR g.K W3 (wipeE env vs) (wipe σ vs) := ((hE.mono l1).lo (l2.trans l3.lo)).wipe vs
          refine ⟨W3, s2, _, xs[i], e1, he3, hs3, r3 _ (List.getElem?_eq_getElem hi), ht, fun σ' he' sm => ?_⟩
          refine ⟨wipe_same hv sm, ?_⟩
          have h3 := noX_bind h2 (XW g W3 noK)
          refine ⟨W3, s2, e1, he', hs3, h3.mono (fun b s4 h4 W4 H4 l4 hs4 => ?_) fun _ _ _ z => z⟩
          cases b with
          | false =>
            rw [if_neg Bool.false_ne_true]
            refine ⟨rfl, hi, W4, s4, acc, us, (l2.trans l3.lo).trans l4.lo, l4.hid.trans (l3.hid.trans hhid), hs4, racc.lo (l3.lo.trans l4.lo), by omega, ?_⟩
            rw [if_neg Bool.false_ne_true] at h4
            exact h4
          | true =>
            rw [if_pos rfl]
            rw [if_pos rfl] at h4
            have h5 := noX_bind h4 (XW g W4 noK)
            refine ⟨W4, s4, e1, he'.mono l4, hs4, h5.mono (fun y s5 h6 W5 H5 u l5 hs5 r5 => ?_) fun _ _ _ z => z⟩
            have h6 := noX_bind h6 (XW g W5 noK)
            refine ⟨W5, s5, e1, (he'.mono l4).mono l5, hs5, h6.mono (fun z s6 h7 W6 H6 u6 l6 hs6 r6 => ?_) fun _ _ _ z => z⟩
            split at h7
            · rename_i k ek
              have hid6 : W6.hid = upd W1.hid D (.dK us) := l6.hid.trans (l5.hid.trans (l4.hid.trans (l3.hid.trans hhid)))
              have hD6 : H6 D = some (.dK us) := hs6.hid D _ (by rw [hid6, upd_same])
              have l36 : W2.Lo W6 := l3.lo.trans (l4.lo.trans (l5.lo.trans l6.lo))
              have racc6 := racc.lo l36
              refine ⟨us, k, kP_ok r5 ek, hD6, ?_, ?_⟩
              · rw [← racc.len]
                rw [sizeLine_eq]; omega
              · have hf6 : W6.fro D = none := hs6.hnf D (by rw [hid6, upd_same]; simp)
                have hob6 : ∀ (n : Nat) (a : Addr), W6.ob[n]? = some a → a ≠ D := fun n a q z => by
                  have := hs6.hno n a q
                  rw [z, hid6, upd_same] at this; cases this
                have hs7 := hs6.hide (o := .dK (putK us k u6)) (h0 := W1.hid) hf6 hob6 (fun b hb => by rw [hid6, upd_ne hb]) (fun u q => by first | (rw [hD5] at q; cases q; exact True.intro) | (rw [hD6] at q; cases q; exact True.intro) | (rw [hD10] at q; cases q; exact True.intro))
                have lo6 := W6.lo_re (upd W1.hid D (.dK (putK us k u6)))
                exact ⟨rfl, hi, _, s6, putP acc k z, putK us k u6, (l2.trans l36).trans lo6, rfl, hs7, (racc6.put k r6).lo lo6, by have := putP_len acc k z; omega, h7⟩
            · exact h7.elim
      · exact h2.elim
    · left
      rw [List.drop_eq_nil_of_le (by omega)] at h2
      unfold dcL at h2
      split at h2
      · rename_i hck
        refine ⟨(hJ i W2 H s2 l2 hs2 hck).2 (show xs.length ≤ i by omega), ?_⟩
        have h2 : Post (if mu then Rs.ok (PV.obj s2.length) (s2 ++ [.dic acc]) else .ok (.dic acc) s2) _ _ := h2
        cases mu with
        | true =>
          have h2 : Cont g W Q (PV.obj s2.length) (s2 ++ [.dic acc]) := h2
          have l3 : W2.Lo ⟨W2.fro, W2.ob ++ [D], W1.hid, W2.lk⟩ := ⟨Sub.refl _, rfl, [D], rfl⟩
          have hs3 := hs2.showO (m := .dic acc) hhid hh (.dic (hs2.hid D _ (by rw [hhid, upd_same])) (racc.lo l3))
          exact h2 _ _ _ (l1.trans ⟨(l2.trans l3).fro, rfl, (l2.trans l3).lk, (l2.trans l3).ob⟩) hs3 (.obj (by rw [← hs2.len]; simp))
        | false =>
          have h2 : Cont g W Q (PV.dic acc) s2 := h2
          have hf2 : W2.fro D = none := hs2.hnf D (by rw [hhid, upd_same]; simp)
          have l3 : W2.Lo ⟨upd W2.fro D (.dK us), W2.ob, W1.hid, W2.lk⟩ := ⟨Sub.upd hf2, rfl, [], by simp⟩
          have hs3 := hs2.show hhid hh
          exact h2 _ _ _ (l1.trans ⟨(l2.trans l3).fro, rfl, (l2.trans l3).lk, (l2.trans l3).ob⟩) hs3 (.dic upd_same (racc.lo l3))
      · exact h2.elim
  · exact h1.elim
theorem se_dc {kx vx tg iter : Expr} {ifs : List Expr} {scope : Scope} {own : List (Str × Nat)} {it : IM} {t : GM} {ts : TM} {mk mv : EM} {ix : List Nat} (mu : Bool) (hc : X.calm = true) (hN : X.N.Nodup) (hi : PI X tg iter (tI (gx X) Ex it)) (ok : BlkOk X.N X.env.scope scope own)
    (hg : ∀ (s : Shared) (H : Hp) (C : Addr) (cl : List (Str × Addr)) (fp : List Addr), PG (X.blk s H scope (compEnvC scope cl C X.env) fp) tg (tG (gx X) ix t)) (ht : ∀ (s : Shared) (H : Hp) (C : Addr) (cl : List (Str × Addr)) (fp : List Addr), PTs (X.blk s H scope (compEnvC scope cl C X.env) fp) ifs (tT (gx X) noK ts))
    (hk : ∀ (s : Shared) (H : Hp) (C : Addr) (cl : List (Str × Addr)) (fp : List Addr), PE (X.blk s H scope (compEnvC scope cl C X.env) fp) kx (tE (gx X) noK mk))
    (he : ∀ (s : Shared) (H : Hp) (C : Addr) (cl : List (Str × Addr)) (fp : List Addr), PE (X.blk s H scope (compEnvC scope cl C X.env) fp) vx (tE (gx X) noK mv)) (hv : ∀ i ∈ ix, i ∈ own.map (·.2) := by decide) (hfs : ∀ x, foldedSetIterable iter X.env x = pure x := by intro _; rfl) :
    PE X (.DictComp kx vx [⟨tg, iter, ifs, 0⟩] scope pos) (tE (gx X) Ex (eDc mu it t ts mk mv (own.map (·.2)))) :=
  pe_weak (pe_dc hc hN hi ok hg ht hk he hfs) fun σ H Q h => tDc_of hv h
end
end Z

set_option Elab.async false
set_option linter.all false
set_option maxRecDepth 100000
set_option maxHeartbeats 4000000
/-! ZX4: sorted(set(xs)) of a list of ints. -/
namespace Z
open PySem PySem.Spec PyProof.Rows L2
variable [LamT]
section
variable {P : Program} {w : World} {A : Around} {E : Value → Shared → Prop} {s : Shared}
/-- a set newly made -/
abbrev newSetO (w : World) : Obj := { cls := .type "set", dict := none, data := .set #[] 0 (.fresh 0 0 (!w.params.followText "set-order")) }
/-- the list is read into the new set -/
theorem list_into {l : Addr} {items : Array Value} {ns : List Int} (hh : A.handled = none) (hl : s.heap.IsList l items) (hi : IntsAre items.toList ns) (hb : ns.length + 1 < scanBound) :
    codeAny (model P w) A (.call (.builtin "set.__init__") ⟨[.ref s.heap.objs.size, .ref l], []⟩)
      (wants (fun r s₂ => r = .none ∧ ∃ (h' : Heap) (tk c : Nat), s₂ = { s with heap := h', toks := tk } ∧ SetR w h' s.heap.objs.size (fun j => decide (j ∈ ns)) c ∧ c ≤ ns.length ∧ (∀ b o, s.heap.get? b = some o → h'.get? b = some o)) E) { s with heap := s.heap.push (newSetO w) } := by
  have hsize : items.size = ns.length := by
    have q := IntsAre.length hi
    rwa [Array.length_toList] at q
  have hT : Shared.TypeIs { s with heap := s.heap.push (newSetO w) } (.ref s.heap.objs.size) "set" := ⟨_, Heap.get?_push_size _ rfl, rfl⟩
  have hl1 : (s.heap.push (newSetO w)).IsList l items := by
    obtain ⟨o, ho, r⟩ := hl
    exact ⟨o, Heap.get?_push_of_some _ ho, r⟩
  have hlS : l < s.heap.objs.size := by
    obtain ⟨o, ho, _⟩ := hl
    exact Heap.lt_size ho
  have big : (s.heap.push (newSetO w)).objs.size = s.heap.objs.size + 1 := Heap.size_push ..
  have new1 : (s.heap.push (newSetO w)).get? s.heap.objs.size = some (newSetO w) := Heap.get?_push_size _ rfl
  have old1 : ∀ b o, s.heap.get? b = some o → (s.heap.push (newSetO w)).get? b = some o := fun b o e => Heap.get?_push_of_some _ e
  have hval : ∀ (i : Nat) (v : Value), items[i]? = some v → ∃ k t, ns[i]? = some k ∧ v = .int k t := fun i v hv => by
    have hlt : i < ns.length := by have := (Array.getElem?_eq_some_iff.mp hv).1; omega
    obtain ⟨t, e⟩ := IntsAre.int_at hi i v (by rw [Array.getElem?_toList]; exact hv)
    exact ⟨ns[i], t, List.getElem?_eq_getElem hlt, by rw [e, List.getD_eq_getElem?_getD, List.getElem?_eq_getElem hlt] <;> rfl⟩
  generalize s.heap.push (newSetO w) = h1 at *
  refine codeAny_call_builtin F.called_set.init.plain F.entry_set_init (check_set_init_1 hT ?_)
  obtain ⟨⟨c1, d1, dt, sl⟩, hol, hcl, nl, hdl⟩ := id hl1
  simp only at hcl hdl
  subst hcl; subst hdl
  have a1 := F.sub_list_set
  have a2 := F.sub_list_frozenset
  have a3 : (Value.type "list" == Value.type "dict") = false := by decide
  unfold Builtin.«set.__init__» noKeywords Builtin.Frozenset.updateFrom
  generalize hPI : pyIter = PI
  wp_walk
  subst hPI
  refine wpAny_pyIter_list hl1 (wpAny_bind (wpAny_runValue ?_))
  have hne : l ≠ h1.objs.size := Nat.ne_of_lt (by rw [big]; exact Nat.lt_succ_of_lt hlS)
  have out : s.heap.objs.size ∉ [h1.objs.size, l] := fun z => by
    rcases List.mem_cons.mp z with z | z
    · exact absurd z (Nat.ne_of_lt (by rw [big]; exact Nat.lt_succ_self _))
    · exact absurd (List.mem_singleton.mp z) (Nat.ne_of_gt hlS)
  refine set_update_ints ((Walks.list (by simp [hh]) _ l hne items).toS) s.heap.objs.size out ns hsize hb hval (items.size - 0) 0 _ (by omega) (Nat.zero_le _) ⟨⟨_, Heap.get?_push_size _ rfl, rfl, rfl⟩, hl1.push _⟩ ⟨0, Nat.le_refl 0, setR_new_at (Heap.get?_push_of_some _ new1)⟩ fun s' c' hm hc' hS' => ?_
  obtain ⟨h', g2, d', tk', os'⟩ := s'
  have e1 : g2 = s.gens := hm.gens
  have e2 : d' = s.drawn := hm.drawn
  have e3 : os' = s.os := hm.os
  subst e1 e2 e3
  show wpAny _ _ _ _ _ _
  refine wpAny_pure ?_
  show wpAny _ _ (ret Value.none) _ _ _
  rw [hsize] at hc'
  refine wpAny_pure ⟨rfl, h', tk', c', rfl, hS', hc', fun b o e => ?_⟩
  have hb0 : b < s.heap.objs.size := Heap.lt_size e
  refine hm.heap b o (fun z => ?_) (Heap.get?_push_of_some _ (old1 b o e))
  rcases List.mem_cons.mp z with z | z
  · exact absurd z (Nat.ne_of_lt hb0)
  · exact absurd (List.mem_singleton.mp z) (Nat.ne_of_lt (by rw [big]; exact Nat.lt_succ_of_lt hb0))
theorem call_set_listR {l : Addr} {items : Array Value} {ns : List Int} {Q : Value → Shared → Prop} (hh : A.handled = none) (hl : s.heap.IsList l items) (hi : IntsAre items.toList ns) (hb : ns.length + 1 < scanBound)
    (h : ∀ (h' : Heap) (tk c : Nat), SetR w h' s.heap.objs.size (fun j => decide (j ∈ ns)) c → c ≤ ns.length → (∀ b o, s.heap.get? b = some o → h'.get? b = some o) → Q (.ref s.heap.objs.size) { s with heap := h', toks := tk }) :
    wpAny (model P w) A (call (.type "set") [.ref l]) Q E s := by
  obtain ⟨c0, tl, hmro⟩ := F.called_set.mro
  have k1 := F.called_set.made
  have k2 := F.called_set.sub
  refine wpAny_call (codeAny_of_tree ?_)
  show wpAny _ _ (callAny (.type "set") _) _ _ _
  refine wpAny_pure ⟨Code.quiet_builtin _ (by decide +kernel), codeAny_builtin F.entry_type_call ?_⟩
  rw [Around.under_plain (weight_type_call_type "set" [.ref l] []) rfl]
  have k3 := F.called_set.notType
  have k4 := F.called_set.canCreate
  have k5 := F.typeCall_set_1 (.ref l)
  repeat (any_goals (first | assumption | wp_step))
  refine codeAny_mono (code_set_led1 (.ref l) (E := E) (Q₁ := fun obj s₁ => obj = .ref s.heap.objs.size ∧ s₁ = { s with heap := s.heap.push (newSetO w) }) ⟨rfl, rfl⟩) fun r s₁ hr => ?_
  cases r with
  | error e => exact hr
  | ok fl =>
    cases fl with
    | ret obj =>
      obtain ⟨rfl, rfl⟩ := hr
      have hT : Shared.TypeIs { s with heap := s.heap.push (newSetO w) } (.ref s.heap.objs.size) "set" := ⟨_, Heap.get?_push_size _ rfl, rfl⟩
      have k6 := F.called_set.init.lookup
      have k7 := F.called_set.init.bind (.ref s.heap.objs.size)
      repeat (any_goals (first | assumption | wp_step))
      refine codeAny_mono (list_into (E := E) (by simpa using hh) hl hi hb) fun r₂ s₂ hr₂ => ?_
      cases r₂ with
      | error e => exact hr₂
      | ok fl₂ =>
        cases fl₂ with
        | ret r =>
          obtain ⟨rfl, h', tk, c', rfl, hS', hc', hk'⟩ := hr₂
          repeat (any_goals (first | assumption | wp_step))
          exact h _ _ _ hS' hc' hk'
        | _ => exact hr₂.elim
    | _ => exact hr.elim
end
end Z

set_option Elab.async false
set_option linter.all false
set_option maxRecDepth 100000
set_option maxHeartbeats 4000000
/-! ZX5: sorted(set(xs)), as an expression. -/
namespace Z
open PySem PySem.Spec PyProof.Rows L2
variable [LamT]
/-- put into an ascending list, once -/
def insU (k : Int) : List Int → List Int
  | [] => [k]
  | x :: xs => if k < x then k :: x :: xs else if k = x then x :: xs else x :: insU k xs
def sortD (ns : List Int) : List Int := ns.foldr insU []
theorem insU_mem {k j : Int} : ∀ {xs : List Int}, j ∈ insU k xs ↔ j = k ∨ j ∈ xs
  | [] => by simp [insU]
  | x :: xs => by
    unfold insU
    split
    · simp
    · split
      · rename_i e
        subst e
        simp
      · simp [insU_mem (xs := xs)]
        constructor
        · rintro (h | h | h) <;> simp [h]
        · rintro (h | h | h) <;> simp [h]
theorem insU_asc {k : Int} : ∀ {xs : List Int}, xs.Pairwise (· < ·) → (insU k xs).Pairwise (· < ·)
  | [], _ => by simp [insU]
  | x :: xs, h => by
    obtain ⟨h1, h2⟩ := List.pairwise_cons.mp h
    unfold insU
    split
    · rename_i hk
      exact List.pairwise_cons.mpr ⟨fun y hy => by
        rcases List.mem_cons.mp hy with rfl | hy
        · exact hk
        · have := h1 y hy; omega, h⟩
    · split
      · exact h
      · exact List.pairwise_cons.mpr ⟨fun y hy => by
          rcases insU_mem.mp hy with rfl | hy
          · omega
          · exact h1 y hy, insU_asc h2⟩
theorem sortD_mem {j : Int} : ∀ {ns : List Int}, j ∈ sortD ns ↔ j ∈ ns
  | [] => by simp [sortD]
  | k :: ns => by
    show j ∈ insU k (sortD ns) ↔ _
    rw [insU_mem, sortD_mem]
    simp
theorem sortD_asc : ∀ {ns : List Int}, (sortD ns).Pairwise (· < ·)
  | [] => List.Pairwise.nil
  | k :: ns => insU_asc sortD_asc
theorem asc_eq : ∀ {xs ys : List Int}, xs.Pairwise (· < ·) → ys.Pairwise (· < ·) → (∀ k, k ∈ xs ↔ k ∈ ys) → xs = ys
  | [], [], _, _, _ => rfl
  | [], y :: ys, _, _, h => by have := (h y).mpr (by simp); simp at this
  | x :: xs, [], _, _, h => by have := (h x).mp (by simp); simp at this
  | x :: xs, y :: ys, hx, hy, h => by
    obtain ⟨x1, x2⟩ := List.pairwise_cons.mp hx
    obtain ⟨y1, y2⟩ := List.pairwise_cons.mp hy
    have e : x = y := by
      rcases List.mem_cons.mp ((h x).mp (by simp)) with e | e
      · exact e
      · rcases List.mem_cons.mp ((h y).mpr (by simp)) with f | f
        · exact f.symm
        · have := y1 x e; have := x1 y f; omega
    subst e
    rw [asc_eq x2 y2 fun k => ?_]
    constructor
    · intro hk
      rcases List.mem_cons.mp ((h k).mp (by simp [hk])) with e | e
      · have := x1 k hk; omega
      · exact e
    · intro hk
      rcases List.mem_cons.mp ((h k).mpr (by simp [hk])) with e | e
      · have := y1 k hk; omega
      · exact e
theorem ints_reps {K : PySem.W.Frag} {W : Wd} : ∀ ns : List Int, Reps K W (ns.map PV.int) (ns.map V.int)
  | [] => .nil
  | n :: ns => .cons (.int n) (ints_reps ns)
def uSortSet (mu : Bool) : O1 := fun x s =>
  match sqOf s x with
  | some xs => match intsOf xs with
    | some ns => if ns.length < 60 then newL mu ((sortD ns).map PV.int) s else none
    | none => none
  | none => none
section
variable {X : Cx} {Ex : XK} {pos : Pos}
theorem se_sortSet (mu : Bool) {a : Expr} {p p2 q : Pos} {m : EM} (hc : X.calm = true) (hg : Gl X "sorted") (hm : X.mg "sorted" = none) (hg2 : Gl X "set") (hm2 : X.mg "set" = none) (ha : PE X a (tE (gx X) Ex m))
    (na : starEach [a] X.env = (false, eval a X.env) :: starEach [] X.env := by rfl) : PE X (.Call (.Name "sorted" p) [.Call (.Name "set" p2) [a] [] q] [] pos) (tE (gx X) Ex (eUn (uSortSet mu) m)) := by
  refine ⟨fun pins sh σ H Q I ⟨W, s, env, hE, hs, h⟩ => ?_⟩
  refine Call_ (ld_blt I hg hm boot_sorted (PyProof.Rows.callWith_builtin1 (PyProof.Rows.args_cons (Call_ (ld_blt I hg2 hm2 boot_set ?_)) rfl) rfl rfl))
  refine PyProof.Rows.callWith_type1 (PyProof.Rows.args_cons (thn (ha.run pins sh σ H (fun v H1 => ∃ W1 s1 x r s', Rep X.K W1 x v ∧ StR (gx X) W1 H1 s1 ∧ uSortSet mu x s1 = some (r, s') ∧ Cont (gx X) W1 Q r s') I ?_) fun u sh1 got => PyProof.Rows.args_nil ?_) na) na rfl
  · refine tE_bind hE hs h fun x s1 W1 H1 u l1 he1 hs1 r1 h1 => ?_
    obtain ⟨v, s', e, hc⟩ := h1.lift
    exact ⟨W1, s1, x, v, s', r1, hs1, e, hc.mono l1⟩
  · obtain ⟨v, H1, I1, ru, W1, s1, x, r, s', rx, hs1, e, hcn⟩ := got
    unfold uSortSet at e
    split at e
    case h_2 => cases e
    rename_i xs ex
    split at e
    case h_2 => cases e
    rename_i ns en
    split at e
    case isFalse => cases e
    rename_i small
    obtain ⟨l, vs, rfl, hq, rr⟩ := sqOf_ok hs1 rx ex
    cases ru
    have evs := intsOf_ok rr en
    obtain ⟨hz1, hq1⟩ := newL_ok hs1 (ints_reps (sortD ns)) e hcn
    have fin : ∀ (h' : Heap) (tk c : Nat), SetR X.w h' sh1.heap.objs.size (fun j => decide (j ∈ ns)) c → c ≤ ns.length → (∀ b o, sh1.heap.get? b = some o → h'.get? b = some o) →
        wpAny (model X.prog X.w) X.A (spliced (backTo pos (starEach [] X.env))) (fun vs s2 => wpAny (model X.prog X.w) X.A (call (.builtin "sorted") (Value.ref sh1.heap.objs.size :: vs)) (EP X pins σ Q) X.xe s2) X.xe { sh1 with heap := h', toks := tk } := fun h' tk c hS hcl hk => by
      refine PyProof.Rows.args_nil ?_
      have I2 : Inv X pins σ H1 { sh1 with heap := h', toks := tk } := I1.kept hk
      refine sorted_set (s := { sh1 with heap := h', toks := tk }) hS (I2.ok.hd hc) (by omega) fun s2 p out ct ms k g o hp hgp hi hasc hmem hlen => ?_
      have em : ms = sortD ns := asc_eq hasc sortD_asc fun j => by rw [hmem j, sortD_mem]; simp
      subst em
      have hl2 : ((sortD ns).map V.int).length ≤ sizeLine := hz1
      have hn : H1 p = none := I2.hok.fresh hp
      have J : Inv X pins σ (upd H1 p (.lst ((sortD ns).map V.int))) { ({ sh1 with heap := h', toks := tk } : Shared) with heap := s2.heap, gens := s2.gens, drawn := s2.drawn, toks := s2.toks } :=
        I2.call (ch := []) (Un.laid k hp hn) (I2.hok.laid k hp ⟨hl2, out.toList, ct, vals_of_ints hi, hgp⟩) (by rw [g]; exact I2.bare) (fun _ z => nomatch z)
      have es : s2 = { ({ sh1 with heap := h', toks := tk } : Shared) with heap := s2.heap, gens := s2.gens, drawn := s2.drawn, toks := s2.toks } := by
        obtain ⟨a1, a2, a3, a4, a5⟩ := s2
        have o : a5 = sh1.os := o
        subst o
        rfl
      rw [es]
      exact ⟨.ref p, _, J, rfl, hq1 p hn⟩
    rcases hq with hq | hq
    · obtain ⟨its, rv, pl, hz⟩ := I1.list hq
      rw [evs] at rv
      exact call_set_listR (I1.ok.hd hc) pl.isList (by simpa using rv.ints) (by unfold scanBound; omega) fin
    · obtain ⟨its, rv, pl, hz⟩ := I1.tuple hq
      rw [evs] at rv
      exact call_set_tupI ns (I1.ok.hd hc) pl (by simpa using rv.ints) (by unfold scanBound; omega) fin
end
end Z

set_option Elab.async false
set_option linter.all false
set_option maxRecDepth 100000
set_option maxHeartbeats 4000000
/-! ZX6: bools as numbers, a bool's text, text.split(sep). -/
namespace Z
open PySem PySem.Spec PyProof.Rows L2
variable [LamT]
def oAddB (mu : Bool) : O2 := fun x y s =>
  match x, y with
  | .bl k, .int j => some (.int (b2 k + j), s)
  | x, y => oAdd mu x y s
def oSubB : O2 := fun x y s =>
  match x, y with
  | .bl k, .int j => some (.int (b2 k - j), s)
  | x, y => oSub x y s
def bStrG : OL := fun xs s =>
  match xs with
  | [.bl b] => some (.str (if b then ("True" : Str) else "False"), s)
  | xs => bStr xs s
def mSplit (mu : Bool) : OM := fun x xs s =>
  match x, xs with
  | .str a, [.str b] => if (b.length == 0) = false ∧ a.length ≤ 1000000 then newL mu ((Txt.split a b).map .str) s else none
  | _, _ => none
theorem strs_reps {K : PySem.W.Frag} {W : Wd} : ∀ ts : List Str, Reps K W (ts.map PV.str) (ts.map V.str)
  | [] => .nil
  | n :: ns => .cons (.str n) (strs_reps ns)
section
variable {X : Cx} {Ex : XK} {pos : Pos}
theorem r_addB (mu : Bool) : OpR X (binaryOp .Add) (rM (gx X) (oAddB mu)) := by
  intro pins s σ H x y v u Q I rx ry ⟨W, st, px, py, r, s', r1, r2, hs, e, hc⟩
  unfold oAddB at e
  split at e
  · cases e; cases r1; cases r2
    cases rx
    obtain ⟨t, rfl⟩ := ry
    exact IntBool.add_bool_int ⟨.int _, H, I.tok _, ⟨_, rfl⟩, hc.here hs (.int _)⟩
  · exact r_add mu pins s σ H x y v u Q I rx ry ⟨W, st, _, _, r, s', r1, r2, hs, e, hc⟩
theorem r_subB : OpR X (binaryOp .Sub) (rM (gx X) oSubB) := by
  intro pins s σ H x y v u Q I rx ry ⟨W, st, px, py, r, s', r1, r2, hs, e, hc⟩
  unfold oSubB at e
  split at e
  · cases e; cases r1; cases r2
    cases rx
    obtain ⟨t, rfl⟩ := ry
    exact IntBool.sub_bool_int ⟨.int _, H, I.tok _, ⟨_, rfl⟩, hc.here hs (.int _)⟩
  · exact r_sub pins s σ H x y v u Q I rx ry ⟨W, st, _, _, r, s', r1, r2, hs, e, hc⟩
theorem c_strG : CallR X (.type "str") (rL (gx X) bStrG) := by
  intro pins s σ H xs us Q I rs ⟨W, st, pxs, r, s', r1, hs, e, hc⟩
  unfold bStrG at e
  split at e
  · cases e
    obtain ⟨v, rfl, q⟩ := r1.one
    cases q
    obtain ⟨u, rfl, ru⟩ := vals1 rs
    cases ru
    exact PySem.P.str_of_bool ⟨.str _, H, I.tok _, ⟨_, rfl⟩, hc.here hs (.str _)⟩
  · exact c_str pins s σ H xs us Q I rs ⟨W, st, _, r, s', r1, hs, e, hc⟩
theorem m_split (mu : Bool) : MtR X "str.split" (rMt (gx X) (mSplit mu)) := by
  intro pins s σ H x xs v us Q I rx rs ⟨W, st, px, pxs, r, s', r1, r2, hs, e, hc⟩
  unfold mSplit at e
  split at e <;> try (cases e; done)
  split at e <;> try (cases e; done)
  rename_i hz
  cases r1
  obtain ⟨u, rfl, q⟩ := r2.one
  cases q
  obtain ⟨_, q⟩ := newL_ok hs (strs_reps _) e hc
  exact mt_split pins s σ H _ _ v us Q I rx rs ⟨_, _, rfl, rfl, hz.1, by rw [sizeLine_eq]; omega, q⟩
end
end Z

set_option Elab.async false
set_option linter.all false
set_option maxRecDepth 100000
set_option maxHeartbeats 4000000
/-! ZX7: comprehensions stored at once. -/
namespace Z
open PySem PySem.Spec PyProof.Rows L2
variable [LamT]
section
variable {X : Cx} {Ex : XK} {pos : Pos}
theorem ss_setLc2 {i : Nat} {y : Str} {py : Pos} {elt tg iter tg1 iter1 : Expr} {ifs ifs1 : List Expr} {scope : Scope} {own : List (Str × Nat)} {vs1 : List Nat} {spos : Pos} {it it1 : IM} {t t1 : GM} {ts ts1 : TM} {m : EM} {ix ix1 : List Nat} (mu : Bool) (hc : X.calm = true) (hN : X.N.Nodup) (hy : X.N[i]? = some y) (hyl : X.env.scope.names.lookup y = some .local)
    (hsw : swapsWith (.ListComp elt [⟨tg, iter, ifs, 0⟩, ⟨tg1, iter1, ifs1, 0⟩] scope pos) (some (.Name y py)) spos.line X.env = pure true) (hi : PI X tg iter (tI (gx X) Ex it)) (ok : BlkOk X.N X.env.scope scope own)
    (hg : ∀ (s : Shared) (H : Hp) (C : Addr) (cl : List (Str × Addr)) (fp : List Addr), PG (X.blk s H scope (compEnvC scope cl C X.env) fp) tg (tG (gx X) ix t)) (ht : ∀ (s : Shared) (H : Hp) (C : Addr) (cl : List (Str × Addr)) (fp : List Addr), PTs (X.blk s H scope (compEnvC scope cl C X.env) fp) ifs (tT (gx X) noK ts))
    (hi1 : ∀ (s : Shared) (H : Hp) (C : Addr) (cl : List (Str × Addr)) (fp : List Addr), PI (X.blk s H scope (compEnvC scope cl C X.env) fp) tg1 iter1 (tI (gx X) noK it1))
    (hg1 : ∀ (s : Shared) (H : Hp) (C : Addr) (cl : List (Str × Addr)) (fp : List Addr), PG (X.blk s H scope (compEnvC scope cl C X.env) fp) tg1 (tG (gx X) ix1 t1)) (ht1 : ∀ (s : Shared) (H : Hp) (C : Addr) (cl : List (Str × Addr)) (fp : List Addr), PTs (X.blk s H scope (compEnvC scope cl C X.env) fp) ifs1 (tT (gx X) noK ts1))
    (he : ∀ (s : Shared) (H : Hp) (C : Addr) (cl : List (Str × Addr)) (fp : List Addr), PE (X.blk s H scope (compEnvC scope cl C X.env) fp) elt (tE (gx X) noK m)) (hv : ∀ i ∈ ix, i ∈ own.map (·.2) := by decide) (hv1 : ∀ i ∈ ix1, i ∈ vs1 := by decide) (hvv : ∀ i ∈ vs1, i ∈ own.map (·.2) := by decide)
    (hfs : ∀ x, foldedSetIterable iter X.env x = pure x := by intro _; rfl) (hfs1 : ∀ env x, foldedSetIterable iter1 env x = pure x := by intro _ _; rfl) :
    PS X (.Assign [.Name y py] (.ListComp elt [⟨tg, iter, ifs, 0⟩, ⟨tg1, iter1, ifs1, 0⟩] scope pos) spos) (tS (gx X) Ex (sAsg (eLc2 mu it t ts it1 t1 ts1 m (own.map (·.2)) vs1) (mName i))) := by
  refine ps_weak (ps_setLc2 hc hN hy hyl hsw hi ok hvv hg ht hi1 hg1 ht1 he hfs hfs1) fun D σ H ⟨W, s, env, hE, hs, h⟩ => ?_
  refine tLc2_of (mu := mu) (ts := ts) hv hv1 ?_
  refine tE_bind hE hs h fun v s1 W1 H1 u l1 he1 hs1 r1 h1 => ?_
  obtain ⟨e', q, hn⟩ := liftE_ok h1
  cases q
  exact hn W1 H1 _ l1 hs1 (he1.set i r1)
theorem ps_setDc {i : Nat} {y : Str} {py : Pos} {kx vx tg iter : Expr} {ifs : List Expr} {scope : Scope} {own : List (Str × Nat)} {spos : Pos} {wi : TI} {g : TG} {tt : TT} {tk tv : TE} (hc : X.calm = true) (hN : X.N.Nodup) (hy : X.N[i]? = some y) (hyl : X.env.scope.names.lookup y = some .local)
    (hsw : swapsWith (.DictComp kx vx [⟨tg, iter, ifs, 0⟩] scope pos) (some (.Name y py)) spos.line X.env = pure true) (hi : PI X tg iter wi) (ok : BlkOk X.N X.env.scope scope own)
    (hg : ∀ (s : Shared) (H : Hp) (C : Addr) (cl : List (Str × Addr)) (fp : List Addr), PG (X.blk s H scope (compEnvC scope cl C X.env) fp) tg g) (ht : ∀ (s : Shared) (H : Hp) (C : Addr) (cl : List (Str × Addr)) (fp : List Addr), PTs (X.blk s H scope (compEnvC scope cl C X.env) fp) ifs tt)
    (hk : ∀ (s : Shared) (H : Hp) (C : Addr) (cl : List (Str × Addr)) (fp : List Addr), PE (X.blk s H scope (compEnvC scope cl C X.env) fp) kx tk)
    (he : ∀ (s : Shared) (H : Hp) (C : Addr) (cl : List (Str × Addr)) (fp : List Addr), PE (X.blk s H scope (compEnvC scope cl C X.env) fp) vx tv) (hs : ∀ x, foldedSetIterable iter X.env x = pure x) :
    PS X (.Assign [.Name y py] (.DictComp kx vx [⟨tg, iter, ifs, 0⟩] scope pos) spos) (tAsg (tDc wi g tt tk tv (own.map (·.2))) (gName i)) := by
  refine ⟨fun pins s σ H D I h => ?_⟩
  rw [exec_Assign_Name_used _ _ _ _ hsw]
  refine wpAny_bind (wpAny_standAt (wpAny_bind ?_))
  show wpAny _ X.A (do let _ ← comprehension (.DictComp kx vx [⟨tg, iter, ifs, 0⟩] scope pos) scope X.env (firstIterPos [⟨tg, iter, ifs, 0⟩] pos) newDict false (eval iter X.env) (some (assign (.Name y py) X.env))) _ _ s
  have h : tDc wi g tt tk tv (own.map (·.2)) σ H (fun x H1 => gName i x σ H1 D.nx) := h
  refine wpAny_bind (thn (dc_core (Qf := fun _ s' => SP X pins D .next s') hc hN I hi ok hg ht hk he hs h fun L C s' m H' I' q hn f => ?_) fun _ s' hq => wpAny_pure (wpAny_pure hq))
  show wpAny _ _ (assign (.Name y py) X.env (.ref L)) _ _ _
  refine wpAny_assign_Name (store_ok2 (v := V.ref L) I' hN hy (.inl hyl) rfl (fun s2 I2 ⟨a, sb, ha⟩ => ?_) (.inr hyl))
  obtain ⟨f0, f1, f2, f3, f4, f5⟩ := f
  have apart : C ≠ a := by
    rcases ha with z | z
    · rw [z]; exact f1
    · exact fun e => f4 y a z e.symm
  exact ⟨m, hn.sameBut sb apart, fun h3 sb3 => ⟨_, H', I2.turned (t' := s2.toks) (fun b o hb e => (sb3.2 b hb).trans e) f0 f1 f3 f4 f5, q⟩⟩
theorem ss_setDc {i : Nat} {y : Str} {py : Pos} {kx vx tg iter : Expr} {ifs : List Expr} {scope : Scope} {own : List (Str × Nat)} {spos : Pos} {it : IM} {t : GM} {ts : TM} {mk mv : EM} {ix : List Nat} (mu : Bool) (hc : X.calm = true) (hN : X.N.Nodup) (hy : X.N[i]? = some y) (hyl : X.env.scope.names.lookup y = some .local)
    (hsw : swapsWith (.DictComp kx vx [⟨tg, iter, ifs, 0⟩] scope pos) (some (.Name y py)) spos.line X.env = pure true) (hi : PI X tg iter (tI (gx X) Ex it)) (ok : BlkOk X.N X.env.scope scope own)
    (hg : ∀ (s : Shared) (H : Hp) (C : Addr) (cl : List (Str × Addr)) (fp : List Addr), PG (X.blk s H scope (compEnvC scope cl C X.env) fp) tg (tG (gx X) ix t)) (ht : ∀ (s : Shared) (H : Hp) (C : Addr) (cl : List (Str × Addr)) (fp : List Addr), PTs (X.blk s H scope (compEnvC scope cl C X.env) fp) ifs (tT (gx X) noK ts))
    (hk : ∀ (s : Shared) (H : Hp) (C : Addr) (cl : List (Str × Addr)) (fp : List Addr), PE (X.blk s H scope (compEnvC scope cl C X.env) fp) kx (tE (gx X) noK mk))
    (he : ∀ (s : Shared) (H : Hp) (C : Addr) (cl : List (Str × Addr)) (fp : List Addr), PE (X.blk s H scope (compEnvC scope cl C X.env) fp) vx (tE (gx X) noK mv)) (hv : ∀ i ∈ ix, i ∈ own.map (·.2) := by decide) (hfs : ∀ x, foldedSetIterable iter X.env x = pure x := by intro _; rfl) :
    PS X (.Assign [.Name y py] (.DictComp kx vx [⟨tg, iter, ifs, 0⟩] scope pos) spos) (tS (gx X) Ex (sAsg (eDc mu it t ts mk mv (own.map (·.2))) (mName i))) := by
  refine ps_weak (ps_setDc hc hN hy hyl hsw hi ok hg ht hk he hfs) fun D σ H ⟨W, s, env, hE, hs, h⟩ => ?_
  refine tDc_of (mu := mu) (ts := ts) hv ?_
  refine tE_bind hE hs h fun v s1 W1 H1 u l1 he1 hs1 r1 h1 => ?_
  obtain ⟨e', q, hn⟩ := liftE_ok h1
  cases q
  exact hn W1 H1 _ l1 hs1 (he1.set i r1)
theorem sw_trueD {kx vx : Expr} {gs : List Comprehension} {scope : Scope} {py : Pos} {y : Str} {l : Nat} {env : Env} (hk : env.scope.kind = .function) (hy : env.scope.names.lookup y = some .local) (hl : (py.line == pos.line) = true)
    (ha : (scope.names.any fun (n, k) => n == y && (k == .local || k == .cell)) = false) : swapsWith (.DictComp kx vx gs scope pos) (some (.Name y py)) l env = pure true := by
  have e1 : env.kindOf y = some .local := hy
  have e2 : env.blockKind = .function := by unfold Env.blockKind; rw [hk]; rfl
  unfold swapsWith
  simp only [e2, e1, ha, Expr.pos, hl]
  rfl
def bLenD : OL := fun xs s =>
  match xs with
  | [.dic kvs] => some (.int kvs.length, s)
  | _ => none
theorem c_lenD : CallR X (.builtin "len") (rL (gx X) bLenD) := by
  intro pins s σ H xs us Q I rs ⟨W, st, pxs, r, s', r1, hs, e, hc⟩
  unfold bLenD at e
  split at e <;> cases e
  obtain ⟨v, rfl, q⟩ := r1.one
  cases q with
  | dic h q2 => exact call_lenD pins s σ H _ us Q I rs ⟨_, _, rfl, hs.fro _ _ h, by rw [← q2.len]; exact hc.here hs (.int _)⟩
end
end Z

set_option Elab.async false
set_option linter.all false
set_option maxRecDepth 100000
set_option maxHeartbeats 4000000
/-! ZY1: list(range(n)), i & 1. -/
namespace Z
open PySem PySem.Spec PyProof.Rows L2
variable [LamT]
def uListRg (mu : Bool) : O1 := fun x s =>
  match x with
  | .int n => if 0 ≤ n ∧ n ≤ 1000000 then newL mu (ups 0 n.toNat) s else none
  | _ => none
def oAnd1 : O2 := fun x y s =>
  match x, y with
  | .int i, .int j => if 0 ≤ i ∧ j = 1 then some (.int (i % 2), s) else none
  | _, _ => none
section
variable {X : Cx} {Ex : XK} {pos : Pos}
theorem r_and1 : OpR X (binaryOp .BitAnd) (rM (gx X) oAnd1) := by
  intro pins s σ H x y v u Q I rx ry ⟨W, st, px, py, r, s', r1, r2, hs, e, hc⟩
  unfold oAnd1 at e
  split at e
  case h_2 => cases e
  rename_i i j
  split at e
  case isFalse => cases e
  rename_i hij
  cases e; cases r1; cases r2
  obtain ⟨k, rfl⟩ : ∃ k : Nat, i = k := ⟨i.toNat, by omega⟩
  obtain ⟨_, rfl⟩ := hij
  refine op_odd pins s σ H _ _ v u Q I rx ry ⟨k, rfl, rfl, ?_⟩
  have e2 : ((k % 2 : Nat) : Int) = (k : Int) % 2 := by omega
  rw [e2]
  exact hc.here hs (.int _)
theorem rg_reps {K : PySem.W.Frag} {W : Wd} {n : Int} : Reps K W (ups 0 n.toNat) (rgV 0 n) := by
  have key : ∀ l : List Nat, Reps K W (l.map fun i : Nat => PV.int (0 + (i : Int))) (l.map fun i : Nat => V.int (0 + (i : Int))) := fun l => by
    induction l with
    | nil => exact .nil
    | cons a l ih => exact .cons (.int _) ih
  unfold ups rgV
  rw [show n - 0 = n by omega]
  exact key _
theorem se_listRg (mu : Bool) {a : Expr} {p p2 q : Pos} {m : EM} (hc : X.calm = true) (hg : Gl X "list") (hm : X.mg "list" = none) (hg2 : Gl X "range") (hm2 : X.mg "range" = none) (ha : PE X a (tE (gx X) Ex m))
    (na : starEach [a] X.env = (false, eval a X.env) :: starEach [] X.env := by rfl) (nb : starEach [.Call (.Name "range" p2) [a] [] q] X.env = (false, eval (.Call (.Name "range" p2) [a] [] q) X.env) :: starEach [] X.env := by rfl) :
    PE X (.Call (.Name "list" p) [.Call (.Name "range" p2) [a] [] q] [] pos) (tE (gx X) Ex (eUn (uListRg mu) m)) := by
  refine pe_weak (pe_listRg hc hg hm (prg_1 hg2 hm2 ha na) nb) fun σ H Q ⟨W, s, env, hE, hs, h⟩ => ?_
  refine tE_bind hE hs h fun x s1 W1 H1 u l1 he1 hs1 r1 h1 => ?_
  obtain ⟨v, s', e, hcn⟩ := h1.lift
  unfold uListRg at e
  split at e
  case h_2 => cases e
  rename_i n
  split at e
  case isFalse => cases e
  rename_i hn
  cases r1
  obtain ⟨_, q1⟩ := newL_ok hs1 rg_reps e (hcn.mono l1)
  exact ⟨n, rfl, RgOk.of_le (by omega) (by omega) (by omega) (by omega), q1⟩
end
end Z

set_option Elab.async false
set_option linter.all false
set_option maxRecDepth 100000
set_option maxHeartbeats 4000000
/-! ZY2: zip of a text and a tuple, of two lists. -/
namespace Z
open PySem PySem.Spec PyProof.Rows L2 RZ
variable [LamT]
/-- the text x and the tuple at b, which is ys -/
def ItzS (K : PySem.W.Frag) (x : Str) (b : Addr) (ys : List V) : It :=
  ⟨fun i H => SqT K H b ys ∧ i < x.cps.size ∧ i < ys.length,
    fun i H v H' => ∃ (T : Addr) (c : Nat) (y : V), v = .ref T ∧ H T = none ∧ H' = upd H T (.tup [.str ⟨#[c]⟩, y]) ∧ x.cps[i]? = some c ∧ ys[i]? = some y,
    fun i H => SqT K H b ys ∧ (x.cps.size ≤ i ∨ ys.length ≤ i)⟩
theorem turn_zipS {P : Program} {w : World} {K : PySem.W.Frag} {elts : List Expr} {kk : Nat} {tpos : Pos} {x : Str} {t : Tok} {ys : List V} {b z TI TO i1 i2 : Addr} (dis : ZipSep2 z TI TO i1 i2 [i1] [i2, b]) (hb2 : b ≠ i2) :
    Turn P w K (.Tuple elts kk tpos) (ItzS K x b ys) [z, TI, TO, i1, i2] z (fun i h => IsZip h z TI TO .none ∧ IsTupOf2 h TI (.ref i1) (.ref i2) ∧ (∃ u v, IsTupOf2 h TO u v) ∧ h.IsStrIter i1 (strIterType x) x t i ∧ h.IsTupleIter i2 b i ∧ i ≤ x.cps.size ∧ i ≤ ys.length) where
  mem := by simp
  obj := fun i h stt c hc => by
    obtain ⟨hz0, hti, ⟨u, v, hto⟩, ⟨o1, e1, _, d1⟩, ⟨o2, e2, _, d2⟩, _⟩ := stt
    have e5 : c = z ∨ c = TI ∨ c = TO ∨ c = i1 ∨ c = i2 := by simpa using hc
    rcases e5 with q | q | q | q | q
    · rw [q]; exact ⟨_, hz0, fun v q => nomatch q⟩
    · rw [q]; exact ⟨_, hti, fun v q => nomatch q⟩
    · rw [q]; exact ⟨_, hto, fun v q => nomatch q⟩
    · rw [q]; exact ⟨o1, e1, fun v q => by rw [d1] at q; cases q⟩
    · rw [q]; exact ⟨o2, e2, fun v q => by rw [d2] at q; cases q⟩
  keep := fun i h h' stt k => by
    obtain ⟨hz0, hti, ⟨u, v, hto⟩, ⟨o1, e1, r1⟩, h2, l1, l2⟩ := stt
    exact ⟨k z (by simp) _ hz0, k TI (by simp) _ hti, ⟨u, v, k TO (by simp) _ hto⟩, ⟨o1, k i1 (by simp) _ e1, r1⟩, h2.at fun o q => k i2 (by simp) o q, l1, l2⟩
  item := by
    intro X hPP hw hKK hc i pins s σ H E I hf stt hg
    subst hPP hw hKK
    obtain ⟨hz0, hti, ⟨u0, v0, hto⟩, h1, h2, _, _⟩ := stt
    obtain ⟨hqy, lx, ly⟩ := hg
    obtain ⟨its, rv, p, _⟩ := I.tuple hqy
    have hl := rv.length
    have hzs : z < s.heap.objs.size := Heap.lt_size hz0
    have hi1 : i1 < s.heap.objs.size := by obtain ⟨_, e1, _⟩ := h1; exact Heap.lt_size e1
    have hi2 : i2 < s.heap.objs.size := by obtain ⟨_, e2, _⟩ := h2; exact Heap.lt_size e2
    refine wpAny_pyNext_zipD2_item dis (Draws.text (A := X.A.in1) (I.ok.hd hc) i1 x t) (Draws.tuple (A := X.A.in1) (I.ok.hd hc) i2 b hb2 its.toArray) hz0 hti hto h1 ⟨h2, p⟩ lx (by simp; omega)
      fun u1 u2 h' tk y1 y2 z' TO' st1' st2' hT hsz hk => ?_
    obtain ⟨c, t', hcx, rfl⟩ := y1
    have hy2 : its[i]? = some u2 := by simpa using y2
    obtain ⟨y, ey, ry⟩ : ∃ y, ys[i]? = some y ∧ RelV y u2 := by
      obtain ⟨u, hu, ru⟩ := rv.get (List.getElem?_eq_getElem ly)
      rw [hy2] at hu
      cases hu
      exact ⟨_, List.getElem?_eq_getElem ly, ru⟩
    refine ⟨_, rfl, wpAny_letOwnedTupleGo_zip (s := { s with heap := h', toks := tk }) z' fun h'' z'' sbs => ?_⟩
    have hT2 : h''.get? s.heap.objs.size = some { cls := .type "tuple", data := .seq #[.str ⟨#[c]⟩ t', u2] } := (sbs.2 _ (Nat.ne_of_gt hzs)).trans hT
    have new : ObjOk X.prog X.w (upd H s.heap.objs.size (.tup [.str ⟨#[c]⟩, y])) h'' s.heap.objs.size (.tup [.str ⟨#[c]⟩, y]) :=
      ⟨by show 2 ≤ sizeLine; decide, [.str ⟨#[c]⟩ t', u2], .cons ⟨t', rfl⟩ (.cons ry .nil), ⟨_, hT2, rfl, _, rfl⟩⟩
    have I1 : Inv X pins σ (upd H s.heap.objs.size (.tup [.str ⟨#[c]⟩, y])) { s with heap := h'', toks := tk } :=
      I.turnedNew (t' := tk) (ch := [z, TI, TO, i1, i2]) (fun c o hb q => (sbs.2 c (fun qz => hb (by simp [qz]))).trans (hk c o (fun qz => hb (by simp [qz])) (fun qz => hb (by simp [qz])) (fun qz => hb (by simp [qz])) (fun qz => hb (by simp [qz])) q)) hf (Nat.le_refl _) new
    refine ⟨.ref s.heap.objs.size, _, I1, rfl, ⟨_, c, y, rfl, I.hok.fresh (Nat.le_refl _), rfl, hcx, ey⟩, ⟨z'', ?_, ⟨.str ⟨#[c]⟩ t', u2, ?_⟩, ?_, ?_, by omega, by omega⟩, fun c hcc => ?_⟩
    · exact (sbs.2 _ dis.TIz).trans (hk _ _ dis.TIz dis.TITO dis.TIi1 dis.TIi2 hti)
    · exact (sbs.2 _ dis.TOz).trans TO'
    · obtain ⟨o, e, r⟩ := st1'
      exact ⟨o, (sbs.2 _ dis.zi1.symm).trans e, r⟩
    · exact st2'.1.at fun o q => (sbs.2 _ dis.zi2.symm).trans q
    · have hcs : c < s.heap.objs.size := by
        have e5 : c = z ∨ c = TI ∨ c = TO ∨ c = i1 ∨ c = i2 := by simpa using hcc
        rcases e5 with q | q | q | q | q
        · rw [q]; exact hzs
        · rw [q]; exact Heap.lt_size hti
        · rw [q]; exact Heap.lt_size hto
        · rw [q]; exact hi1
        · rw [q]; exact hi2
      rw [upd_ne (Nat.ne_of_lt hcs)]
      exact (hf c hcc).1
  done := by
    intro X hPP hw hKK hc i pins s σ H E I hf stt hg
    subst hPP hw hKK
    obtain ⟨hz0, hti, ⟨u0, v0, hto⟩, h1, h2, l1, l2⟩ := stt
    obtain ⟨hqy, hend⟩ := hg
    obtain ⟨its, rv, p, _⟩ := I.tuple hqy
    have hl := rv.length
    exact wpAny_pyNext_zipD2_end dis (Draws.text (A := X.A.in1) (I.ok.hd hc) i1 x t) (Draws.tuple (A := X.A.in1) (I.ok.hd hc) i2 b hb2 its.toArray) hz0 hti hto h1 ⟨h2, p⟩ l1 (by simp; omega)
      (by rcases hend with q | q; · left; omega
          · right; simp; omega)
      fun h' tk hk => ⟨rfl, I.turnedL (t' := tk) (ch := [z, TI, TO, i1, i2]) (fun c o hb q =>
        hk c o (fun qz => hb (by simp [qz])) (fun qz => hb (by simp [qz])) (fun qz => hb (by simp [qz])) (fun qz => hb (by simp [qz])) q) hf⟩
  self := fun A i s Q E stt h => wpAny_pyIter_zip stt.1 h
theorem sep_of (I b : Nat) (h : b < I) : ZipSep2 (I + 4) (I + 2) (I + 3) I (I + 1) [I] [I + 1, b] := by
  have ne : ∀ a c : Nat, a ≠ c → (show Addr from a) ≠ (show Addr from c) := fun _ _ q => q
  have n1 : ∀ {a c : Addr}, a ≠ c → a ∉ [c] := fun q z => q (List.mem_singleton.mp z)
  have n2 : ∀ {a c d : Addr}, a ≠ c → a ≠ d → a ∉ [c, d] := fun q r z => by
    rcases List.mem_cons.mp z with z | z
    · exact q z
    · exact r (List.mem_singleton.mp z)
  exact ⟨ne _ _ (by omega), ne _ _ (by omega), ne _ _ (by omega), ne _ _ (by omega), List.mem_singleton.mpr rfl, n1 (ne _ _ (by omega)), n1 (ne _ _ (by omega)), ne _ _ (by omega), List.mem_cons_self .., n2 (ne _ _ (by omega)) (ne _ _ (by omega)), n2 (ne _ _ (by omega)) (ne _ _ (by omega)),
    n2 (ne _ _ (by omega)) (ne _ _ (by omega)), n1 (ne _ _ (by omega))⟩
section
variable {X : Cx} {Ex : XK}
def tZS (K : PySem.W.Frag) (ta : TA) : TI := fun σ H R => ta σ H fun vs H1 => ∃ x b ys, vs = [.str x, .ref b] ∧ SqT K H1 b ys ∧ R (ItzS K x b ys) H1
theorem pi_zipS {e e2 : Expr} {ta : TA} {p pos tpos : Pos} {elts : List Expr} {kk : Nat} (hg : Gl X "zip") (hm : X.mg "zip" = none) (ha : PA X [e, e2] ta)
    (hs : starEach [e, e2] X.env = (false, eval e X.env) :: starEach [e2] X.env := by rfl) (hpos : (backTo pos (starEach [e2] X.env)).any (·.1) = false := by rfl) :
    PI X (.Tuple elts kk tpos) (.Call (.Name "zip" p) [e, e2] [] pos) (tZS X.K ta) := by
  refine ⟨fun pins s σ H R I h => ?_⟩
  refine Call_ (ld_blt I hg hm PyProof.Rows.boot_zip (PyProof.Rows.callWith_type1 (thn (ha.run pos pins s σ H _ I h) fun us s1 ⟨vs, H1, I1, r1, x, b, ys, ex, hqy, q⟩ => ?_) hs hpos))
  subst ex
  cases r1 with
  | cons r rr =>
    cases rr with
    | cons r' rr =>
      cases rr
      obtain ⟨t, rfl⟩ := r
      cases r'
      have fiveNew : ∀ c, c ∈ [s1.heap.objs.size + 4, s1.heap.objs.size + 2, s1.heap.objs.size + 3, s1.heap.objs.size, s1.heap.objs.size + 1] → FpOk X pins H1 c := fun c hcc => by
        have hlow : s1.heap.objs.size ≤ c := by
          have e5 : c = s1.heap.objs.size + 4 ∨ c = s1.heap.objs.size + 2 ∨ c = s1.heap.objs.size + 3 ∨ c = s1.heap.objs.size ∨ c = s1.heap.objs.size + 1 := by simpa using hcc
          rcases e5 with z | z | z | z | z <;> rw [z]
          · exact Nat.le_add_right _ _
          · exact Nat.le_add_right _ _
          · exact Nat.le_add_right _ _
          · exact Nat.le_refl _
          · exact Nat.le_add_right _ _
        exact I1.fpOk hlow (I1.hok.fresh hlow)
      obtain ⟨its, rv, p1, _⟩ := I1.tuple hqy
      obtain ⟨ob, hob, _⟩ := id p1
      have hlb : b < s1.heap.objs.size := Heap.lt_size hob
      refine zip_begins2 (begins_text x t) (begins_tuple b its.toArray) trivial p1 fun h' hz0 hti hto h1 h2 hsz hk => wpAny_pyIter_zip hz0 ?_
      have Inext : Inv X pins σ H1 { s1 with heap := h' } := I1.kept (t' := s1.toks) hk
      exact ⟨s1.heap.objs.size + 4, [s1.heap.objs.size + 4, s1.heap.objs.size + 2, s1.heap.objs.size + 3, s1.heap.objs.size, s1.heap.objs.size + 1], _, _, H1, rfl, Inext, turn_zipS (t := t) (sep_of _ _ hlb) (Nat.ne_of_lt (Nat.lt_succ_of_lt hlb)), ⟨hz0, hti, ⟨_, _, hto⟩, ⟨_, h1, rfl, rfl⟩, ⟨_, h2, rfl, rfl⟩, Nat.zero_le _, Nat.zero_le _⟩, fiveNew, q⟩
end
section
variable {X : Cx} {Ex : XK} {g : G} {W : Wd} {tg : Expr}
theorem it_zipS {b : Addr} {x : Str} {ys : List PV} {vs : List V} (h2 : SqT g.K W.fro b vs) (r2 : Reps g.K W ys vs) : ItOf g W (ItzS g.K x b vs) (zipW (chs x) ys) [] := by
  intro i W' H' s' l hs' ck
  have hq2 : SqT g.K H' b vs := (l.fro.trans hs'.fro).sqT h2
  have r2 := r2.lo l
  have hl0 : (chs x).length = x.cps.size := by simp [chs]
  have hl : (zipW (chs x) ys).length = min x.cps.size ys.length := by simp [zipW, hl0]
  rw [hl]
  refine ⟨fun hi => ?_, fun hi => ⟨hq2, by rw [← r2.length]; omega⟩⟩
  have hi1 : i < (chs x).length := by omega
  have hi2 : i < ys.length := by omega
  obtain ⟨v2, e2, rv2⟩ := r2.get (List.getElem?_eq_getElem hi2)
  refine ⟨⟨hq2, by omega, by rw [← r2.length]; omega⟩, fun u H'' y => ?_⟩
  obtain ⟨T, c, y', rfl, hT, rfl, y1, y2⟩ := y
  rw [e2] at y2; cases y2
  have l2 : W'.Le ⟨upd W'.fro T (.tup [.str ⟨#[c]⟩, v2]), W'.ob, W'.hid, W'.lk⟩ := hs'.le_new hT
  refine ⟨_, l2, hs'.new hT, fun px e5 => ?_⟩
  have : px = .wt [.str ⟨#[c]⟩, ys[i]] := by
    simp only [zipW, List.getElem?_map] at e5
    rw [List.getElem?_eq_getElem (by simp; omega)] at e5
    have := (Option.some.inj e5).symm
    have ec : (chs x)[i] = .str ⟨#[c]⟩ := by
      have : (chs x)[i]? = some (.str ⟨#[c]⟩) := by
        simp only [chs, List.getElem?_map, Array.getElem?_toList]
        rw [y1]; rfl
      rw [List.getElem?_eq_getElem hi1] at this
      exact Option.some.inj this
    simpa [ec] using this
  rw [this]
  exact .wt (.inl (.inl upd_same)) (.cons (.str _) (.cons (rv2.mono l2) .nil))
theorem ck_app {c c' : Ck} {s : S} : ckOk (c ++ c') s ↔ ckOk c s ∧ ckOk c' s := by
  unfold ckOk
  constructor
  · exact fun h => ⟨fun p hp => h p (List.mem_append.mpr (.inl hp)), fun p hp => h p (List.mem_append.mpr (.inr hp))⟩
  · exact fun h p hp => (List.mem_append.mp hp).elim (h.1 p) (h.2 p)
theorem it_zipL {a b : Addr} {xs ys : List PV} {c c' : Ck} (h : ∀ W' H' s', W.Lo W' → StR g W' H' s' → ckOk c s' → ∃ vs, SqL g.K H' a vs ∧ Reps g.K W' xs vs)
    (h2 : ∀ W' H' s', W.Lo W' → StR g W' H' s' → ckOk c' s' → ∃ vs, SqL g.K H' b vs ∧ Reps g.K W' ys vs) : ItOf g W (Itz g.K a b) (zipW xs ys) (c ++ c') := by
  intro i W' H' s' l hs' ck
  obtain ⟨k1, k2⟩ := ck_app.mp ck
  obtain ⟨us, hq, r⟩ := h W' H' s' l hs' k1
  obtain ⟨vs, hq2, r2⟩ := h2 W' H' s' l hs' k2
  have hl : (zipW xs ys).length = min xs.length ys.length := by simp [zipW]
  rw [hl]
  refine ⟨fun hi => ?_, fun hi => ⟨us, vs, hq, hq2, by rw [← r.length, ← r2.length]; omega⟩⟩
  have hi1 : i < xs.length := by omega
  have hi2 : i < ys.length := by omega
  obtain ⟨v, e, rv⟩ := r.get (List.getElem?_eq_getElem hi1)
  obtain ⟨v2, e2, rv2⟩ := r2.get (List.getElem?_eq_getElem hi2)
  refine ⟨⟨us, vs, v, v2, hq, hq2, e, e2⟩, fun x H'' y => ?_⟩
  obtain ⟨T, x', y', rfl, hT, rfl, y1, y2⟩ := y
  have := y1 us hq
  rw [e] at this; cases this
  have := y2 vs hq2
  rw [e2] at this; cases this
  have l2 : W'.Le ⟨upd W'.fro T (.tup [v, v2]), W'.ob, W'.hid, W'.lk⟩ := hs'.le_new hT
  refine ⟨_, l2, hs'.new hT, fun px e5 => ?_⟩
  have : px = .wt [xs[i], ys[i]] := by
    simp only [zipW, List.getElem?_map] at e5
    rw [List.getElem?_eq_getElem (by simp; omega)] at e5
    have := (Option.some.inj e5).symm
    simpa using this
  rw [this]
  exact .wt (.inl (.inl upd_same)) (.cons (rv.mono l2) (.cons (rv2.mono l2) .nil))
/-- what zip goes over -/
def zpOf (s : S) (x y : PV) : Option (List PV × Ck) :=
  match x, y with
  | .tup xs, .tup ys => some (zipW xs ys, [])
  | .str z, .tup ys => some (zipW (chs z) ys, [])
  | x, y => match lsCk s x, lsCk s y with
    | some (xs, c), some (ys, c') => some (zipW xs ys, c ++ c')
    | _, _ => none
def iZG (m : AM) : IM := fun env s => (m env s).bind fun vs s1 =>
  match vs with
  | [x, y] => liftI (zpOf s1 x y) s1
  | _ => .fail
theorem si_zipG {e e2 : Expr} {m : AM} {p pos tpos : Pos} {elts : List Expr} {kk : Nat} (hg : Gl X "zip") (hm : X.mg "zip" = none) (ha : PA X [e, e2] (tA (gx X) Ex m))
    (hs : starEach [e, e2] X.env = (false, eval e X.env) :: starEach [e2] X.env := by rfl) (hpos : (backTo pos (starEach [e2] X.env)).any (·.1) = false := by rfl) :
    PI X (.Tuple elts kk tpos) (.Call (.Name "zip" p) [e, e2] [] pos) (tI (gx X) Ex (iZG m)) := by
  refine ⟨fun pins s σ H R I ⟨W, stt, env, hE, hs', h⟩ => ?_⟩
  have hq : ∀ (T : List V → Hp → Prop), (∀ x y s1 W1 H1 u u2 p, m env stt = .ok [x, y] s1 → W.Le W1 → StR (gx X) W1 H1 s1 → Rep X.K W1 x u → Rep X.K W1 y u2 → zpOf s1 x y = some p → (∀ J, ItOf (gx X) W1 J p.1 p.2 → R J H1) → T [u, u2] H1) → tA (gx X) Ex m σ H T := fun T hT => by
    refine ⟨W, stt, env, hE, hs', ?_⟩
    have h1 := h.bind
    cases hm : m env stt with
    | ok vs s1 =>
      rw [hm] at h1
      intro W1 H1 us l1 hs1 r1
      rcases vs with _ | ⟨x, _ | ⟨y, _ | ⟨z, vs⟩⟩⟩
      · exact h1.elim
      · exact h1.elim
      · have h1 : Post (liftI (zpOf s1 x y) s1) _ _ := h1
        cases r1 with
        | cons r rr =>
          cases rr with
          | cons r' rr =>
            cases rr
            cases hi : zpOf s1 x y with
            | none => rw [hi] at h1; exact h1.elim
            | some p => rw [hi] at h1; exact hT x y s1 W1 H1 _ _ p hm l1 hs1 r r' hi fun J q => h1 W1 H1 J l1 hs1 q
      · exact h1.elim
    | exc c x s1 => rw [hm] at h1; exact h1
    | fail => rw [hm] at h1; exact h1.elim
  have lists : ∀ {x y : PV} {s1 : S}, m env stt = .ok [x, y] s1 → (∀ p, zpOf s1 x y = some p → ∃ xs c ys c', lsCk s1 x = some (xs, c) ∧ lsCk s1 y = some (ys, c') ∧ p = (zipW xs ys, c ++ c')) → iZipA X.K (tA (gx X) Ex m) σ H R := fun {x y s1} e0 hl => hq _ fun x' y' s1' W1 H1 u u2 p e l1 hs1 r r' hi hJ => by
    rw [e0] at e; cases e
    obtain ⟨xs, c, ys, c', hx, hy, rfl⟩ := hl p hi
    obtain ⟨a, rfl, ⟨v1, hx1⟩, _, q1⟩ := scr_list hs1 r hx
    obtain ⟨b, rfl, ⟨v2, hy1⟩, _, q2⟩ := scr_list hs1 r' hy
    exact ⟨a, b, v1, v2, rfl, .inl ⟨hx1, hy1, hJ _ (it_zipL q1 q2)⟩⟩
  have main : iZipA X.K (tA (gx X) Ex m) σ H R ∨ tZS X.K (tA (gx X) Ex m) σ H R := by
    have h1 := h.bind
    cases hm : m env stt with
    | ok vs s1 =>
      rcases vs with _ | ⟨x, _ | ⟨y, _ | ⟨z, vs⟩⟩⟩
      · exact .inl (hq _ fun x' y' s1' W1 H1 u u2 p e => by rw [hm] at e; cases e)
      · exact .inl (hq _ fun x' y' s1' W1 H1 u u2 p e => by rw [hm] at e; cases e)
      · by_cases ht : ∃ ys, y = .tup ys
        · obtain ⟨ys, rfl⟩ := ht
          cases x with
          | tup xs => exact .inl (hq _ fun x' y' s1' W1 H1 u u2 p e l1 hs1 r r' hi hJ => by
              rw [hm] at e; cases e; cases hi
              cases r with
              | tup h2 r2 =>
                cases r' with
                | tup h3 r3 => exact ⟨_, _, _, _, rfl, .inr ⟨tup_sq hs1 h2, tup_sq hs1 h3, hJ _ (it_zipT h2.t h3.t r2 r3)⟩⟩)
          | str z => exact .inr (hq _ fun x' y' s1' W1 H1 u u2 p e l1 hs1 r r' hi hJ => by
              rw [hm] at e; cases e; cases hi; cases r
              cases r' with
              | tup h3 r3 => exact ⟨z, _, _, rfl, tup_sq hs1 h3, hJ _ (it_zipS h3.t r3)⟩)
          | _ => exact .inl (hq _ fun x' y' s1' W1 H1 u u2 p e l1 hs1 r r' hi hJ => by
              rw [hm] at e; cases e
              unfold zpOf at hi
              simp [lsCk] at hi)
        · refine .inl (lists hm fun p hp => ?_)
          have hp : (match lsCk s1 x, lsCk s1 y with | some (xs, c), some (ys, c') => some (zipW xs ys, c ++ c') | _, _ => none) = some p := by
            cases y with
            | tup ys => exact absurd ⟨ys, rfl⟩ ht
            | _ => cases x <;> exact hp
          cases hx : lsCk s1 x with
          | none => rw [hx] at hp; cases hp
          | some p1 =>
            cases hy : lsCk s1 y with
            | none => rw [hx, hy] at hp; cases hp
            | some p2 =>
              rw [hx, hy] at hp
              cases hp
              exact ⟨p1.1, p1.2, p2.1, p2.2, rfl, rfl, rfl⟩
      · exact .inl (hq _ fun x' y' s1' W1 H1 u u2 p e => by rw [hm] at e; cases e)
    | exc c x s1 => exact .inl (hq _ fun x' y' s1' W1 H1 u u2 p e => by rw [hm] at e; cases e)
    | fail => exact .inl (hq _ fun x' y' s1' W1 H1 u u2 p e => by rw [hm] at e; cases e)
  rcases main with q | q
  · exact (pi_zipA hg hm ha hs hpos).run pins s σ H R I q
  · exact (pi_zipS hg hm ha hs hpos).run pins s σ H R I q
end
end Z

set_option Elab.async false
set_option linter.all false
set_option maxRecDepth 100000
set_option maxHeartbeats 4000000
/-! ZY3: min of three ints. -/
namespace Z
open PySem PySem.Spec PyProof.Rows L2
variable [LamT]
def bMin3 : OL := fun xs s =>
  match xs with
  | [.int i, .int j, .int k] => some (.int (min (min i j) k), s)
  | _ => none
section
variable {X : Cx}
theorem c_min3 (hcm : X.calm = true) : CallR X (.builtin "min") (rL (gx X) bMin3) := by
  intro pins s σ H xs us Q I rs ⟨W, st, pxs, r, s', r1, hs, e, hc⟩
  unfold bMin3 at e
  split at e
  case h_2 => cases e
  rename_i i j k
  cases e
  cases r1 with
  | cons q1 rr =>
    cases rr with
    | cons q2 rr =>
      cases rr with
      | cons q3 rr =>
        cases rr; cases q1; cases q2; cases q3
        refine call_min3Nu hcm pins s σ H _ us Q I rs ⟨_, _, _, .int (min (min i j) k), rfl, ?_, hc.here hs (.int _)⟩
        show (((some (decide (j < i))).map fun c => if c = true then V.int j else V.int i).bind fun m => _) = _
        by_cases h1 : j < i
        · rw [show decide (j < i) = true from decide_eq_true h1]
          show ((some (decide (k < j))).map fun c => if c = true then V.int k else V.int j) = _
          by_cases h2 : k < j
          · rw [show decide (k < j) = true from decide_eq_true h2]
            show some (V.int k) = _
            rw [show min (min i j) k = k by omega]
          · rw [show decide (k < j) = false from decide_eq_false h2]
            show some (V.int j) = _
            rw [show min (min i j) k = j by omega]
        · rw [show decide (j < i) = false from decide_eq_false h1]
          show ((some (decide (k < i))).map fun c => if c = true then V.int k else V.int i) = _
          by_cases h2 : k < i
          · rw [show decide (k < i) = true from decide_eq_true h2]
            show some (V.int k) = _
            rw [show min (min i j) k = k by omega]
          · rw [show decide (k < i) = false from decide_eq_false h2]
            show some (V.int i) = _
            rw [show min (min i j) k = i by omega]
end
end Z

set_option Elab.async false
set_option linter.all false
set_option maxRecDepth 100000
set_option maxHeartbeats 4000000
/-! ZY4: a tuple times 0, times 1. -/
namespace Z
open PySem PySem.Spec PyProof.Rows L2
variable [LamT]
theorem tup_times1 (l : Addr) (items : Array Value) (n : Nat) (dict0 : Option Addr) (slo : Array (Option Value)) (u : Tok) :
    Meets (Builtin.«tuple.__mul__» ⟨[.ref l, .int 1 u], []⟩) (fun _ R s => s.heap.get? l = some { cls := .type "tuple", dict := dict0, data := .seq items n, slots := slo } ∧ R (.ok (.ret (.ref l))) s) :=
  .of_wp fun prog w A R s hgo => by
    obtain ⟨h0, g, d, tk, os⟩ := s
    obtain ⟨hcell, hgo⟩ := hgo
    have f1 := AutoSeq1.idx_int
    have cz : (decide ((1 : Int) < -(2 ^ 63)) || decide ((1 : Int) ≥ 2 ^ 63)) = false := by decide
    have cone : (items.isEmpty || (1 : Int) == 1) = true := by simp
    wp_walk using wpAny_loadPart' hcell
    repeat (first
      | (refine wpAny_ite_false (decide_eq_false (by rw [cz]; exact Bool.false_ne_true)) ?_; wp_walk using wpAny_loadPart' hcell)
      | (refine wpAny_ite_true (decide_eq_true (by rw [cone])) ?_; wp_walk using wpAny_loadPart' hcell))
    exact ⟨_, rfl, hgo⟩
theorem tup_times0 (l : Addr) (items : Array Value) (n : Nat) (dict0 : Option Addr) (slo : Array (Option Value)) (kx : Int) (u : Tok) (hx : kx ≤ 0) (hlo : -1000 ≤ kx) (hi : items.isEmpty = false) :
    Meets (Builtin.«tuple.__mul__» ⟨[.ref l, .int kx u], []⟩) (fun _ R s => s.heap.get? l = some { cls := .type "tuple", dict := dict0, data := .seq items n, slots := slo } ∧
      R (.ok (.ret (Value.ref s.heap.objs.size))) { s with heap := s.heap.push { cls := Value.type "tuple", data := Data.seq #[] }, toks := s.toks }) :=
  .of_wp fun prog w A R s hgo => by
    obtain ⟨h0, g, d, tk, os⟩ := s
    obtain ⟨hcell, hgo⟩ := hgo
    have f1 := AutoSeq1.idx_int
    have cz : (decide (kx < -(2 ^ 63)) || decide (kx ≥ 2 ^ 63)) = false := by
      rw [decide_eq_false (by omega), decide_eq_false (by omega)] <;> rfl
    have cone : (items.isEmpty || kx == 1) = false := by
      rw [hi, Bool.false_or]
      exact beq_eq_false_iff_ne.mpr (by omega)
    have c2 : (decide (kx ≤ 0) || items.isEmpty) = true := by
      rw [decide_eq_true hx] <;> rfl
    wp_walk using wpAny_loadPart' hcell
    repeat (first
      | (refine wpAny_ite_false (decide_eq_false (by rw [cz]; exact Bool.false_ne_true)) ?_; wp_walk using wpAny_loadPart' hcell)
      | (refine wpAny_ite_false (decide_eq_false (by rw [cone]; exact Bool.false_ne_true)) ?_; wp_walk using wpAny_loadPart' hcell)
      | (refine wpAny_ite_true (decide_eq_true (by rw [c2])) ?_; wp_walk using wpAny_loadPart' hcell))
    exact ⟨_, rfl, hgo⟩
def oRepG : O2 := fun kx y s =>
  match kx, y with
  | .tup xs, .int k => if xs.isEmpty = false ∧ xs.length ≤ 1000 ∧ -1000 ≤ k ∧ k ≤ 1000 then newT (List.replicate k.toNat xs).flatten s else none
  | _, _ => none
section
variable {X : Cx}
theorem op_rep1 : OpR X (binaryOp .Mult) (fun kx y H Q => ∃ l xs, kx = .ref l ∧ y = .int 1 ∧ SqT X.K H l xs ∧ Q (.ref l) H) := by
  intro pins s σ H kx y v u Q I rx ry ⟨l, xs, ex, ey, sq, hn⟩
  subst ex; subst ey
  cases rx
  obtain ⟨tk, ek⟩ := ry
  subst ek
  obtain ⟨ws, rv, ⟨⟨c, dict0, dt, slo⟩, hcell, hc, n, hd⟩, _⟩ := I.tuple sq
  dsimp only at hc hd
  subst hc; subst hd
  refine wpAny_binaryOp_repeat_ref (T := "tuple") (U := "int") (by decide) ⟨_, hcell, rfl⟩ (fun s' => typeIs_int s' 1 tk) noFill_tuple_mul F.fills_int_mul F.slot_int_rmul repeat_tuple F.slot_int_index.lookup ?_
  refine call_meets F.slot_int_rmul (typeIs_int s 1 tk) F.entry_int_rmul (F.args_int_rmul_2 _ _) (int_rmul_tuple 1 tk l ws.toArray n dict0 slo) ⟨hcell, rfl, ⟨_, hcell, rfl⟩, ?_⟩
  refine call_meets F.slot_tuple_mul ⟨_, hcell, rfl⟩ F.entry_tuple_mul (F.args_tuple_mul_2 _ _) (tup_times1 l ws.toArray n dict0 slo tk) ⟨hcell, ?_⟩
  exact ⟨.ref l, H, I, rfl, hn⟩
theorem op_rep0 : OpR X (binaryOp .Mult) (fun kx y H Q => ∃ l k xs, kx = .ref l ∧ y = .int k ∧ SqT X.K H l xs ∧ xs ≠ [] ∧ k ≤ 0 ∧ -1000 ≤ k ∧ NewT H [] Q) := by
  intro pins s σ H kx y v u Q I rx ry ⟨l, k, xs, ex, ey, sq, ne, k1, k2, hn⟩
  subst ex; subst ey
  cases rx
  obtain ⟨tk, ek⟩ := ry
  subst ek
  obtain ⟨ws, rv, ⟨⟨c, dict0, dt, slo⟩, hcell, hc, n, hd⟩, _⟩ := I.tuple sq
  dsimp only at hc hd
  subst hc; subst hd
  have ne' : ws.toArray.isEmpty = false := by
    cases ws with
    | nil => exact absurd (List.eq_nil_of_length_eq_zero (by rw [rv.length]; rfl)) ne
    | cons _ _ => rfl
  refine wpAny_binaryOp_repeat_ref (T := "tuple") (U := "int") (by decide) ⟨_, hcell, rfl⟩ (fun s' => typeIs_int s' k tk) noFill_tuple_mul F.fills_int_mul F.slot_int_rmul repeat_tuple F.slot_int_index.lookup ?_
  refine call_meets F.slot_int_rmul (typeIs_int s k tk) F.entry_int_rmul (F.args_int_rmul_2 _ _) (int_rmul_tuple k tk l ws.toArray n dict0 slo) ⟨hcell, rfl, ⟨_, hcell, rfl⟩, ?_⟩
  refine call_meets F.slot_tuple_mul ⟨_, hcell, rfl⟩ F.entry_tuple_mul (F.args_tuple_mul_2 _ _) (tup_times0 l ws.toArray n dict0 slo k tk k1 k2 ne') ⟨hcell, ?_⟩
  exact lay_tup (us := []) I (by show 0 ≤ _; exact Nat.zero_le _) .nil hn _
theorem r_repG : OpR X (binaryOp .Mult) (rM (gx X) oRepG) := by
  intro pins s σ H kx y v u Q I rx ry ⟨W, st, px, py, r, s', r1, r2, hs, e, hc⟩
  unfold oRepG at e
  split at e <;> try (cases e; done)
  split at e <;> try (cases e; done)
  rename_i xs k hgo
  obtain ⟨h1, h2, h3, h4⟩ := hgo
  cases r1 with
  | tup q rr =>
  cases r2
  have ne : ∀ {vs : List V}, Reps X.K W xs vs → vs ≠ [] := fun {vs} rr z => by
    subst z
    cases rr
    cases h1
  by_cases k1 : k = 1
  · subst k1
    have e2 : (List.replicate (1 : Int).toNat xs).flatten = xs := by simp
    rw [e2] at e
    unfold newT at e
    split at e
    case isFalse => cases e
    cases e
    exact op_rep1 pins s σ H _ _ v u Q I rx ry ⟨_, _, rfl, rfl, tup_sq hs q, hc.here hs (.tup q rr)⟩
  · by_cases k0 : k ≤ 0
    · have e2 : (List.replicate k.toNat xs).flatten = [] := by rw [show k.toNat = 0 by omega]; rfl
      rw [e2] at e
      exact op_rep0 pins s σ H _ _ v u Q I rx ry ⟨_, _, _, rfl, rfl, tup_sq hs q, ne rr, k0, h3, (newT_ok hs .nil e hc).2⟩
    · exact op_repN pins s σ H _ _ v u Q I rx ry ⟨_, _, _, rfl, rfl, tup_sq hs q, ne rr, by omega, h4, by rw [← rr.length]; exact h2, (newT_ok hs (rr.flat k.toNat) e hc).2⟩
end
end Z

set_option Elab.async false
set_option linter.all false
set_option maxRecDepth 100000
set_option maxHeartbeats 4000000
/-! ZY5: d.get(k). -/
namespace Z
open PySem PySem.Spec L2
variable [LamT]
def oDGetN : O2 := fun x y s =>
  match dcOf s x, kP y with
  | some kvs, some k => some ((valP kvs k).getD .non, s)
  | _, _ => none
def eDG1 (ma mb : EM) : EM := fun env s => (ma env s).bind fun x s1 => match dcOf s1 x with
  | none => .fail
  | some _ => (mb env s1).bind fun y s2 => lift (oDGetN x y s2)
section
variable {X : Cx} {a b : Expr} {apos cpos : Pos} {Ex : XK} {ma mb : EM}
theorem se_dget1 (hu : X.A.units + 1 < cLine) (ha : PE X a (tE (gx X) Ex ma)) (hb : PE X b (tE (gx X) Ex mb))
    (h1 : attributeBase a ("get" : Str) X.env (eval a X.env) = eval a X.env := by rfl)
    (h2 : ((backTo cpos (starEach [b] X.env)).all (fun x => !x.1) && (backToKw cpos (keywordEach [] X.env)).all (fun x => x.1.isSome)
      && decide (([b] : List Expr).length + ([] : List Keyword).length + (if ([] : List Keyword).isEmpty then 0 else 1) < 30)) = true := by rfl)
    (h3 : (apos.endLine == cpos.line) = true := by rfl) (h4 : backTo cpos (starEach [b] X.env) = [(false, eval b X.env)] := by rfl) : PE X (.Call (.Attribute a "get" apos) [b] [] cpos) (tE (gx X) Ex (eDG1 ma mb)) := by
  refine pe_weak (pe_dget1 hu ha hb ⟨h1, h2, h3, h4⟩) fun σ H Q ⟨W, s, env, he, hs, h⟩ => ?_
  unfold tDGet1
  refine tE_bind he hs h fun x s1 W1 H1 u l1 he1 hs1 r1 h1 => ?_
  cases e0 : dcOf s1 x with
  | none =>
    rw [e0] at h1
    exact h1.elim
  | some kvs0 =>
    rw [e0] at h1
    obtain ⟨a, ws, rfl, h3, h4⟩ := dcOf_ok hs1 r1 e0
    refine ⟨a, rfl, .inl ⟨ws, h3⟩, ?_⟩
    refine tE_bind he1 hs1 h1 fun y s2 W2 H2 u2 l2 he2 hs2 r2 h2 => ?_
    obtain ⟨v, s', e, hc⟩ := h2.lift
    unfold oDGetN at e
    split at e
    · rename_i kvs k e1 e2
      cases e
      obtain ⟨a', ws', ea, h5, h6⟩ := dcOf_ok hs2 (r1.mono l2) e1
      cases ea
      refine ⟨valV ws' k, by rw [kP_ok r2 e2]; exact DGet.kR h5, ?_⟩
      cases e3 : valP kvs k with
      | none =>
        rw [(h6.val k).2 e3]
        rw [e3] at hc
        exact (hc.mono (l1.trans l2)).here hs2 .non
      | some v =>
        obtain ⟨w, h7, h8⟩ := (h6.val k).1 v e3
        rw [h7]
        rw [e3] at hc
        exact (hc.mono (l1.trans l2)).here hs2 h8
    · cases e
end
end Z

set_option Elab.async false
set_option linter.all false
set_option maxRecDepth 100000
set_option maxHeartbeats 4000000
/-! ZY6: x in xs, where items are data of any depth. -/
namespace Z
open PySem PySem.Spec L2
variable [LamT]
mutual
def d0 : PV → Option PyData
  | .non => some .none
  | .bl b => some (.bool b)
  | .int i => some (.int i)
  | .str x => some (.str x)
  | .tup xs => (d0s xs).map .tuple
  | .wt xs => (d0s xs).map .tuple
  | .lst xs => (d0s xs).map .list
  | .scr xs => (d0s xs).map .list
  | _ => none
def d0s : List PV → Option (List PyData)
  | [] => some []
  | x :: xs =>
    match d0 x, d0s xs with
    | some d, some ds => some (d :: ds)
    | _, _ => none
end
section
variable {K : PySem.W.Frag} {W : Wd} {H : Hp}
mutual
theorem Dp_of (hs : Sub W.fro H) : ∀ {x : PV} {v : V} {d : PyData}, Rep K W x v → d0 x = some d → Dp K H v d
  | _, _, _, .non, e => by rw [d0] at e; cases e; exact .non
  | _, _, _, .bl b, e => by rw [d0] at e; cases e; exact .bl b
  | _, _, _, .int i, e => by rw [d0] at e; cases e; exact .int i
  | _, _, _, .str x, e => by rw [d0] at e; cases e; exact .str x
  | .tup xs, _, _, .tup h r, e => by
    rw [d0] at e
    cases he : d0s xs with
    | none => rw [he] at e; cases e
    | some ds => rw [he] at e; cases e; exact .tup (hs.sqT h.t) (DpAll_of hs r he)
  | .wt xs, _, _, .wt h r, e => by
    rw [d0] at e
    cases he : d0s xs with
    | none => rw [he] at e; cases e
    | some ds => rw [he] at e; cases e; exact .tup (hs.sqT h) (DpAll_of hs r he)
  | .lst xs, _, _, .lst h r, e => by
    rw [d0] at e
    cases he : d0s xs with
    | none => rw [he] at e; cases e
    | some ds => rw [he] at e; cases e; exact .lst (.inl (.inl (hs _ _ h))) (DpAll_of hs r he)
  | .scr xs, _, _, .scr h r, e => by
    rw [d0] at e
    cases he : d0s xs with
    | none => rw [he] at e; cases e
    | some ds => rw [he] at e; cases e; exact .lst (hs.sqL h) (DpAll_of hs r he)
  | _, _, _, .dic h r, e => by rw [d0] at e <;> first | cases e | simp
  | _, _, _, .obj h, e => by rw [d0] at e <;> first | cases e | simp
theorem DpAll_of (hs : Sub W.fro H) : ∀ {xs : List PV} {vs : List V} {ds : List PyData}, Reps K W xs vs → d0s xs = some ds → DpAll K H vs ds
  | _, _, _, .nil, e => by rw [d0s] at e; cases e; exact .nil
  | x :: xs, _, _, .cons r t, e => by
    rw [d0s] at e
    split at e
    · rename_i d ds e1 e2
      cases e
      exact .cons (Dp_of hs r e1) (DpAll_of hs t e2)
    · cases e
end
end
def dT (s : S) (x : PV) : Option PyData :=
  match x with
  | .obj n =>
    match s[n]? with
    | some (.lst xs) => (d0s xs).map .list
    | _ => none
  | x => d0 x
theorem dT_ok {g : G} {W : Wd} {H : Hp} {s : S} {x : PV} {v : V} {d : PyData} (hs : StR g W H s) (r : Rep g.K W x v) (e : dT s x = some d) : Dp g.K H v d := by
  unfold dT at e
  split at e
  · rename_i n
    split at e
    · rename_i xs hx
      cases r with
      | obj h =>
        have o := hs.obj h hx
        cases o with
        | lst h1 r1 =>
          cases he : d0s xs with
          | none => rw [he] at e; cases e
          | some ds => rw [he] at e; cases e; exact .lst (.inl (.inl h1)) (DpAll_of hs.fro r1 he)
    · cases e
  · exact Dp_of hs.fro r e
def inDB (x y : PV) (s : S) : Option Bool :=
  match dT s x, dT s y with
  | some d, some (.list ds) => if d.canLay0 && PyData.canLayAll0 ds && decide (d.depth ≤ 60) then some (ds.any fun z => PyData.eqv z d) else none
  | some d, some (.tuple ds) => if d.canLay0 && PyData.canLayAll0 ds && decide (d.depth ≤ 60) then some (ds.any fun z => PyData.eqv z d) else none
  | _, _ => none
def oInD : O2 := fun x y s =>
  match inDB x y s with
  | some b => some (.bl b, s)
  | none => none
def oNotInD : O2 := fun x y s =>
  match inDB x y s with
  | some b => some (.bl (!b), s)
  | none => none
section
variable {X : Cx} {pins : List (Addr × Obj)} {σ : L2.St} {H : Hp} {sh : Shared} {W : Wd} {s : S} {px py : PV} {x y : V} {v u : Value} {b : Bool}
theorem inDB_ok (hu : X.A.units + 64 < cLine) (I : Inv X pins σ H sh) (hs : StR (gx X) W H s) (r1 : Rep X.K W px x) (r2 : Rep X.K W py y) (rx : RelV x v) (ry : RelV y u) (e : inDB px py s = some b) :
    (∀ {E Q : Value → Shared → Prop}, Q (.bool b) sh → wpAny (model X.prog X.w) X.A (compareOp .In v u) Q E sh) ∧ ∀ {E Q : Value → Shared → Prop}, Q (.bool (!b)) sh → wpAny (model X.prog X.w) X.A (compareOp .NotIn v u) Q E sh := by
  unfold inDB at e
  have room : ∀ {d : PyData} (ds : List PyData), d.depth ≤ 60 → X.A.units + 1 + min (PyData.depthAll ds) d.depth < cLine := fun {d} ds h => by
    have : min (PyData.depthAll ds) d.depth ≤ d.depth := Nat.min_le_right _ _
    omega
  split at e
  · rename_i d ds e1 e2
    split at e <;> try (cases e; done)
    rename_i h
    cases e
    rw [Bool.and_eq_true, Bool.and_eq_true, decide_eq_true_eq] at h
    obtain ⟨as, q1⟩ := Dp.reads I d x v (dT_ok hs r1 e1) rx
    obtain ⟨bs, q2⟩ := Dp.reads I (.list ds) y u (dT_ok hs r2 e2) ry
    exact ⟨fun q => SeqAt.in_list_reads q2 q1 h.1.2 h.1.1 (room ds h.2) q, fun q => SeqAt.notIn_list_reads q2 q1 h.1.2 h.1.1 (room ds h.2) q⟩
  · rename_i d ds e1 e2
    split at e <;> try (cases e; done)
    rename_i h
    cases e
    rw [Bool.and_eq_true, Bool.and_eq_true, decide_eq_true_eq] at h
    obtain ⟨as, q1⟩ := Dp.reads I d x v (dT_ok hs r1 e1) rx
    obtain ⟨bs, q2⟩ := Dp.reads I (.tuple ds) y u (dT_ok hs r2 e2) ry
    exact ⟨fun q => SeqAt.in_tuple_reads q2 q1 h.1.2 h.1.1 (room ds h.2) q, fun q => SeqAt.notIn_tuple_reads q2 q1 h.1.2 h.1.1 (room ds h.2) q⟩
  · cases e
theorem r_inD (hu : X.A.units + 64 < cLine) : OpR X (compareOp .In) (rM (gx X) oInD) := by
  intro pins s σ H x y v u Q I rx ry ⟨W, st, px, py, r, s', r1, r2, hs, e, hc⟩
  unfold oInD at e
  split at e <;> try (cases e; done)
  rename_i b eb
  cases e
  exact (inDB_ok hu I hs r1 r2 rx ry eb).1 ⟨.bl b, H, I, rfl, hc.here hs (.bl b)⟩
theorem r_notinD (hu : X.A.units + 64 < cLine) : OpR X (compareOp .NotIn) (rM (gx X) oNotInD) := by
  intro pins s σ H x y v u Q I rx ry ⟨W, st, px, py, r, s', r1, r2, hs, e, hc⟩
  unfold oNotInD at e
  split at e <;> try (cases e; done)
  rename_i b eb
  cases e
  exact (inDB_ok hu I hs r1 r2 rx ry eb).2 ⟨.bl (!b), H, I, rfl, hc.here hs (.bl (!b))⟩
end
end Z

set_option Elab.async false
set_option linter.all false
set_option maxRecDepth 100000
set_option maxHeartbeats 4000000
/-! ZK1: list(d): a dict's keys; dict(d): a copy. -/
namespace Z
open PySem PySem.Spec PyProof.Rows L2
variable [LamT]
def bListD (mu : Bool) : OL := fun xs s =>
  match xs with
  | [x] => match dcOf s x with
    | some kvs => newL mu (kvs.map fun kv => keyPV kv.1) s
    | none => none
  | _ => none
def newD (mu : Bool) (kvs : List (Key × PV)) (s : S) : Option (PV × S) :=
  if mu then some (.obj s.length, s ++ [.dic kvs]) else some (.dic kvs, s)
def bDictD (mu : Bool) : OL := fun xs s =>
  match xs with
  | [x] => match dcOf s x with
    | some kvs => newD mu kvs s
    | none => none
  | _ => none
theorem keys_rep {K : PySem.W.Frag} {W : Wd} : ∀ {kvs : List (Key × PV)} {ws : List (Key × V)}, KReps K W kvs ws → Reps K W (kvs.map fun kv => keyPV kv.1) (ws.map fun kv => kV kv.1)
  | [], _, r => by cases r; exact .nil
  | (k, x) :: xs, _, r => by
    cases r with
    | cons h t => exact .cons (keyPV_rep _) (keys_rep t)
theorem newD_ok {g : G} {W : Wd} {H : Hp} {s s' : S} {kvs : List (Key × PV)} {ws : List (Key × V)} {v : PV} {Q : VK} {mu : Bool} (hs : StR g W H s) (r : KReps g.K W kvs ws) (e : newD mu kvs s = some (v, s')) (hc : Cont g W Q v s') :
    ∀ p, H p = none → Q (.ref p) (upd H p (.dK ws)) := by
  intro p hp
  unfold newD at e
  cases mu with
  | true =>
    cases e
    have l : W.Le ⟨W.fro, W.ob ++ [p], W.hid, W.lk⟩ := le_ob p
    exact hc _ _ _ l (hs.alloc hp (.dic upd_same (r.mono l))) (.obj (by rw [← hs.len]; simp))
  | false =>
    cases e
    have l := hs.le_new (o := .dK ws) hp
    exact hc _ _ _ l (hs.new hp) (.dic upd_same (r.mono l))
section
variable {X : Cx}
theorem c_listD (mu : Bool) (hc : X.calm = true) : CallR X (.type "list") (rL (gx X) (bListD mu)) := by
  intro pins s σ H xs us Q I r h
  obtain ⟨W, st, pxs, v, s', rp, hs, e, hcont⟩ := h
  unfold bListD at e
  split at e <;> try (cases e; done)
  rename_i x
  split at e <;> try (cases e; done)
  rename_i kvs e1
  cases rp with
  | cons r1 r2 =>
    cases r2
    obtain ⟨a, ws, rfl, h3, h4⟩ := dcOf_ok hs r1 e1
    refine call_listD hc pins s σ H _ us Q I r ⟨a, ws, rfl, h3, ?_⟩
    exact (newL_ok hs (keys_rep h4) e hcont).2
theorem c_dictD (mu : Bool) : CallR X (.type "dict") (rL (gx X) (bDictD mu)) := by
  intro pins s σ H xs us Q I r h
  obtain ⟨W, st, pxs, v, s', rp, hs, e, hcont⟩ := h
  unfold bDictD at e
  split at e <;> try (cases e; done)
  rename_i x
  split at e <;> try (cases e; done)
  rename_i kvs e1
  cases rp with
  | cons r1 r2 =>
    cases r2
    obtain ⟨a, ws, rfl, h3, h4⟩ := dcOf_ok hs r1 e1
    refine call_dictD pins s σ H _ us Q I r ⟨a, ws, rfl, h3, ?_⟩
    exact newD_ok hs h4 e hcont
end
end Z

set_option Elab.async false
set_option linter.all false
set_option maxRecDepth 100000
set_option maxHeartbeats 4000000
/-! ZE1: own exception classes over Exception, whose __init__ keeps its one argument. -/
namespace Z
open PySem PySem.Spec PyProof.Rows L2
variable [LamT]
abbrev exT : List Value := [.type "Exception", .type "BaseException", .type "object"]
/-- own classes, then Exception's line -/
def refsX : List Value → Bool
  | .ref _ :: r => refsX r
  | l => l == exT
theorem refsX_or : ∀ l : List Value, refsX l = true → (∃ c r, l = .ref c :: r ∧ refsX r = true) ∨ l = exT
  | .ref c :: r, e => .inl ⟨c, r, rfl, e⟩
  | [], e => .inr (beq_iff_eq.mp e)
  | .none :: _, e => .inr (beq_iff_eq.mp e)
  | .ellipsis :: _, e => .inr (beq_iff_eq.mp e)
  | .notImplemented :: _, e => .inr (beq_iff_eq.mp e)
  | .bool _ :: _, e => .inr (beq_iff_eq.mp e)
  | .int _ _ :: _, e => .inr (beq_iff_eq.mp e)
  | .float _ _ :: _, e => .inr (beq_iff_eq.mp e)
  | .str _ _ :: _, e => .inr (beq_iff_eq.mp e)
  | .bytes _ _ :: _, e => .inr (beq_iff_eq.mp e)
  | .type _ :: _, e => .inr (beq_iff_eq.mp e)
  | .builtin _ :: _, e => .inr (beq_iff_eq.mp e)
theorem refsX_pass (self : Value) : ∀ l : List Value, refsX l = true → PySem.refuseLoop self "__setattr__" l = pure ()
  | [], e => absurd e (by decide)
  | a :: r, e => by
    rcases refsX_or (a :: r) e with ⟨c, r', q, h⟩ | q
    · obtain ⟨rfl, rfl⟩ := List.cons.inj q
      rw [refuseLoop_ref]
      exact refsX_pass self r h
    · rw [q]
      exact F.store_Exception.passes self
theorem refsX_has (T : String) : ∀ l : List Value, refsX l = true → l.contains (.type T) = exT.contains (.type T)
  | [], e => absurd e (by decide)
  | a :: r, e => by
    rcases refsX_or (a :: r) e with ⟨c, r', q, h⟩ | q
    · obtain ⟨rfl, rfl⟩ := List.cons.inj q
      rw [List.contains_cons, refsX_has T r h]
      rfl
    · rw [q]
/-- what the written part says of such a class -/
structure OexX (K : PySem.W.Frag) (C : Addr) : Prop where
  cls : ∃ nm q N bs bm sn sub ab col dd k0 k1 k2 k3 k5, K.lookup C = some (excClassObj nm q C N bs bm true sn sub ab col dd k0 k1 k2 k3 k5 "Exception.__new__") ∧ refsX bm = true
  sa : PySem.W.findIn K (.ref C) "__setattr__" = some (some (.builtin "object.__setattr__"))
  exC : PySem.W.subIn K (.ref C) (.type "BaseException") = some true
  tyC : PySem.W.typeIn K (.ref C) = some (.type "type")
  kC : PySem.W.keepIn K (.ref C) = true
section
open Builtin Builtin.ObjectAttr
variable {P : Program} {w : World} {A : Around} {R : Result → Shared → Prop} {hp : Heap} {g : Array GenState} {d : Drawn} {t : Nat} {os : OsState}
theorem exX_set {K : PySem.W.Frag} {f : Str} {tk : Tok} {v : Value} {x C : Addr} {fv : Array Value} {cd : ClassData} (kin : K.In hp) (hx : hp.get? x = some { cls := .ref C, data := .fields fv }) (hcd : PySem.W.clsIn K C = some cd) (hm : refsX cd.mro = true) (hd : cd.hasDict = true) (hf : PySem.W.findIn K (.ref C) f = some none)
    (h : ∀ h1 t1 dx, (∀ b ob, b ≠ x → hp.get? b = some ob → h1.get? b = some ob) → hp.objs.size ≤ dx → dx ≠ x → h1.get? x = some { cls := .ref C, dict := some dx, data := .fields fv } → h1.Ns1 dx (fun y => if y = f then some v else none) → R (.ok (.ret .none)) ⟨h1, g, d, t1, os⟩) :
    codeAny (model P w) A (.call (.builtin "object.__setattr__") ⟨[.ref x, .str f tk, v], []⟩) R ⟨hp, g, d, t, os⟩ := by
  have inst : PySem.W.InstAt hp x { cls := .ref C, data := .fields fv } C none := ⟨hx, rfl, rfl, trivial⟩
  have nonE : cd.mro.isEmpty = false := by
    cases q : cd.mro with
    | nil => rw [q] at hm; exact absurd hm (by decide)
    | cons _ _ => rfl
  have obj : cd.mro.contains (.type "object") = true := (refsX_has "object" _ hm).trans (by decide +kernel)
  have apart : x ≠ hp.objs.size := Nat.ne_of_lt (Heap.lt_size hx)
  have sub : PySem.W.Looks (model P w) hp (isInstance (.ref x) (.type "object")) true := inst.type.andThen (PySem.W.looks_mroIn kin (by unfold PySem.W.mroIn; rw [hcd, Option.bind_some, if_neg (by rw [nonE]; decide), obj]))
  have sf := F.store_object
  refine codeAny_call_builtin sf.slot.plain sf.entry (@PySem.W.check_slot (model P w) _ _ ⟨hp, g, d, t, os⟩ "object.__setattr__" "object" "__setattr__" (.ref x) [.str f tk, v] [] _ sf.kind sf.split sub (sf.args (.ref x) (.str f tk) v) ?_)
  have lm : PySem.W.Looks (model P w) hp (mroOf (.ref C)) cd.mro := (PySem.W.looks_clsIn kin hcd).andThen .now
  have ls : PySem.W.Looks (model P w) hp (storeTaker? none) none := .now
  have lc : PySem.W.Looks (model P w) hp (classData C) cd := PySem.W.looks_clsIn kin hcd
  rw [PySem.W.osa_eq, refuse_eq]
  refine wpAny_bind (wpAny_bind (inst.type.at (wpAny_bind (lm.at ?_))))
  rw [refsX_pass _ _ hm]
  refine wpAny_pure (wpAny_bind (inst.type.at (wpAny_bind ((PySem.W.looks_findIn kin hf).at (wpAny_bind (ls.at ?_))))))
  change wpAny _ _ (storeInOwnDict (.ref x) (.ref C) (.str f tk) f v false) _ _ _
  obtain ⟨c1, c2, c3, c4, c5, c6, c7, c8, c9, c10, c11⟩ := cd
  dsimp only at hd
  subst hd
  unfold storeInOwnDict ownDictForStores
  repeat (first | with_reducible refine HandSPX.store_in_new ?_ ?_ | with_reducible refine wpAny_loadPart_at hx ?_ | with_reducible refine lc.at ?_ | wp_step)
  · exact ⟨_, #[], _, (Heap.get?_update_ne _ _ _ _ apart.symm).trans (Heap.get?_push_at rfl rfl), rfl, fun e he => absurd he (by simp), fun _ => rfl⟩
  · intro h1 t1 ns sb
    refine h h1 t1 hp.objs.size (fun b ob hb ho => ?_) (Nat.le_refl _) apart.symm ?_ ns
    · exact (sb.2 b (Nat.ne_of_lt (Heap.lt_size ho))).trans ((Heap.get?_update_ne _ _ _ _ hb).trans (Heap.get?_push_of_some _ ho))
    · exact (sb.2 x apart).trans (Heap.get?_update_self _ (Heap.get?_push_of_some _ hx) rfl)
end
section
variable {X : Cx} {pins : List (Addr × Obj)} {σ : L2.St} {H : Hp} {s : Shared} {a C : Addr} {f : Str} {y : V} {u : Value} {Q : Unit → Shared → Prop} {E : Value → Shared → Prop} {A : Around}
/-- self.f = y, of such an exception that has no dict yet -/
theorem exX_new (T : OexX X.K C) (I : Inv X pins σ H s) (e : H a = some (exo a C none)) (hf : PySem.W.findIn X.K (.ref C) f = some none) (ry : RelV y u)
    (h : ∀ dx s1, H dx = none → dx ≠ a → Inv X pins σ (upd (upd H dx (exd dx [(f, y)])) a (exo a C (some dx))) s1 → Q () s1) : wpAny (model X.prog X.w) A (setAttr (.ref a) f u) Q E s := by
  obtain ⟨n1, n2, n3, n4, bm, n5, n6, n7, n8, n9, k0, k1, k2, k3, k5, hC, hbm⟩ := T.cls
  have hcl : PySem.W.clsIn X.K C = some { name := n1, bases := n4, mro := .ref C :: bm, ns := n3, qualname := n2, hasDict := true, slotNames := n5, subclasses := n6, abstract := n7, collection := n8, hasDel := false } := by unfold PySem.W.clsIn; rw [hC] <;> rfl
  obtain ⟨t1, ho⟩ := exo_at I.hok e
  obtain ⟨hp, g, d, t, os⟩ := s
  refine PySem.W.set_plain I.kIn (ox := { cls := .ref C, dict := none, data := .fields #[.ref t1, .none, .none, .none, .bool false, .none] }) (od := none) ⟨ho, rfl, rfl, trivial⟩ T.sa ?_
  refine exX_set I.kIn ho hcl (show refsX (.ref C :: bm) = true from hbm) rfl hf fun h1 tk dx keep new apart hx ns => ?_
  have hD : H dx = none := I.hok.fresh new
  have offD : ∀ {b : Addr} {ob : Obj}, hp.get? b = some ob → b ≠ dx := fun q => Nat.ne_of_lt (Nat.lt_of_lt_of_le (Heap.lt_size q) new)
  have offA : ∀ {b : Addr}, H b = none → b ≠ a := fun n z => by
    rw [z, e] at n
    cases n
  have un : Un X.fs [] H (upd (upd H dx (exd dx [(f, y)])) a (exo a C (some dx))) hp h1 :=
    { keep := fun b ob q n _ _ => keep b ob (offA n) q
      slot := fun b ob q n _ _ => ⟨ob.slots, keep b ob (offA n) q⟩
      free := fun b ob q n _ => by rw [upd_ne (offA n), upd_ne (offD q)]; exact n
      there := fun b ob q _ => (Classical.em (b = a)).elim (fun z => ⟨_, z ▸ hx⟩) fun z => ⟨ob, keep b ob z q⟩
      tups := fun b xs q => by rw [upd_ne (at_ne e q exo_tup), upd_ne (ne_of_none q hD)]; exact q
      frzs := fun b ob v q => by rw [upd_ne (at_ne e q exo_frz), upd_ne (ne_of_none q hD)]; exact q
      tbls := fun b ps q => ⟨#[], by rw [upd_ne (at_ne e q exo_tbl), upd_ne (ne_of_none q hD), q]; simp⟩ }
  refine h dx _ hD apart (I.un (t' := tk) un fun b ob q => ?_)
  by_cases hb : b = a
  · subst hb
    rw [upd_same] at q
    cases q
    exact exo_ok hx
  rw [upd_ne hb] at q
  by_cases hd : b = dx
  · subst hd
    rw [upd_same] at q
    cases q
    exact exd_ok ns (relO_put (fs := []) ry fun _ => True.intro)
  rw [upd_ne hd] at q
  exact (I.hok b ob q).stay (fun c v hc z => keep c v (by
      rcases hc with hc | hc
      · rw [hc]; exact hb
      · exact at_ne e hc exo_own) z)
    (fun c hc => by rw [upd_ne (at_ne e hc exo_own), upd_ne (ne_of_none hc hD)]; exact hc) fun c xs hc => by rw [upd_ne (at_ne e hc exo_tup), upd_ne (ne_of_none hc hD)]; exact hc
end
/-- what such an __init__ promises -/
def spI (K : PySem.W.Frag) (f : Str) : Sp := fun vs H Q _ => ∃ (a C : Addr) (y : V), vs = [.ref a, y] ∧ OexX K C ∧ PySem.W.findIn K (.ref C) f = some none ∧ H a = some (exo a C none) ∧ ∀ dx, H dx = none → dx ≠ a → Q .non (upd (upd H dx (exd dx [(f, y)])) a (exo a C (some dx)))
/-- self.f = y as a statement -/
theorem ps_exX {X : Cx} {o e : Expr} {to te : TE} {f : Str} {p pos : Pos} (ho : PE X o to) (he : PE X e te) (hs : swapsWith e (some (.Attribute o f p)) pos.line X.env = pure false := by rfl) :
    PS X (.Assign [.Attribute o f p] e pos) (fun D σ H => te σ H fun y H1 => to σ H1 fun x H2 => ∃ a C : Addr, x = .ref a ∧ OexX X.K C ∧ PySem.W.findIn X.K (.ref C) f = some none ∧ H2 a = some (exo a C none) ∧ ∀ dx, H2 dx = none → dx ≠ a → D.nx σ (upd (upd H2 dx (exd dx [(f, y)])) a (exo a C (some dx)))) := by
  refine ⟨fun pins s σ H D I h => plainObj_wpAny_Assign_Attribute (thn (he.run pins s σ H _ I h) fun v s1 got => ?_) hs⟩
  obtain ⟨y, H1, I1, r1, q1⟩ := got
  refine thn (ho.run pins s1 σ H1 _ I1 q1) fun u s2 got2 => ?_
  obtain ⟨x, H2, I2, r2, a, C, rfl, T, hf, ea, q⟩ := got2
  obtain rfl : u = Value.ref a := r2
  exact exX_new T I2 ea hf r1 fun dx s3 n ne J => ⟨σ, _, J, q dx n ne⟩
end Z

set_option Elab.async false
set_option linter.all false
set_option maxRecDepth 100000
set_option maxHeartbeats 4000000
/-! ZE2: raise C(x). -/
namespace Z
open PySem PySem.Spec PyProof.Rows L2
variable [LamT]
theorem fn_init {CX : CXT} {P : Program} {w : World} {K : PySem.W.Frag} {mg : Str → Option Value} {base : Heap} {k : Nat} {fI : Addr} {x qual sf pr f : Str} {params : Arguments} {scope : Scope} {N : List Str} {fd : FuncData} {p1 p2 p3 pos : Pos}
    (F : FunD K x qual params [.Assign [.Attribute (.Name sf p1) f p2] (.Name pr p3) pos] scope [] [] fI fd) (Sc : FnScope N [sf, pr] scope) (h0 : N[0]? = some sf) (h1 : N[1]? = some pr) (v0 : Vis scope sf) (v1 : Vis scope pr)
    (d0 : (sf == ("__debug__" : Str)) = false := by decide) (d1 : (pr == ("__debug__" : Str)) = false := by decide) (c0 : (sf == ("__classdict__" : Str)) = false := by decide) (c1 : (pr == ("__classdict__" : Str)) = false := by decide) :
    FnOk P w K mg base CX (k + 1) fI fd [sf, pr] (spI K f) := by
  obtain ⟨oc, od, dV, kV, doc, pm, an, cdv, ct, osl, rfl, lk, hcd, _, _⟩ := F.ex
  refine fn_of lk hcd Sc (fun vs H Q E ⟨a, C, y, e, _⟩ => by rw [e]; rfl) fun A outer s H vs Q E hr hsp => ?_
  obtain ⟨a, C, y, rfl, T, hf, ea, q⟩ := hsp
  have e0 : (L2.start N [V.ref a, y])[0]? = some (some (V.ref a)) := by unfold L2.start; rfl
  have e1 : (L2.start N [V.ref a, y])[1]? = some (some y) := by unfold L2.start; rfl
  exact ⟨_, pss_one (ps_exX (pe_var (i := 0) h0 v0 d0 c0) (pe_var (i := 1) h1 v1 d1 c1)), y, e1, V.ref a, e0, a, C, rfl, T, hf, ea, q⟩
theorem mk_heap {H1 : Hp} {a dx C : Addr} {u : HO} (ha : H1 a = none) (hd : dx ≠ a) : upd (del (upd (upd (upd H1 a (exo a C none)) dx u) a (exo a C (some dx))) a) dx (.xd fs) = upd H1 dx (.xd fs) := by
  funext b
  by_cases hb : b = dx
  · rw [hb, upd_same, upd_same]
  · rw [upd_ne hb, upd_ne hb]
    by_cases hb2 : b = a
    · rw [hb2, del_same, ha]
    · rw [del_ne hb2, upd_ne hb2, upd_ne hb, upd_ne hb2]
section
variable {X : Cx} {CX : CXT} {x f : Str} {C fI : Addr} {k : Nat} {fd : FuncData} {ps : List Str} {p pos : Pos} {e : Expr} {es : List Expr} {ta : TA}
theorem pmk_exX (T : OexX X.K C) (hf : PySem.W.findIn X.K (.ref C) f = some none) (iC : PySem.W.findIn X.K (.ref C) "__init__" = some (some (.ref fI))) (tI : PySem.W.typeIn X.K (.ref fI) = some (.type "function"))
    (F1 : FnOk X.prog X.w X.K X.mg X.base CX k fI fd ps (spI X.K f)) (hr : Room (k + 1) X.A) (hb : Binds X.K fd ps []) (hx : Passes CX X (fun _ _ _ => False)) (hg : Gl X x) (hm : X.mg x = some (.ref C)) (ha : PA X (e :: es) ta)
    (hdb : (x == ("__debug__" : Str)) = false := by decide) (he : starEach (e :: es) X.env = (false, eval e X.env) :: starEach es X.env := by rfl) (hpl : (backTo pos (starEach es X.env)).any (·.1) = false := by rfl) :
    PMk X (.Call (.Name x p) (e :: es) [] pos) (fun σ H Q => ta σ H fun vs H1 => ∃ y, vs = [y] ∧ ∀ d, H1 d = none → Q (.ref C) (some d) (upd H1 d (.xd [(f, y)]))) := by
  intro pins s σ H Q I h
  obtain ⟨n1, n2, n3, n4, bm, n5, n6, n7, n8, n9, k0, k1, k2, k3, k5, hC, hbm⟩ := T.cls
  refine wpAny_Call_Name_kw (ld_glob I hg hm ?_ hdb)
  refine PySem.W.callWith_K (h₀ := X.base) I.ok.mod.kin T.kC (thn (ha.run pos pins s σ H _ I h) fun us s1 got => ?_) he hpl
  obtain ⟨vs, H1, I1, r1, y, rfl, q1⟩ := got
  refine ⟨I1.kIn, ?_⟩
  change wpAny _ _ (call (.ref C) us) _ _ _
  obtain ⟨hp, g, dr, tk, os⟩ := s1
  obtain ⟨v, rfl, rv⟩ := vals1 r1
  generalize hh : (hp.push (PySem.W.kdv_tup [v])).push (PySem.HandSPX.excO C hp.objs.size) = hp2
  generalize ea : hp.objs.size + 1 = a
  have fresh : hp.objs.size ≤ a := by rw [← ea]; exact Nat.le_succ _
  have nA : H1 a = none := I1.hok.fresh fresh
  have old : ∀ b o, hp.get? b = some o → hp2.get? b = some o := fun b o e => by rw [← hh]; exact Heap.get?_push_of_some _ (Heap.get?_push_of_some _ e)
  have atA : hp2.get? a = some (PySem.HandSPX.excO C hp.objs.size) := by
    rw [← hh, ← ea]
    heap_get
  have I2 : Inv X pins σ (upd H1 a (exo a C none)) ⟨hp2, g, dr, tk, os⟩ := I1.laid (t' := tk) (a := a) (o := exo a C none) (h' := hp2) old fresh (exo_ok atA)
  have sp2 : spI X.K f [.ref a, y] (upd H1 a (exo a C none)) (fun z H2 => z = .non ∧ ∃ dx, H2 a = some (exo a C (some dx)) ∧ H2 dx = some (exd dx [(f, y)]) ∧ H1 dx = none ∧ Q (.ref C) (some dx) (upd (del H2 a) dx (.xd [(f, y)]))) (fun _ _ _ => False) :=
    ⟨a, C, y, rfl, T, hf, upd_same, fun dx n ne => ⟨rfl, dx, upd_same, by rw [upd_ne ne, upd_same], by rw [upd_ne ne] at n; exact n, by
      rw [mk_heap nA ne]
      exact q1 dx (by rw [upd_ne ne] at n; exact n)⟩⟩
  have r2 : Vals [V.ref a, y] [Value.ref a, v] := .cons rfl (.cons rv .nil)
  have hlen : ([Value.ref a, v] ++ []).length = ps.length := F1.len _ _ _ _ sp2
  have hbd := hb ⟨hp2, g, dr, tk, os⟩ [Value.ref a, v] I2.kIn hlen
  rw [List.append_nil] at hbd
  refine wpAny_call (PySem.HandSPX.call_own F.excBase_Exception (fun Y => refsX_has Y bm hbm) (I1.kIn _ _ hC) (PySem.W.looks_findIn I1.kIn iC) (fun self => PySem.W.bind_fn I1.kIn self tI) (by rw [sizeLine_eq]; simp) ?_)
  rw [hh, ea]
  refine codeAny_mono (F1.run _ X.stack _ _ ⟨[Value.ref a, v], []⟩ [Value.ref a, v] _ _ (fun _ _ _ => False) (hr.make C [v] []) (I2.env0.make C [v] []) hbd r2 sp2) fun r s2 fin => ?_
  cases r with
  | error er => exact hx pins σ _ _ er s2 I2 fin
  | ok fl =>
    cases fl with
    | ret u =>
      obtain ⟨z, H2, os2, bare2, un2, hok2, rz, rfl, dx, a1, a2, a3, q2⟩ := fin
      obtain ⟨h2, g2, d2, t2, os3⟩ := s2
      exact ⟨rz, mk_end (raises_own T.exC T.tyC) I1 fresh old un2 hok2 os2 bare2 a1 a2 a3 q2⟩
    | next => exact fin.elim
    | brk => exact fin.elim
    | cont => exact fin.elim
end
end Z

set_option Elab.async false
set_option linter.all false
set_option maxRecDepth 100000
set_option maxHeartbeats 4000000
/-! ZE3: raise, try .. except X as e: return .., what an except suite says. -/
namespace Z
open PySem PySem.Spec PyProof.Rows L2
variable [LamT]
def sRaise (c : Str) (m : EM) : SM := fun env s => (m env s).bind fun x s1 => .exc c x s1
section
variable {X : Cx} {Ex : XK}
theorem ss_raise {x f : Str} {C : Addr} {e : Expr} {m : EM} {p p2 pos : Pos} (hc : X.calm = true) (tk : Takes X (fun cls d _ H => Ex cls d H)) (hm : X.mg x = some (.ref C)) (hf : f = xfld x)
    (mk : PMk X (.Call (.Name x p) [e] [] p2) (fun σ H Q => tA (gx X) Ex (aCons m aNil) σ H fun vs H1 => ∃ y, vs = [y] ∧ ∀ d, H1 d = none → Q (.ref C) (some d) (upd H1 d (.xd [(f, y)])))) :
    PS X (.Raise (some (.Call (.Name x p) [e] [] p2)) none pos) (tS (gx X) Ex (sRaise x m)) := by
  refine ps_weak (ps_raise hc tk mk) fun D σ H ⟨W, s, env, he, hs, h⟩ => ?_
  refine ⟨W, s, env, he, hs, Post.of_bind (h.bind.mono (fun v s1 q => ?_) fun _ _ _ z => z)⟩
  refine fun W' H' us l hs' r => ?_
  cases r with
  | cons ra rn =>
    cases rn
    rename_i u
    refine ⟨u, rfl, fun d hd => ?_⟩
    subst hf
    exact q ⟨upd W'.fro d (.xd [(xfld x, u)]), W'.ob, W'.hid, W'.lk⟩ (upd H' d (.xd [(xfld x, u)])) C d u (l.trans (hs'.le_new hd)) (hs'.new hd) hm upd_same (ra.mono (hs'.le_new hd))
theorem takes_len {W : WX} (tk : Takes X W) : Takes X (fun cls d _ H => ∀ σ' : L2.St, σ'.length = X.N.length → W cls d σ' H) := fun u s' ⟨a, B, sI, pins, σ, H, cls, d, e, I, nb, up, sky, na, os, ag, w⟩ =>
  tk u s' ⟨a, B, sI, pins, σ, H, cls, d, e, I, nb, up, sky, na, os, ag, w σ I.len⟩
end
/-! ### what an except suite says -/
/-- P: what is known of the world and the slots all the while -/
def tXE (P : Wd → L2.St → Prop) (g : G) (m : EM) : TE := fun σ H Q => ∃ W s env, P W σ ∧ EnvR g.K W env σ ∧ StR g W H s ∧ Post (m env s) (Cont g W Q) (fun _ _ _ => False)
def tXA (P : Wd → L2.St → Prop) (g : G) (m : AM) : TA := fun σ H Q => ∃ W s env, P W σ ∧ EnvR g.K W env σ ∧ StR g W H s ∧ Post (m env s) (fun vs s' => ∀ W' H' us, W.Le W' → StR g W' H' s' → Reps g.K W' vs us → Q us H') (fun _ _ _ => False)
def tXT (P : Wd → L2.St → Prop) (g : G) (m : TM) : TT := fun σ H Q => ∃ W s env, P W σ ∧ EnvR g.K W env σ ∧ StR g W H s ∧ Post (m env s) (fun b s' => ∀ W' H', W.Le W' → StR g W' H' s' → Q b H') (fun _ _ _ => False)
def MonP (P : Wd → L2.St → Prop) : Prop := ∀ W W' σ, W.Le W' → P W σ → P W' σ
section
variable {P : Wd → L2.St → Prop} {g : G} {W : Wd} {s : S} {env : En} {σ : L2.St} {H : Hp}
theorem tXE_bind {α : Type} {m : EM} {k : PV → S → Rs α} {Q : α → S → Prop} {R : VK} (hP : MonP P) (p : P W σ) (he : EnvR g.K W env σ) (hs : StR g W H s) (h : Post ((m env s).bind k) Q (fun _ _ _ => False))
    (hk : ∀ v s1 W1 H1 u, W.Le W1 → P W1 σ → EnvR g.K W1 env σ → StR g W1 H1 s1 → Rep g.K W1 v u → Post (k v s1) Q (fun _ _ _ => False) → R u H1) : tXE P g m σ H R :=
  ⟨W, s, env, p, he, hs, h.bind.mono (fun v s1 q W1 H1 u l hs1 r => hk v s1 W1 H1 u l (hP _ _ _ l p) (he.mono l) hs1 r q) fun _ _ _ z => z⟩
theorem tXA_bind {α : Type} {m : AM} {k : List PV → S → Rs α} {Q : α → S → Prop} {R : List V → Hp → Prop} (hP : MonP P) (p : P W σ) (he : EnvR g.K W env σ) (hs : StR g W H s) (h : Post ((m env s).bind k) Q (fun _ _ _ => False))
    (hk : ∀ v s1 W1 H1 u, W.Le W1 → P W1 σ → EnvR g.K W1 env σ → StR g W1 H1 s1 → Reps g.K W1 v u → Post (k v s1) Q (fun _ _ _ => False) → R u H1) : tXA P g m σ H R :=
  ⟨W, s, env, p, he, hs, h.bind.mono (fun v s1 q W1 H1 u l hs1 r => hk v s1 W1 H1 u l (hP _ _ _ l p) (he.mono l) hs1 r q) fun _ _ _ z => z⟩
theorem tXT_bind {α : Type} {m : TM} {k : Bool → S → Rs α} {Q : α → S → Prop} {R : Bool → Hp → Prop} (hP : MonP P) (p : P W σ) (he : EnvR g.K W env σ) (hs : StR g W H s) (h : Post ((m env s).bind k) Q (fun _ _ _ => False))
    (hk : ∀ v s1 W1 H1, W.Le W1 → P W1 σ → EnvR g.K W1 env σ → StR g W1 H1 s1 → Post (k v s1) Q (fun _ _ _ => False) → R v H1) : tXT P g m σ H R :=
  ⟨W, s, env, p, he, hs, h.bind.mono (fun v s1 q W1 H1 l hs1 => hk v s1 W1 H1 l (hP _ _ _ l p) (he.mono l) hs1 q) fun _ _ _ z => z⟩
end
section
variable {X : Cx} {P : Wd → L2.St → Prop} {Ex : XK} {pos : Pos}
theorem sx_lift {e : Expr} {m : EM} (h : PE X e (tE (gx X) Ex m)) : PE X e (tXE P (gx X) m) := pe_weak h fun σ H Q ⟨W, s, env, _, he, hs, q⟩ => ⟨W, s, env, he, hs, q.mono (fun _ _ z => z) fun _ _ _ z => z.elim⟩
theorem sx_tlift {e : Expr} {m : TM} (h : PT X e (tT (gx X) Ex m)) : PT X e (tXT P (gx X) m) := pt_weak h fun σ H Q ⟨W, s, env, _, he, hs, q⟩ => ⟨W, s, env, he, hs, q.mono (fun _ _ z => z) fun _ _ _ z => z.elim⟩
theorem sxa_nil : PA X [] (tXA P (gx X) aNil) := pa_weak pa_nil fun σ H Q ⟨W, s, env, p, he, hs, h⟩ => h W H [] (Wd.Le.refl W) hs .nil
theorem sxa_cons (hP : MonP P) {e : Expr} {es : List Expr} {m : EM} {ms : AM} (ha : PE X e (tXE P (gx X) m)) (hr : PA X es (tXA P (gx X) ms)) (hs : starEach (e :: es) X.env = (false, eval e X.env) :: starEach es X.env := by rfl) : PA X (e :: es) (tXA P (gx X) (aCons m ms)) := by
  refine pa_weak (pa_cons ha hr hs) fun σ H Q ⟨W, s, env, p, he, hs, h⟩ => ?_
  refine tXE_bind hP p he hs h fun x s1 W1 H1 u l1 p1 he1 hs1 r1 h1 => ?_
  refine tXA_bind hP p1 he1 hs1 h1 fun xs s2 W2 H2 us l2 p2 he2 hs2 r2 h2 => ?_
  exact h2 W2 H2 _ (l1.trans l2) hs2 (.cons (r1.mono l2) r2)
theorem liftF {o : Option (PV × S)} {Q : PV → S → Prop} {E : Str → PV → S → Prop} (h : Post (lift o) Q E) : ∃ v s', o = some (v, s') ∧ Q v s' := by
  cases o with
  | none => exact h.elim
  | some p => exact ⟨p.1, p.2, rfl, h⟩
theorem sx_tup (hP : MonP P) {es : List Expr} {m : AM} {x1} (h : PA X es (tXA P (gx X) m)) : PE X (.Tuple es x1 pos) (tXE P (gx X) (eTup m)) := by
  refine pe_weak (pe_tupN h) fun σ H Q ⟨W, s, env, p, he, hs, h⟩ => ?_
  refine tXA_bind hP p he hs h fun xs s1 W1 H1 us l1 p1 he1 hs1 r1 h1 => ?_
  obtain ⟨v, s', e, hc⟩ := liftF h1
  exact newT_ok hs1 r1 e (hc.mono l1)
theorem sx_lst (hP : MonP P) {es : List Expr} {m : AM} (mu : Bool) (h : PA X es (tXA P (gx X) m)) : PE X (.List es pos) (tXE P (gx X) (eLst mu m)) := by
  refine pe_weak (pe_lst h) fun σ H Q ⟨W, s, env, p, he, hs, h⟩ => ?_
  refine tXA_bind hP p he hs h fun xs s1 W1 H1 us l1 p1 he1 hs1 r1 h1 => ?_
  obtain ⟨v, s', e, hc⟩ := liftF h1
  exact newL_ok hs1 r1 e (hc.mono l1)
theorem sx_callB (hP : MonP P) {x : Str} {id : String} {p : Pos} {e : Expr} {es : List Expr} {f : OL} {m : AM} (hc : CallR X (.builtin id) (rL (gx X) f)) (hg : Gl X x) (hm : X.mg x = none) (hv : bootBuiltins x = some (.builtin id)) (ha : PA X (e :: es) (tXA P (gx X) m))
    (hn : x ≠ "__name__" := by decide) (hdb : (x == ("__debug__" : Str)) = false := by decide) (he : starEach (e :: es) X.env = (false, eval e X.env) :: starEach es X.env := by rfl) (hpl : (backTo pos (starEach es X.env)).any (·.1) = false := by rfl) :
    PE X (.Call (.Name x p) (e :: es) [] pos) (tXE P (gx X) (eLs f m)) := pe_weak (pe_callB hc hg hm hv ha hn hdb he hpl) fun σ H Q ⟨W, s, env, pp, he, hs, h⟩ => by
  refine tXA_bind hP pp he hs h fun xs s1 W1 H1 us l1 p1 he1 hs1 r1 h1 => ?_
  obtain ⟨v, s', e, hc⟩ := liftF h1
  exact ⟨W1, s1, xs, v, s', r1, hs1, e, hc.mono l1⟩
theorem sx_if (hP : MonP P) {c a b : Expr} {mc : TM} {ma mb : EM} (hc : PT X c (tXT P (gx X) mc)) (ha : PE X a (tXE P (gx X) ma)) (hb : PE X b (tXE P (gx X) mb)) : PE X (.IfExp c a b pos) (tXE P (gx X) (eIf mc ma mb)) := by
  refine pe_weak (pe_ifExp hc ha hb) fun σ H Q ⟨W, s, env, p, he, hs, h⟩ => ?_
  refine tXT_bind hP p he hs h fun k s1 W1 H1 l1 p1 he1 hs1 h1 => ?_
  cases k with
  | true => rw [if_pos rfl]; exact ⟨W1, s1, env, p1, he1, hs1, Post.mono h1 (fun _ _ z => z.mono l1) fun _ _ _ z => z⟩
  | false => rw [if_neg Bool.false_ne_true]; exact ⟨W1, s1, env, p1, he1, hs1, Post.mono h1 (fun _ _ z => z.mono l1) fun _ _ _ z => z⟩
end
end Z

set_option Elab.async false
set_option linter.all false
set_option maxRecDepth 100000
set_option maxHeartbeats 4000000
/-! ZE4: e.f and isinstance(e, D) of a caught error, try .. except X as e: return .. . -/
namespace Z
open PySem PySem.Spec PyProof.Rows L2
variable [LamT]
/-- what a suite knows: e stands at slot i, its dict holds the thing -/
def PSu (K : PySem.W.Frag) (a d : Addr) (i : Nat) (f : Str) (x : PV) : Wd → L2.St → Prop := fun W σ => σ[i]? = some (some (.ref a)) ∧ ∃ v, W.fro d = some (.xd [(f, v)]) ∧ Rep K W x v
theorem PSu.mon {K : PySem.W.Frag} {a d : Addr} {i : Nat} {f : Str} {x : PV} : MonP (PSu K a d i f x) := fun W W' σ l ⟨h, v, h1, h2⟩ => ⟨h, v, l.fro _ _ h1, h2.mono l⟩
def eK (x : PV) : EM := fun _ s => .ok x s
section
variable {X : Cx} {a d C : Addr} {oe : Obj} {pn : List (Addr × Obj)} {i : Nat} {f n : Str} {x : PV} {p pos : Pos}
theorem sx_thing (T : XfC X.K C) (hno : PySem.W.findIn X.K (.ref C) f = some none) (hz : Zc (.ref C) (some d) oe) (hf : ∃ vs, oe.data = .fields vs) (hN : X.N[i]? = some n) (hv : Vis X.env.scope n)
    (hb : attributeBase (.Name n p) f X.env (eval (.Name n p) X.env) = eval (.Name n p) X.env := by rfl) (hd : (n == ("__debug__" : Str)) = false := by decide) (hcd : (n == ("__classdict__" : Str)) = false := by decide) :
    PE (X.suite a ((a, oe) :: pn)) (.Attribute (.Name n p) f pos) (tXE (PSu X.K a d i f x) (gx X) (eK x)) := by
  refine pe_weak (pe_xf T hno hz hf (pe_var (X := X.suite a ((a, oe) :: pn)) (i := i) hN hv hd hcd) hb) fun σ H Q ⟨W, s, env, ⟨hσ, v, h1, h2⟩, he, hs, h⟩ => ?_
  refine ⟨.ref a, hσ, rfl, rfl, d, [(f, v)], v, rfl, hs.fro _ _ h1, ?_, h.here hs h2⟩
  rw [lookup_put, if_pos rfl]
end
/-! ### isinstance -/
section
open PySem.W PySem.Calls
variable {P : Program} {w : World} {A : Around} {E : Value → Shared → Prop} {s : Shared} {K : Frag} {x D : Addr} {ox : Obj} {od : Option Obj}
theorem find_data {C : Addr} {name : Str} {a g : Value} (hc : (clsIn K C).isSome = true) (ha : findIn K (.ref C) name = some (some a)) (hg : specialIn K a "__get__" = some (some g)) (ht : takesIn K a = some true) : findObj K C od name = some (.bind g a) := by
  obtain ⟨cd, hc⟩ := Option.isSome_iff_exists.mp hc
  unfold findObj
  rw [hc, Option.bind_some, ha, Option.bind_some]
  simp [hg, ht]
theorem exX_class {Q : Option Value → Shared → Prop} (T : ExcC K D) (kin : K.In s.heap) (inst : InstAt s.heap x ox D od) (h : Q (some (.ref D)) { s with toks := s.toks + 1 }) : wpAny (model P w) A (getAttr? (.ref x) "__class__") Q E s := by
  have hf : findObj K D od "__class__" = some (.bind (.builtin "getset_descriptor.__get__") (.builtin "object.__class__")) := find_data (by obtain ⟨cd, hc, _⟩ := any_some T.hd; rw [hc]; rfl) T.ha T.hn T.ht
  obtain ⟨hp, g, d, t, os⟩ := s
  have l0 := inst.type (M := model P w)
  have l1 := looks_findIn (M := model P w) kin T.hg
  have l2 := looks_findIn (M := model P w) kin T.hk
  have l3 := looks_find (M := model P w) kin inst hf
  have sub : Looks (model P w) hp (isInstance (.ref x) (.type "BaseException")) true := l0.andThen (looks_subIn kin T.hs)
  have b0 : (false && onTheHeap (Value.builtin "BaseException.__getattribute__")) = false := rfl
  have b2 : (Value.builtin "BaseException.__getattribute__" == Value.builtin "object.__getattribute__") = false := by decide +kernel
  have b1 : (onTheHeap (Value.ref D) && Value.builtin "BaseException.__getattribute__" == Value.builtin "object.__getattribute__") = false := by rw [b2]; rfl
  unfold getAttr? getAttrBy? getAttrBy
  refine wpAny_bind (wpAny_mkText (wpAny_bind (wpAny_attempt (wpAny_holding (wpAny_bind (l0.at (wpAny_bind (l1.at ?_))))))))
  change wpAny _ _ (if (onTheHeap (Value.ref D) && Value.builtin "BaseException.__getattribute__" == Value.builtin "object.__getattribute__") = true then _ else _) _ _ _
  rw [b1, if_neg Bool.false_ne_true]
  unfold getAttrByItsOwn hookBefore
  refine wpAny_bind ?_
  rw [if_pos (show onTheHeap (Value.ref D) = true from rfl)]
  refine l2.at (wpAny_bind (wpAny_attempt (wpAny_holding ?_)))
  unfold callGetattribute
  rw [b0, if_neg Bool.false_ne_true]
  unfold boundAndCalled
  rw [PySem.F.excAttr_ValueError.ga.bind (.ref x)]
  refine wpAny_bind (wpAny_pure ?_)
  change wpAny _ _ (call (.builtin "BaseException.__getattribute__") [.ref x, .str "__class__" t]) _ _ _
  refine wpAny_call (codeAny_call_builtin PySem.F.excAttr_ValueError.ga.plain PySem.F.entry_bexc_ga ?_)
  refine @check_slot (model P w) _ _ ⟨hp, g, d, t + 1, os⟩ "BaseException.__getattribute__" "BaseException" "__getattribute__" (.ref x) [.str "__class__" t] [] _ (by decide +kernel) (by decide +kernel) sub (PySem.F.args_bexc_ga (.ref x) (.str "__class__" t)) ?_
  unfold Builtin.«object.__getattribute__»
  refine wpAny_bind (wpAny_of_eq (a := ((Value.ref x : Value), [Value.str "__class__" t])) (by first | rfl | (simp only [slotArgs]; rfl)) ?_)
  refine wpAny_bind (wpAny_pure (wpAny_bind (l0.at (wpAny_bind (l3.at ?_)))))
  change wpAny _ _ (holding [Value.builtin "object.__class__"] (call (.builtin "getset_descriptor.__get__") [.builtin "object.__class__", .ref x, .ref D]) >>= ret) _ _ _
  refine wpAny_bind (wpAny_holding (wpAny_call (class_get (s := ⟨hp, g, d, t + 1, os⟩) (ox := ox) (od := od) kin inst T.hm ?_)))
  refine wpAny_pure ?_
  change wpAny _ _ (handedOut (.ref D)) _ _ _
  rw [handedOut_of (v := .ref D) rfl]
  first
    | exact wpAny_pure (wpAny_pure h)
    | exact wpAny_pure h
    | exact wpAny_pure (wpAny_bind (wpAny_pure (wpAny_pure h)))
theorem exX_kit (T : ExcC K D) : KitX K (.ref x) (.ref D) (fun h => InstAt h x ox D od) where
  ty := fun _ _ _ I => I.type
  it := fun _ _ kin _ => by
    obtain ⟨cd, hc, _⟩ := any_some T.hd
    unfold clsIn at hc
    split at hc
    · rename_i c1 d1 cd1 sl ho
      intro A' Q' E' s' k q
      unfold isType loadHead
      exact wpAny_bind (wpAny_loadPart (k _ _ (kin _ _ ho)) (wpAny_pure q))
    · cases hc
  ne := fun h tp dd its n sl kin htp => by
    obtain ⟨cd, hc, _⟩ := any_some T.hd
    refine Bool.eq_false_iff.mpr fun q => ?_
    obtain rfl : D = tp := Value.ref.inj (beq_iff_eq.mp q)
    unfold clsIn at hc
    split at hc
    · rename_i c1 d1 cd1 sl ho
      cases (kin _ _ ho).symm.trans htp
    · cases hc
  ca := fun kin I k => exX_class T kin I k
end
end Z

set_option Elab.async false
set_option linter.all false
set_option maxRecDepth 100000
set_option maxHeartbeats 4000000
/-! ZE5: isinstance(e, D), try .. except X as e: return e' . -/
namespace Z
open PySem PySem.Spec PyProof.Rows L2
variable [LamT]
def rIsX (K : PySem.W.Frag) (D a d : Addr) : List V → Hp → VK → Prop := fun xs H Q => ∃ (C : Addr) (b : Bool) (fs : List (Str × V)), xs = [.ref a, .ref C] ∧ PySem.W.kitOne K (.ref D) (.ref C) = some b ∧ H d = some (.xd fs) ∧ Q (.bl b) H
section
variable {X : Cx} {a d D : Addr} {oe : Obj} {pn : List (Addr × Obj)} {i : Nat} {f n y : Str} {x : PV} {p p1 p2 pos : Pos}
theorem call_isX (T : ExcC X.K D) (hz : Zc (.ref D) (some d) oe) (hf : ∃ vs, oe.data = .fields vs) : CallR (X.suite a ((a, oe) :: pn)) (.builtin "isinstance") (rIsX X.K D a d) := by
  intro pins s σ H xs us Q I r h
  obtain ⟨C, b, fs, rfl, e, hd, q⟩ := h
  cases r with
  | cons rx rr =>
    cases rr with
    | cons rt rn =>
      cases rn
      cases rx
      cases rt
      obtain ⟨at1, _⟩ := I.pin (a, oe) (List.mem_append.mpr (.inl List.mem_cons_self))
      obtain ⟨vs, hv⟩ := hf
      obtain ⟨mA, ⟨od, _, _, ho, _⟩, _⟩ := (I.hok d _ hd : ObjOk _ _ _ _ d (.xd fs))
      have inst : PySem.W.InstAt s.heap a oe D (some od) := ⟨at1, hz.1, by unfold PySem.W.notCls; rw [hv] <;> rfl, by rw [hz.2]; exact ho⟩
      exact PySem.W.kia_one (exX_kit T) I.kIn inst e (fun z => nomatch z) fun tk => ⟨.bl b, H, I.kept (t' := tk) fun _ _ z => z, rfl, q⟩
theorem pe_cls {X : Cx} {C : Addr} (hg : Gl X y) (hm : X.mg y = some (.ref C)) (hdb : (y == ("__debug__" : Str)) = false := by decide) : PE X (.Name y p) (fun _ H Q => Q (.ref C) H) :=
  ⟨fun pins s σ H Q I h => ld_glob I hg hm ⟨.ref C, H, I, rfl, h⟩ hdb⟩
theorem sx_is {C : Addr} {b : Bool} (T : ExcC X.K D) (hz : Zc (.ref D) (some d) oe) (hf : ∃ vs, oe.data = .fields vs) (hN : X.N[i]? = some n) (hv : Vis X.env.scope n) (hg0 : Gl X "isinstance") (hm0 : X.mg "isinstance" = none) (hg : Gl X y) (hm : X.mg y = some (.ref C))
    (hk : PySem.W.kitOne X.K (.ref D) (.ref C) = some b) (hd : (n == ("__debug__" : Str)) = false := by decide) (hcd : (n == ("__classdict__" : Str)) = false := by decide) (hdb : (y == ("__debug__" : Str)) = false := by decide)
    (h1 : starEach [.Name n p1, .Name y p2] X.env = (false, eval (.Name n p1) X.env) :: starEach [.Name y p2] X.env := by rfl) (h2 : starEach [.Name y p2] X.env = (false, eval (.Name y p2) X.env) :: starEach [] X.env := by rfl) (h3 : (backTo pos (starEach [.Name y p2] X.env)).any (·.1) = false := by rfl) :
    PE (X.suite a ((a, oe) :: pn)) (.Call (.Name "isinstance" p) [.Name n p1, .Name y p2] [] pos) (tXE (PSu X.K a d i f x) (gx X) (eK (.bl b))) := by
  refine pe_weak (pe_callB (X := X.suite a ((a, oe) :: pn)) (call_isX T hz hf) hg0 hm0 boot_isinstance (pa_cons (pe_var (X := X.suite a ((a, oe) :: pn)) (i := i) hN hv hd hcd) (pa_cons (pe_cls (X := X.suite a ((a, oe) :: pn)) hg hm hdb) pa_nil h2) h1) (by decide) (by decide) h1 h3) fun σ H Q ⟨W, s, env, ⟨hσ, v, q1, q2⟩, he, hs, h⟩ => ?_
  exact ⟨.ref a, hσ, C, b, [(f, v)], rfl, hk, hs.fro _ _ q1, h.here hs (.bl b)⟩
end
/-! ### try -/
def sTryAs (n : Nat) (hd : Str → Option Bool) (b : SM) (h : Str → PV → EM) : SM := fun env s =>
  match b env s with
  | .exc c x s1 => match hd c with
    | some true => match h c x (List.replicate n none) s1 with
      | .ok v s2 => .ok (.ret v) s2
      | _ => .fail
    | some false => .exc c x s1
    | none => .fail
  | r => r
section
variable {X : Cx} {Ex : XK} {x n : Str} {cC : Addr} {i : Nat} {body : List Stmt} {e : Expr} {b : SM} {h : Str → PV → EM} {hd : Str → Option Bool} {np rp pos pos' : Pos}
theorem ss_try (hs : X.stack = X.env :: X.outer) (hf : X.env.frame = some X.env.locals) (hN : X.N.Nodup) (hi : X.N[i]? = some n) (hln : X.env.kindOf n = some .local) (hc : Names X x (.ref cC)) (tk : Takes X (fun cls d _ H => Ex cls d H))
    (hb : ∀ (pn : List (Addr × Obj)) (xe : Value → Shared → Prop) (Ex' : XK), Takes (X.tr pn xe) (fun cls d _ H => Ex' cls d H) → PassesOwn (model X.prog X.w) X.A X.env xe → PSs (X.tr pn xe) body (tS (gx X) Ex' b))
    (hex : ∀ c k C, hd c = some k → X.mg c = some (.ref C) → PySem.W.exmOne X.K (.ref C) (.ref cC) = some k)
    (hsu : ∀ c C a oe d y pn, hd c = some true → X.mg c = some (.ref C) → Zc (.ref C) (some d) oe → (∃ vs, oe.data = .fields vs) → PE (X.suite a ((a, oe) :: pn)) e (tXE (PSu X.K a d i (xfld c) y) (gx X) (h c y))) :
    PS X (.Try body [.ExceptHandler (some (.Name x np)) (some n) [.Return (some e) rp] pos'] [] [] pos) (tS (gx X) Ex (sTryAs X.N.length hd b h)) := by
  refine ps_weak (ps_try_as (pos := pos) (pos' := pos') (np := np) (suite := []) (b₀ := .Return (some e) rp) hs hf hN hi hln hc tk (tb := fun W => tS (gx X) (fun cls d H => ∀ σ' : L2.St, σ'.length = X.N.length → W cls d σ' H) b)
    (ts := fun a cls d D σ H => ∃ c C dd y, hd c = some true ∧ X.mg c = some (.ref C) ∧ cls = .ref C ∧ d = some dd ∧ tXE (PSu X.K a dd i (xfld c) y) (gx X) (h c y) σ H D.rt)
    (fun W pn xe tkW ho => hb pn xe _ (takes_len tkW) ho) fun a oe cls d pn hz hfl => pss_one ⟨fun pins s σ H D I ⟨c, C, dd, y, q1, q2, q3, q4, q5⟩ => ?_⟩) fun D σ H ⟨W, s, env, he, hst, q⟩ => ?_
  · subst q3 q4
    exact (ps_ret (hsu c C a oe dd y pn q1 q2 hz hfl)).run pins s σ H D I q5
  · refine ⟨W, s, env, he, hst, ?_⟩
    unfold sTryAs at q
    cases hm : b env s with
    | ok fl s1 => rw [hm] at q; exact q
    | fail => rw [hm] at q; exact q.elim
    | exc c y s1 =>
      rw [hm] at q
      simp only at q
      cases hk : hd c with
      | none => rw [hk] at q; exact q.elim
      | some k =>
        rw [hk] at q
        refine fun W' H' C d v l hs' hmg hfro rv σ' hlen => ⟨k, hex c k C hk hmg, fun hkt a na => ?_, fun hkf => ?_⟩
        · subst hkt
          simp only at q
          have hil : i < σ'.length := by
            rw [hlen]
            exact (List.getElem?_eq_some_iff.mp hi).1
          refine ⟨c, C, d, y, hk, hmg, rfl, rfl, W', s1, List.replicate X.N.length none, ⟨List.getElem?_set_self hil, v, hfro, rv⟩, ⟨by simp [hlen], fun j u z => ?_⟩, hs', ?_⟩
          · rw [List.getElem?_replicate] at z
            split at z <;> cases z
          · cases hr : h c y (List.replicate X.N.length none) s1 with
            | ok u s2 => rw [hr] at q; exact fun W2 H2 u2 l2 => q W2 H2 u2 (l.trans l2)
            | fail => rw [hr] at q; exact q.elim
            | exc _ _ _ => rw [hr] at q; exact q.elim
        · subst hkf
          exact q W' H' C d v l hs' hmg hfro rv
end
end Z

set_option Elab.async false
set_option linter.all false
set_option maxRecDepth 100000
set_option maxHeartbeats 4000000
/-! ZE6: tests in an except suite. -/
namespace Z
open PySem PySem.Spec PyProof.Rows L2
variable [LamT]
section
variable {X : Cx} {P : Wd → L2.St → Prop}
theorem tXE_bl (hP : MonP P) {m : EM} {σ : L2.St} {H : Hp} {Q : Bool → Hp → Prop} (h : tXT P (gx X) (tB m) σ H Q) : tXE P (gx X) m σ H (fun x H1 => ∃ k, x = .bl k ∧ Q k H1) := by
  obtain ⟨W, s, env, p, he, hs, h⟩ := h
  refine tXE_bind hP p he hs h fun x s1 W1 H1 u l1 p1 he1 hs1 r1 h1 => ?_
  cases x with
  | bl k => cases r1; exact ⟨k, rfl, h1 W1 H1 l1 hs1⟩
  | _ => exact h1.elim
theorem sxt_val (hP : MonP P) {a : Expr} {m : EM} (h : PE X a (tXE P (gx X) m)) (he : ∀ whole, isTrue a X.env whole = (do let v ← whole; standAt a.pos; holding [v] (truthy v)) := by intro _; rfl) : PT X a (tXT P (gx X) (tB m)) :=
  pt_weak (pt_val h he) fun _ _ _ q => tXE_bl hP q
/-- repr(e) -/
theorem sx_callB1 (hP : MonP P) {x : Str} {id : String} {p pos : Pos} {e : Expr} {f : OL} {m : EM} (hc : CallR X (.builtin id) (rL (gx X) f)) (hg : Gl X x) (hm : X.mg x = none) (hv : bootBuiltins x = some (.builtin id)) (ha : PE X e (tXE P (gx X) m))
    (hn : x ≠ "__name__" := by decide) (hdb : (x == ("__debug__" : Str)) = false := by decide) (he : starEach [e] X.env = (false, eval e X.env) :: starEach [] X.env := by rfl) (hpl : (backTo pos (starEach [] X.env)).any (·.1) = false := by rfl) :
    PE X (.Call (.Name x p) [e] [] pos) (tXE P (gx X) (eLs f (aCons m aNil))) := sx_callB hP hc hg hm hv (sxa_cons hP ha sxa_nil he) hn hdb he hpl
end
end Z

set_option Elab.async false
set_option linter.all false
set_option maxRecDepth 100000
set_option maxHeartbeats 4000000
/-! ZL1: f(lambda: e), f: try: return (word, a()) / except X as e: return e' . -/
namespace Z
open PySem PySem.Spec PyProof.Rows L2
variable [LamT]
def triedM (hd : Str → Option Bool) (h : Str → PV → EM) (n : Nat) (r : Str) (k : S → Rs PV) : S → Rs PV := fun s =>
  match k s with
  | .ok v s1 => .ok (.tup [.str r, v]) s1
  | .exc c x s1 => match hd c with
    | some true => match h c x (List.replicate n none) s1 with
      | .ok v s2 => .ok v s2
      | _ => .fail
    | _ => .fail
  | .fail => .fail
def eTried (hd : Str → Option Bool) (h : Str → PV → EM) (n : Nat) (r : Str) (m : EM) : EM := fun env s => triedM hd h n r (fun s => m env s) s
theorem noTb.ne {o : HO} (h : noTb o) (ps : Array Value) : o ≠ .tbl ps := fun z => by rw [z] at h; exact h
section
variable {g : G} {W : Wd} {H H1 : Hp} {s : S}
theorem StR.extN (h : StR g W H s) (x : LamX.ExtN H H1) (t : LamX.Tabs LamT.T H1) : StR g W H1 s :=
  ⟨fun b o e => x b o (h.fro b o e) (h.ntb b o e).ne, h.len, h.nd, fun n a e => let ⟨o, q, p⟩ := h.alv n a e; ⟨o, x a o q p.no.ne, p⟩, h.off, fun n a o e e' => by
    obtain ⟨u, q, p⟩ := h.alv n a e
    exact (h.has n a o e e').mono (Wd.Le.refl W) ((x a u q p.no.ne).trans q.symm), fun b o e => x b o (h.hid b o e) (h.nth b o e).no.ne, h.hno, h.hnf, h.ntb, h.nth, t⟩
/-- a thing that is there, kept in the world from here on -/
theorem StR.adopt {c : Addr} {φ : Heap → Prop} (h : StR g W H s) (hc : H c = some (.ext φ)) : ∃ W1, W.Le W1 ∧ StR g W1 H s ∧ W1.fro c = some (.ext φ) := by
  cases hf : W.fro c with
  | some o =>
    have := h.fro c o hf
    rw [hc] at this
    cases this
    exact ⟨W, Wd.Le.refl W, h, hf⟩
  | none =>
    have off : ∀ (n : Nat) (a : Addr), W.ob[n]? = some a → a ≠ c := fun n a e z => by
      obtain ⟨o, q, p⟩ := h.alv n a e
      rw [z, hc] at q
      cases q
      exact p
    have hh : W.hid c = none := by
      cases q : W.hid c with
      | none => rfl
      | some o =>
        have q1 := h.hid c o q
        have q2 := h.nth c o q
        rw [hc] at q1
        cases q1
        exact q2.elim
    refine ⟨⟨upd W.fro c (.ext φ), W.ob, W.hid, W.lk⟩, le_fro hf, ⟨fun b o e => ?_, h.len, h.nd, h.alv, fun n a o e e' d => ?_, fun n a o e e' => (h.has n a o e e').mono (le_fro hf) rfl, h.hid, h.hno, fun b q => ?_, fun b o e => ?_, h.nth, h.tab⟩, upd_same⟩
    · have e' : upd W.fro c (.ext φ) b = some o := e
      by_cases hb : b = c
      · rw [hb, upd_same] at e'; cases e'; rw [hb]; exact hc
      · rw [upd_ne hb] at e'; exact h.fro _ _ e'
    · show upd W.fro c (.ext φ) a = none
      rw [upd_ne (off n a e)]; exact h.off n a o e e' d
    · show upd W.fro c (.ext φ) b = none
      have : b ≠ c := fun z => q (by rw [z]; exact hh)
      rw [upd_ne this]; exact h.hnf b q
    · have e' : upd W.fro c (.ext φ) b = some o := e
      by_cases hb : b = c
      · rw [hb, upd_same] at e'; cases e'; exact True.intro
      · rw [upd_ne hb] at e'; exact h.ntb _ _ e'
end
/-! ### try with something known all the while -/
def tPS (P : Wd → L2.St → Prop) (g : G) (Ex : XK) (m : SM) : TS := fun D σ H => ∃ W s env, P W σ ∧ EnvR g.K W env σ ∧ StR g W H s ∧ Post (m env s) (FlC g W D) (XW g W Ex)
section
variable {X : Cx} {Ex : XK} {x n : Str} {cC : Addr} {i : Nat} {body : List Stmt} {e : Expr} {b : SM} {h : Str → PV → EM} {hd : Str → Option Bool} {np rp pos pos' : Pos} {P : Wd → L2.St → Prop}
theorem ss_tryP (hs : X.stack = X.env :: X.outer) (hf : X.env.frame = some X.env.locals) (hN : X.N.Nodup) (hi : X.N[i]? = some n) (hln : X.env.kindOf n = some .local) (hc : Names X x (.ref cC)) (tk : Takes X (fun cls d _ H => Ex cls d H))
    (hb : ∀ (pn : List (Addr × Obj)) (xe : Value → Shared → Prop) (Ex' : XK), Takes (X.tr pn xe) (fun cls d _ H => Ex' cls d H) → PassesOwn (model X.prog X.w) X.A X.env xe → PSs (X.tr pn xe) body (tPS P (gx X) Ex' b))
    (hex : ∀ c k C, hd c = some k → X.mg c = some (.ref C) → PySem.W.exmOne X.K (.ref C) (.ref cC) = some k)
    (hsu : ∀ c C a oe d y pn, hd c = some true → X.mg c = some (.ref C) → Zc (.ref C) (some d) oe → (∃ vs, oe.data = .fields vs) → PE (X.suite a ((a, oe) :: pn)) e (tXE (PSu X.K a d i (xfld c) y) (gx X) (h c y))) :
    PS X (.Try body [.ExceptHandler (some (.Name x np)) (some n) [.Return (some e) rp] pos'] [] [] pos) (tPS P (gx X) Ex (sTryAs X.N.length hd b h)) := by
  refine ps_weak (ps_try_as (pos := pos) (pos' := pos') (np := np) (suite := []) (b₀ := .Return (some e) rp) hs hf hN hi hln hc tk (tb := fun W => tPS P (gx X) (fun cls d H => ∀ σ' : L2.St, σ'.length = X.N.length → W cls d σ' H) b)
    (ts := fun a cls d D σ H => ∃ c C dd y, hd c = some true ∧ X.mg c = some (.ref C) ∧ cls = .ref C ∧ d = some dd ∧ tXE (PSu X.K a dd i (xfld c) y) (gx X) (h c y) σ H D.rt)
    (fun W pn xe tkW ho => hb pn xe _ (takes_len tkW) ho) fun a oe cls d pn hz hfl => pss_one ⟨fun pins s σ H D I ⟨c, C, dd, y, q1, q2, q3, q4, q5⟩ => ?_⟩) fun D σ H ⟨W, s, env, hp, he, hst, q⟩ => ?_
  · subst q3 q4
    exact (ps_ret (hsu c C a oe dd y pn q1 q2 hz hfl)).run pins s σ H D I q5
  · refine ⟨W, s, env, hp, he, hst, ?_⟩
    unfold sTryAs at q
    cases hm : b env s with
    | ok fl s1 => rw [hm] at q; exact q
    | fail => rw [hm] at q; exact q.elim
    | exc c y s1 =>
      rw [hm] at q
      simp only at q
      cases hk : hd c with
      | none => rw [hk] at q; exact q.elim
      | some k =>
        rw [hk] at q
        refine fun W' H' C d v l hs' hmg hfro rv σ' hlen => ⟨k, hex c k C hk hmg, fun hkt a na => ?_, fun hkf => ?_⟩
        · subst hkt
          simp only at q
          have hil : i < σ'.length := by
            rw [hlen]
            exact (List.getElem?_eq_some_iff.mp hi).1
          refine ⟨c, C, d, y, hk, hmg, rfl, rfl, W', s1, List.replicate X.N.length none, ⟨List.getElem?_set_self hil, v, hfro, rv⟩, ⟨by simp [hlen], fun j u z => ?_⟩, hs', ?_⟩
          · rw [List.getElem?_replicate] at z
            split at z <;> cases z
          · cases hr : h c y (List.replicate X.N.length none) s1 with
            | ok u s2 => rw [hr] at q; exact fun W2 H2 u2 l2 => q W2 H2 u2 (l.trans l2)
            | fail => rw [hr] at q; exact q.elim
            | exc _ _ _ => rw [hr] at q; exact q.elim
        · subst hkf
          exact q W' H' C d v l hs' hmg hfro rv
end
end Z

set_option Elab.async false
set_option linter.all false
set_option maxRecDepth 100000
set_option maxHeartbeats 4000000
/-! ZL0: a lambda called, where no repr is under way. -/
namespace Z
open PySem PySem.Spec PyProof.Rows L2 LamX
section
variable {X : Cx} {pins : List (Addr × Obj)} {σ : L2.St} {H : Hp} {s : Shared}
theorem lam_act {CXg : CXT} {Eg : XK} {Ng : List Str} {qg : Str} {sg : Scope} {g f c1 : Addr} {cdg pm ctv : Value} {params : Arguments} {body : Expr} {scope : Scope} {k i : Nat} {a : Str} {pn : List (Addr × Obj)} {xe : Value → Shared → Prop} {W : WX} {E : XK} {tb : TE} {p1 p2 : Pos}
    (I : Inv X pins σ H s) (L : LamS X.env.scope scope) (gd : X.A.guards = some []) (hf : s.heap.get? f = some (PySem.W.kla_obj "<lambda>" (X.env.qual ++ "<lambda>") params body scope (cloFrom X.env.cells scope.names []) pm c1 ctv)) (hn : H f = none) (hfr : f ∉ frs X.stack)
    (hbind : bindArgs (PySem.W.kla_fn "<lambda>" (X.env.qual ++ "<lambda>") params body scope (cloFrom X.env.cells scope.names []) pm (.ref c1) ctv) ⟨[], []⟩ = pure [])
    (tk : Takes ((cxOf CXg X.prog X.w X.K X.mg X.base Ng qg sg g cdg X.A X.stack s H Eg).tr pn xe) W) (hW : ∀ cls d σ1 H1, E cls d H1 → W cls d σ1 H1) (hr : Room (k + 1) (X.A.deeper (envOfC qg sg s.heap.objs.size g cdg)))
    (hbody : ∀ (A : Around) (outer : List Env) (s : Shared) (H : Hp), Room k (A.deeper (lamEnv X scope s.heap.objs.size f c1)) → (A.deeper (lamEnv X scope s.heap.objs.size f c1)).guards = some [] → PE (lamCx X A outer s H E scope f c1) body tb)
    (hN : Ng[i]? = some a) (hv : Vis sg a) (hd : (a == ("__debug__" : Str)) = false := by decide) (hcd : (a == ("__classdict__" : Str)) = false := by decide) :
    PE ((cxOf CXg X.prog X.w X.K X.mg X.base Ng qg sg g cdg X.A X.stack s H Eg).tr pn xe) (.Call (.Name a p1) [] [] p2) (fun σ2 H2 Q => σ2[i]? = some (some (.ref f)) ∧ H2 c1 = some (CodeO c1 (X.env.qual ++ "<lambda>")) ∧ tb σ H2 Q) := by
  refine ⟨fun pins2 s2 σ2 H2 Q I2 ⟨hs, hc, ht⟩ => wpAny_Call_Name_kw (thn ((pe_var (pos := p1) (i := i) hN hv hd hcd).run pins2 s2 σ2 H2 (fun v H1 => v = .ref f ∧ H1 = H2) I2 ⟨.ref f, hs, rfl, rfl⟩) fun u s1 got => ?_)⟩
  obtain ⟨v, H1, I1, r1, rfl, rfl⟩ := got
  obtain rfl : u = Value.ref f := r1
  have there : s1.heap.get? f = some (PySem.W.kla_obj "<lambda>" (X.env.qual ++ "<lambda>") params body scope (cloFrom X.env.cells scope.names []) pm c1 ctv) := I1.base.keep f _ hf hn hfr (fun z => nomatch (show f ∈ ([] : List Addr) from z))
  refine PySem.W.callWith_F0 ⟨_, _, _, _, there⟩ ?_
  have un : Un (frs X.stack) [] H H1 s.heap s1.heap := I1.base
  obtain ⟨⟨oc, vs, t, e1, e2, e3⟩, _, _⟩ := I1.hok c1 _ hc
  have runs : codeAny (model X.prog X.w) (X.A.deeper (envOfC qg sg s.heap.objs.size g cdg)) (.call (.ref f) ⟨[], []⟩) (CR (L2.CX X.prog X.w) (envOfC qg sg s.heap.objs.size g cdg :: X.stack) X.prog X.w H1 s1 Q E) s1 := by
    refine PySem.W.kla_callFunE hr.depth there rfl L.co L.gen rfl ⟨c1, oc, vs, t, rfl, e1, e2, e3⟩ ?_
    rw [hbind]
    refine wpAny_pure (wpAny_newFunctionEnv (fun y hy => (L.own y hy).2) (fun y hy => absurd hy (by simp)) (fun h₁ hns hsb => ⟨I1.nolimit.fresh _ hsb, ?_⟩) L.kind)
    change codeAny _ _ (.expr body (lamEnv X scope s1.heap.objs.size f c1)) _ _
    have keep : ∀ b o, s1.heap.get? b = some o → h₁.get? b = some o := fun b o e => hsb.extBut b o (Nat.ne_of_lt (Heap.lt_size e)) (Heap.get?_push_of_some _ e)
    have J := lam_start2 (A := X.A.deeper (envOfC qg sg s.heap.objs.size g cdg)) (outer := envOfC qg sg s.heap.objs.size g cdg :: X.stack) (s1 := s1) (HZ := H1) (E := E) (scope := scope) (f := f) (c' := c1) (h₁ := h₁) (tk := s1.toks + ([] : List (Str × Value)).length) I L I1.env0 hr.hd un hns keep
    refine PySem.W.kla_codeExpr (wpAny_mono ((hbody _ _ s1 H1 (hr.deeper _) gd).run [] _ _ H1 Q J ht) (fun v s3 fin => ?_) fun e s3 fin => fin)
    obtain ⟨w1, H3, J3, rv, q⟩ := fin
    exact ⟨w1, H3, J3.os, J3.bare, J3.base, J3.hok, rv, q⟩
  have pass : Passes (L2.CX X.prog X.w) ((cxOf CXg X.prog X.w X.K X.mg X.base Ng qg sg g cdg X.A X.stack s H Eg).tr pn xe) E := passes_call tk hW
  refine wpAny_call (codeAny_mono runs fun r s3 fin => ?_)
  cases r with
  | error e => exact pass pins2 σ2 H1 s1 e s3 I1 fin
  | ok fl =>
    cases fl with
    | ret u => exact I1.after fin
    | next => exact fin.elim
    | brk => exact fin.elim
    | cont => exact fin.elim
theorem lam_call {T : List (Addr × Str)} {TT : (XK → Hp → VK → Prop) → Hp → VK → Prop} {x a : Str} {g c P : Addr} {k : Nat} {pg : Arguments} {bg : List Stmt} {sg : Scope} {dV kV doc pm cdv ct oc : Value} {an od : Option Addr} {osl : Array (Option Value)} {Ng : List Str}
    {params : Arguments} {body : Expr} {scope : Scope} {t : XK → TE} {p lpos pos : Pos} (gd : X.A.guards = some []) (hg : Gl X x) (hm : X.mg x = some (.ref g)) (hk : PySem.W.keepIn X.K (.ref g) = true)
    (lk : X.K.lookup g = some ⟨oc, od, .func (PySem.W.fnOf x x pg bg sg dV kV doc pm an cdv ct), osl⟩) (hcg : PySem.W.codeIn X.K cdv x = true) (hb : L2.Binds X.K (PySem.W.fnOf x x pg bg sg dV kV doc pm an cdv ct) [a] []) (Sg : FnScope Ng [a] sg) (hNg : Ng[0]? = some a) (hva : Vis sg a)
    (hG : GivesTo X Ng x sg g cdv bg a (X.env.qual ++ "<lambda>") TT)
    (TB : TabB X.base X.mg c P) (hcode : X.env.code = .ref c) (hmT : (P, X.env.qual ++ "<lambda>") ∈ T) (hu : ∀ p ∈ T, p.1 = P → p.2 = X.env.qual ++ "<lambda>") (hr : Room (k + 2) X.A) (L : LamS X.env.scope scope) (hdef : defaultsOf params X.env = ([], []))
    (hbind : ∀ (q : Str) (cl : List (Str × Addr)) (pm cv ctv : Value), bindArgs (PySem.W.kla_fn "<lambda>" q params body scope cl pm cv ctv) ⟨[], []⟩ = pure [])
    (hbody : ∀ (A : Around) (outer : List Env) (s : Shared) (H : Hp) (E : XK) (f c1 : Addr), Room k (A.deeper (lamEnv X scope s.heap.objs.size f c1)) → (A.deeper (lamEnv X scope s.heap.objs.size f c1)).guards = some [] → PE (lamCx X A outer s H E scope f c1) body (t E))
    (hdb : (x == ("__debug__" : Str)) = false := by decide) (hd : (a == ("__debug__" : Str)) = false := by decide) (hcd : (a == ("__classdict__" : Str)) = false := by decide) :
    PE X (.Call (.Name x p) [.Lambda params body scope lpos] [] pos) (tLam T TT t) := by
  refine ⟨fun pins s σ H Q I ⟨hT, h⟩ => wpAny_Call_Name_kw (ld_glob I hg hm (PySem.W.callWith_K (h₀ := X.base) I.ok.mod.kin hk ?_ (by rfl) (by rfl)) hdb)⟩
  change wpAny _ _ (spliced ((false, eval (.Lambda params body scope lpos) X.env) :: backTo pos (starEach [] X.env))) _ _ s
  refine Calls.spliced_cons (lam_make2 I TB hcode hmT hu hT hdef (L.has I.ok) fun f c1 pm1 ctv H1 s1 I1 eN T1 hf hfn hfr hco => Calls.spliced_nil ⟨I1.kIn, ?_⟩)
  have runs : codeAny (model X.prog X.w) X.A (.call (.ref g) ⟨[.ref f], []⟩) (CR C8.CX0 X.stack X.prog X.w H1 s1 Q C8.E0) s1 := by
    refine run_ofS (N := Ng) (ps := [a]) (us := [.ref f]) (vs := [.ref f]) lk hcg Sg hr I1.env0 (hb s1 [.ref f] I1.kIn rfl) (.cons rfl .nil) rfl fun hr1 => ?_
    obtain ⟨t1, h1, q1⟩ := hG f c1 s1 H1 Q (fun E H' Q' => t E σ H' Q') (fun W pn xe E p1 p2 tk hW => lam_act (i := 0) I1 L gd hf hfn hfr (hbind _ _ _ _ _) tk hW hr1 (fun A outer s H hr2 g2 => hbody A outer s H E f c1 hr2 g2) hNg hva hd hcd) hco (h H1 eN T1)
    exact ⟨t1, h1.nox, q1⟩
  refine wpAny_call (codeAny_mono runs fun r s2 fin => ?_)
  cases r with
  | error e => exact (show False from fin).elim
  | ok fl =>
    cases fl with
    | ret u => exact I1.after fin
    | next => exact fin.elim
    | brk => exact fin.elim
    | cont => exact fin.elim
end
end Z

set_option Elab.async false
set_option linter.all false
set_option maxRecDepth 100000
set_option maxHeartbeats 4000000
/-! ZL2: f(lambda: e), the rule. -/
namespace Z
open PySem PySem.Spec PyProof.Rows L2
variable [LamT]
def TTz (X : Cx) (hd : Str → Option Bool) (h : Str → PV → EM) (n : Nat) (r : Str) : (XK → Hp → VK → Prop) → Hp → VK → Prop := fun tl H Q => ∃ (W : Wd) (s : S) (k : S → Rs PV),
  (∀ (E : XK) (H' : Hp) (Q' : VK) (W' : Wd) (s' : S), W.Le W' → StR (gx X) W' H' s' → Post (k s') (Cont (gx X) W' Q') (XW (gx X) W' E) → tl E H' Q') ∧ StR (gx X) W H s ∧ Post (triedM hd h n r k s) (Cont (gx X) W Q) (fun _ _ _ => False)
theorem gives_tried {X : Cx} {Ng : List Str} {x a q y n r : Str} {sg : Scope} {g cC : Addr} {cdg : Value} {i j k : Nat} {e : Expr} {hd : Str → Option Bool} {h : Str → PV → EM} {p1 p2 p3 p4 p5 p6 p7 p8 p9 : Pos}
    (hge : sg.names.lookup y = some .globalImplicit) (hme : X.mg y = some (.ref cC)) (hde : (y == ("__debug__" : Str)) = false) (hN : Ng.Nodup) (hi : Ng[i]? = some n) (hln : sg.names.lookup n = some .local) (h0 : 0 < Ng.length)
    (hex : ∀ c k C, hd c = some k → X.mg c = some (.ref C) → PySem.W.exmOne X.K (.ref C) (.ref cC) = some k)
    (hsu : ∀ (s : Shared) (H : Hp) c C a oe d y pn, hd c = some true → X.mg c = some (.ref C) → Zc (.ref C) (some d) oe → (∃ vs, oe.data = .fields vs) →
      PE ((cxOf C8.CX0 X.prog X.w X.K X.mg X.base Ng x sg g cdg X.A X.stack s H C8.E0).nox.suite a ((a, oe) :: pn)) e (tXE (PSu X.K a d i (xfld c) y) (gx X) (h c y))) :
    LamX.GivesTo X Ng x sg g cdg [.Try [.Return (some (.Tuple [.Constant (.str r) j p1, .Call (.Name a p2) [] [] p3] k p4)) p5] [.ExceptHandler (some (.Name y p6)) (some n) [.Return (some e) p7] p8] [] [] p9] a q (TTz X hd h Ng.length r) := by
  intro f c' s H Q tl act hc hTT
  obtain ⟨W, st, kk, imp, hst, post⟩ := hTT
  obtain ⟨W1, l1, hs1, hf1⟩ := hst.adopt (show H c' = some (.ext _) from hc)
  refine ⟨tPS (fun W2 σ => σ[0]? = some (some (.ref f)) ∧ W2.fro c' = some (LamX.CodeO c' q) ∧ W1.Le W2) (gx X) (fun _ _ _ => False) (sTryAs Ng.length hd (fun _ s => (kk s).bind fun v s1 => .ok (.ret (.tup [.str r, v])) s1) h),
    pss_one (ss_tryP (X := (cxOf C8.CX0 X.prog X.w X.K X.mg X.base Ng x sg g cdg X.A X.stack s H C8.E0).nox) rfl rfl hN hi hln ⟨hge, hde, .inl hme⟩ LamX.takes0 (fun pn xe Ex' tk ho => ?_) hex (hsu s H)), ?_⟩
  · refine pss_one (ps_weak (ps_ret (pe_tupN (pa_cons pe_str (pa_cons (act (fun cls d _ H => Ex' cls d H) pn xe Ex' p2 p3 tk fun _ _ _ _ z => z) pa_nil)))) fun D σ H2 ⟨W2, s2, env, ⟨hσ, hfro, hle⟩, he, hst2, z⟩ => ?_)
    refine ⟨hσ, hst2.fro _ _ hfro, imp Ex' H2 _ W2 s2 (l1.trans hle) hst2 (z.bind.mono (fun v s1 w W' H' u l hs' rv => ?_) fun _ _ _ w => w)⟩
    exact newT_ok hs' (.cons (.str r) (.cons rv .nil)) (v := .tup [.str r, v]) (if_pos (by simp)) fun W3 H3 u3 l3 => w W3 H3 u3 (l.trans l3)
  · have hl : (L2.start Ng [V.ref f]).length = Ng.length := by unfold L2.start; simp; omega
    refine ⟨W1, st, List.replicate Ng.length none, ⟨by unfold L2.start; rfl, hf1, Wd.Le.refl W1⟩, ⟨by rw [hl]; simp, fun j u z => ?_⟩, hs1, ?_⟩
    · rw [List.getElem?_replicate] at z
      split at z <;> cases z
    · unfold triedM at post
      unfold sTryAs
      cases hk : kk st with
      | ok v s1 =>
        rw [hk] at post
        simp only [hk, Rs.bind]
        exact fun W' H' u l => post W' H' u (l1.trans l)
      | fail => rw [hk] at post; exact post.elim
      | exc c y s1 =>
        rw [hk] at post
        simp only at post
        cases hh : hd c with
        | none => rw [hh] at post; exact post.elim
        | some b =>
          rw [hh] at post
          cases b with
          | false => exact post.elim
          | true =>
            simp only at post
            cases hv : h c y (List.replicate Ng.length none) s1 with
            | ok v s2 =>
              rw [hv] at post
              simp only [hk, Rs.bind, hh, hv]
              exact fun W' H' u l => post W' H' u (l1.trans l)
            | fail => rw [hv] at post; exact post.elim
            | exc _ _ _ => rw [hv] at post; exact post.elim
section
variable {X : Cx} {Ex : XK}
theorem se_tried {x a r : Str} {g c P : Addr} {k : Nat} {pg : Arguments} {bg : List Stmt} {sg : Scope} {dV kV doc pm cdv ct oc : Value} {an od : Option Addr} {osl : Array (Option Value)} {Ng : List Str} {hd : Str → Option Bool} {h : Str → PV → EM}
    {params : Arguments} {body : Expr} {scope : Scope} {m : EM} {nn : Nat} {p lpos pos : Pos} (gd : X.A.guards = some []) (hg : Gl X x) (hm : X.mg x = some (.ref g)) (hk : PySem.W.keepIn X.K (.ref g) = true)
    (lk : X.K.lookup g = some ⟨oc, od, .func (PySem.W.fnOf x x pg bg sg dV kV doc pm an cdv ct), osl⟩) (hcg : PySem.W.codeIn X.K cdv x = true) (hb : L2.Binds X.K (PySem.W.fnOf x x pg bg sg dV kV doc pm an cdv ct) [a] []) (Sg : FnScope Ng [a] sg) (hNg : Ng[0]? = some a) (hva : Vis sg a)
    (hG : LamX.GivesTo X Ng x sg g cdv bg a (X.env.qual ++ "<lambda>") (TTz X hd h Ng.length r))
    (TB : LamX.TabB X.base X.mg c P) (hcode : X.env.code = .ref c) (hmT : (P, X.env.qual ++ "<lambda>") ∈ LamT.T) (hu : ∀ p ∈ LamT.T, p.1 = P → p.2 = X.env.qual ++ "<lambda>") (hr : Room (k + 2) X.A) (L : LamX.LamS X.env.scope scope) (hdef : defaultsOf params X.env = ([], []))
    (hbind : ∀ (q : Str) (cl : List (Str × Addr)) (pm cv ctv : Value), bindArgs (PySem.W.kla_fn "<lambda>" q params body scope cl pm cv ctv) ⟨[], []⟩ = pure [])
    (hbody : ∀ (A : Around) (outer : List Env) (s : Shared) (H : Hp) (E : XK) (f c' : Addr), Room k (A.deeper (LamX.lamEnv X scope s.heap.objs.size f c')) → (A.deeper (LamX.lamEnv X scope s.heap.objs.size f c')).guards = some [] → PE (LamX.lamCx X A outer s H E scope f c') body (tE (gx X) E m))
    (hdb : (x == ("__debug__" : Str)) = false := by decide) (hnn : Ng.length = nn := by rfl) (hd1 : (a == ("__debug__" : Str)) = false := by decide) (hcd : (a == ("__classdict__" : Str)) = false := by decide) :
    PE X (.Call (.Name x p) [.Lambda params body scope lpos] [] pos) (tE (gx X) Ex (eTried hd h nn r m)) := by
  subst hnn
  refine pe_weak (lam_call (T := LamT.T) gd hg hm hk lk hcg hb Sg hNg hva hG TB hcode hmT hu hr L hdef hbind (t := fun E => tE (gx X) E m) hbody hdb hd1 hcd) fun σ H Q ⟨W, s, env, he, hs, z⟩ => ⟨hs.tab, fun H1 hx ht => ?_⟩
  refine ⟨W, s, fun s => m env s, fun E H' Q' W' s' l hs' post => ⟨W', s', env, he.mono l, hs', post⟩, hs.extN hx ht, ?_⟩
  unfold eTried at z
  cases hr : triedM hd h Ng.length r (fun s => m env s) s with
  | ok v s1 => rw [hr] at z; exact z
  | fail => rw [hr] at z; exact z.elim
  | exc c y s1 =>
    unfold triedM at hr
    split at hr
    · cases hr
    · split at hr
      · split at hr <;> cases hr
      · cases hr
    · cases hr
end
/-- a def by its body, its code told -/
theorem fnz_ofC {P : Program} {w : World} {K : PySem.W.Frag} {mg : Str → Option Value} {base : Heap} {CX : CXT} {k : Nat} {a : Addr} {fd : FuncData} {ps : List Str} {x qual : Str} {params : Arguments} {body : List Stmt} {scope : Scope} {dvs : List V} {kws : List (Str × V)} {N : List Str} {m : SM} (F : FunD K x qual params body scope dvs kws a fd) (Sc : FnScope N ps scope)
    (hb : ∀ (A : Around) (outer : List Env) (sh : Shared) (H : Hp) (E : XK), Room k (A.deeper (envOfC qual scope sh.heap.objs.size a fd.code)) → (A.deeper (envOfC qual scope sh.heap.objs.size a fd.code)).guards = some [] →
      PSs (cxOf CX P w K mg base N qual scope a fd.code A outer sh H E) body (tS ⟨K, mg⟩ E m)) : FnZ P w K mg base CX (k + 1) a fd ps (fnM ps.length N m) := by
  obtain ⟨oc, od, dV, kV, doc, pm, an, cdv, ct, osl, rfl, lk, hcd, _, _⟩ := F.ex
  refine ⟨fun pvs s h => if_neg h, fun A outer sh H args us vs Q E room gd e0 bd rel hsp => ?_⟩
  obtain ⟨W, s, pvs, rp, st, post⟩ := hsp
  unfold fnM at post
  by_cases hn : pvs.length = ps.length
  case neg => rw [if_neg hn] at post; exact post.elim
  rw [if_pos hn] at post
  have hlen : vs.length = ps.length := by rw [← rp.length]; exact hn
  have kin := e0.mod.kin.keeps fun b o e => (e0.bs b o e).1
  have names : ∀ y ∈ ps.zip us, scope.names.lookup y.1 = some .local ∨ (scope.names.lookup y.1 = some .cell ∧ ((cellsFrom (sh.heap.objs.size + 1) scope.names []).lookup y.1).isSome = true) := by
    rintro ⟨n, v⟩ hy
    rcases Sc.par n (List.of_mem_zip hy).1 with q | q
    · exact .inl q
    · exact .inr ⟨q, PySem.W.cellsFrom_some _ _ _ (.inl q)⟩
  refine codeAny_call_function room.depth (kin _ _ lk) rfl Sc.co Sc.gen rfl (PySem.W.codeRec_of kin hcd) (bd _ _ _ _ (wpAny_newFunctionEnv_cells Sc.kind names fun env he s1 inn => ?_))
  subst he
  refine ⟨(e0.mod.nolimit.keeps fun b o e => (e0.bs b o e).1).keeps inn.toInCall.keep, codeAny_func ?_⟩
  have start := inv_start (CX := CX) (E := E) Sc room.hd e0 hlen rel inn
  have body := (hb A outer sh H E (room.deeper _) gd).run [] s1 (L2.start N vs) H { nx := fun _ H' => Q .non H', rt := Q } start
    ⟨W, s, startE N pvs, EnvR.start rp, st, post.bind.mono (fun fl s' q => by
      cases fl with
      | nx e => exact fun W' H' σ' l hs _ => q W' H' .non l hs .non
      | ret v => exact q
      | brk e => exact q.elim
      | cnt e => exact q.elim) fun _ _ _ z => z⟩
  refine wpAny_mono body (fun fl s' fin => ?_) fun e s' h => h
  cases fl with
  | ret u => obtain ⟨v, σ', H', J, rv, q⟩ := fin; exact ⟨v, H', J.os, J.bare, J.base, J.hok, rv, q⟩
  | next => obtain ⟨σ', H', J, q⟩ := fin; exact ⟨.non, H', J.os, J.bare, J.base, J.hok, rfl, q⟩
  | brk => obtain ⟨_, _, _, q⟩ := fin; exact q.elim
  | cont => obtain ⟨_, _, _, q⟩ := fin; exact q.elim
/-- what a callee lets out is taken -/
theorem passE {P : Program} {w : World} {K : PySem.W.Frag} {mg : Str → Option Value} {base : Heap} {N : List Str} {qual : Str} {scope : Scope} {a : Addr} {cdv : Value} {A : Around} {outer : List Env} {sh : Shared} {H : Hp} {E : XK} :
    Passes (L2.CX P w) (cxOf (L2.CX P w) P w K mg base N qual scope a cdv A outer sh H E) E := passes_call (takes_of rfl rfl rfl rfl) fun _ _ _ _ h => h
theorem takesE {P : Program} {w : World} {K : PySem.W.Frag} {mg : Str → Option Value} {base : Heap} {N : List Str} {qual : Str} {scope : Scope} {a : Addr} {cdv : Value} {A : Around} {outer : List Env} {sh : Shared} {H : Hp} {E : XK} :
    Takes (cxOf (L2.CX P w) P w K mg base N qual scope a cdv A outer sh H E) (fun cls d _ H => E cls d H) := takes_of rfl rfl rfl rfl
theorem ownE {P : Program} {w : World} {K : PySem.W.Frag} {mg : Str → Option Value} {base : Heap} {N : List Str} {qual : Str} {scope : Scope} {a : Addr} {cdv : Value} {A : Around} {outer : List Env} {sh : Shared} {H : Hp} {E : XK} {X : Cx} (e : X = cxOf (L2.CX P w) P w K mg base N qual scope a cdv A outer sh H E := by rfl) :
    PassesOwn (model X.prog X.w) X.A X.env X.xe := by
  subst e
  exact passes_of rfl
/-- .. out of a lambda's body -/
theorem passL {X : Cx} {A : Around} {outer : List Env} {s : Shared} {H : Hp} {E : XK} {scope : Scope} {f c1 : Addr} {CX : CXT} (h : CX = L2.CX X.prog X.w := by rfl) : Passes CX (LamX.lamCx X A outer s H E scope f c1) E := by
  subst h
  exact passes_call (takes_of rfl rfl rfl rfl) fun _ _ _ _ h => h
end Z

set_option Elab.async false
set_option linter.all false
set_option maxRecDepth 100000
set_option maxHeartbeats 4000000
/-! ZM1: try .. except X as e: suites of any statements; defs that try what they are handed. -/
namespace Z
open PySem PySem.Spec PyProof.Rows L2
variable [LamT]
/-! ### something known all the while, exceptions let out -/
def tPE (P : Wd → L2.St → Prop) (g : G) (Ex : XK) (m : EM) : TE := fun σ H Q => ∃ W s env, P W σ ∧ EnvR g.K W env σ ∧ StR g W H s ∧ Post (m env s) (Cont g W Q) (XW g W Ex)
def tPA (P : Wd → L2.St → Prop) (g : G) (Ex : XK) (m : AM) : TA := fun σ H Q => ∃ W s env, P W σ ∧ EnvR g.K W env σ ∧ StR g W H s ∧ Post (m env s) (fun vs s' => ∀ W' H' us, W.Le W' → StR g W' H' s' → Reps g.K W' vs us → Q us H') (XW g W Ex)
def tPT (P : Wd → L2.St → Prop) (g : G) (Ex : XK) (m : TM) : TT := fun σ H Q => ∃ W s env, P W σ ∧ EnvR g.K W env σ ∧ StR g W H s ∧ Post (m env s) (fun b s' => ∀ W' H', W.Le W' → StR g W' H' s' → Q b H') (XW g W Ex)
def FlX (P : Wd → L2.St → Prop) (g : G) (W : Wd) (D : Ends) (f : Fl) (s : S) : Prop :=
  match f with
  | .nx env => ∀ W' H' σ', W.Le W' → StR g W' H' s → P W' σ' → EnvR g.K W' env σ' → D.nx σ' H'
  | .ret v => ∀ W' H' u, W.Le W' → StR g W' H' s → Rep g.K W' v u → D.rt u H'
  | .brk env => ∀ W' H' σ', W.Le W' → StR g W' H' s → EnvR g.K W' env σ' → D.bk σ' H'
  | .cnt env => ∀ W' H' σ', W.Le W' → StR g W' H' s → EnvR g.K W' env σ' → D.ct σ' H'
theorem FlC.x {P : Wd → L2.St → Prop} {g : G} {W : Wd} {D : Ends} {f : Fl} {s : S} (h : FlC g W D f s) : FlX P g W D f s := by
  cases f with
  | nx env => exact fun W' H' σ' l hs _ he => h W' H' σ' l hs he
  | ret v => exact h
  | brk env => exact h
  | cnt env => exact h
theorem FlX.mono {P : Wd → L2.St → Prop} {g : G} {W W1 : Wd} {D : Ends} {f : Fl} {s : S} (h : FlX P g W D f s) (l : W.Le W1) : FlX P g W1 D f s := by
  cases f with
  | nx env => exact fun W' H' σ' l' => h W' H' σ' (l.trans l')
  | ret v => exact fun W' H' u l' => h W' H' u (l.trans l')
  | brk env => exact fun W' H' σ' l' => h W' H' σ' (l.trans l')
  | cnt env => exact fun W' H' σ' l' => h W' H' σ' (l.trans l')
/-- it is known on at the end, too -/
def tXS (P : Wd → L2.St → Prop) (g : G) (Ex : XK) (m : SM) : TS := fun D σ H => ∃ W s env, P W σ ∧ EnvR g.K W env σ ∧ StR g W H s ∧ Post (m env s) (FlX P g W D) (XW g W Ex)
/-- it is known at the beginning -/
def tP0 (P : Wd → L2.St → Prop) (g : G) (Ex : XK) (m : SM) : TS := fun D σ H => ∃ W s env, P W σ ∧ EnvR g.K W env σ ∧ StR g W H s ∧ Post (m env s) (FlC g W D) (XW g W Ex)
section
variable {P : Wd → L2.St → Prop} {g : G} {W : Wd} {s : S} {env : En} {σ : L2.St} {H : Hp} {Ex : XK}
theorem tPE_bind {α : Type} {m : EM} {k : PV → S → Rs α} {Q : α → S → Prop} {R : VK} (hP : MonP P) (p : P W σ) (he : EnvR g.K W env σ) (hs : StR g W H s) (h : Post ((m env s).bind k) Q (XW g W Ex))
    (hk : ∀ v s1 W1 H1 u, W.Le W1 → P W1 σ → EnvR g.K W1 env σ → StR g W1 H1 s1 → Rep g.K W1 v u → Post (k v s1) Q (XW g W1 Ex) → R u H1) : tPE P g Ex m σ H R :=
  ⟨W, s, env, p, he, hs, h.bind.mono (fun v s1 q W1 H1 u l hs1 r => hk v s1 W1 H1 u l (hP _ _ _ l p) (he.mono l) hs1 r (q.mono (fun _ _ z => z) fun _ _ _ z => z.mono l)) fun _ _ _ z => z⟩
theorem tPA_bind {α : Type} {m : AM} {k : List PV → S → Rs α} {Q : α → S → Prop} {R : List V → Hp → Prop} (hP : MonP P) (p : P W σ) (he : EnvR g.K W env σ) (hs : StR g W H s) (h : Post ((m env s).bind k) Q (XW g W Ex))
    (hk : ∀ v s1 W1 H1 u, W.Le W1 → P W1 σ → EnvR g.K W1 env σ → StR g W1 H1 s1 → Reps g.K W1 v u → Post (k v s1) Q (XW g W1 Ex) → R u H1) : tPA P g Ex m σ H R :=
  ⟨W, s, env, p, he, hs, h.bind.mono (fun v s1 q W1 H1 u l hs1 r => hk v s1 W1 H1 u l (hP _ _ _ l p) (he.mono l) hs1 r (q.mono (fun _ _ z => z) fun _ _ _ z => z.mono l)) fun _ _ _ z => z⟩
theorem tPT_bind {α : Type} {m : TM} {k : Bool → S → Rs α} {Q : α → S → Prop} {R : Bool → Hp → Prop} (hP : MonP P) (p : P W σ) (he : EnvR g.K W env σ) (hs : StR g W H s) (h : Post ((m env s).bind k) Q (XW g W Ex))
    (hk : ∀ v s1 W1 H1, W.Le W1 → P W1 σ → EnvR g.K W1 env σ → StR g W1 H1 s1 → Post (k v s1) Q (XW g W1 Ex) → R v H1) : tPT P g Ex m σ H R :=
  ⟨W, s, env, p, he, hs, h.bind.mono (fun v s1 q W1 H1 l hs1 => hk v s1 W1 H1 l (hP _ _ _ l p) (he.mono l) hs1 (q.mono (fun _ _ z => z) fun _ _ _ z => z.mono l)) fun _ _ _ z => z⟩
end
section
variable {X : Cx} {P : Wd → L2.St → Prop} {Ex : XK} {pos : Pos}
theorem sp_lift {e : Expr} {m : EM} (h : PE X e (tE (gx X) Ex m)) : PE X e (tPE P (gx X) Ex m) := pe_weak h fun σ H Q ⟨W, s, env, _, he, hs, q⟩ => ⟨W, s, env, he, hs, q⟩
theorem sp_k {e : Expr} {x : PV} (h : PE X e (tXE P (gx X) (eK x))) : PE X e (tPE P (gx X) Ex (eK x)) := pe_weak h fun σ H Q ⟨W, s, env, p, he, hs, q⟩ => ⟨W, s, env, p, he, hs, q⟩
theorem sp_tlift {e : Expr} {m : TM} (h : PT X e (tT (gx X) Ex m)) : PT X e (tPT P (gx X) Ex m) := pt_weak h fun σ H Q ⟨W, s, env, _, he, hs, q⟩ => ⟨W, s, env, he, hs, q⟩
theorem spa_nil : PA X [] (tPA P (gx X) Ex aNil) := pa_weak pa_nil fun σ H Q ⟨W, s, env, p, he, hs, h⟩ => h W H [] (Wd.Le.refl W) hs .nil
theorem spa_cons (hP : MonP P) {e : Expr} {es : List Expr} {m : EM} {ms : AM} (ha : PE X e (tPE P (gx X) Ex m)) (hr : PA X es (tPA P (gx X) Ex ms)) (hs : starEach (e :: es) X.env = (false, eval e X.env) :: starEach es X.env := by rfl) : PA X (e :: es) (tPA P (gx X) Ex (aCons m ms)) := by
  refine pa_weak (pa_cons ha hr hs) fun σ H Q ⟨W, s, env, p, he, hs, h⟩ => ?_
  refine tPE_bind hP p he hs h fun x s1 W1 H1 u l1 p1 he1 hs1 r1 h1 => ?_
  refine tPA_bind hP p1 he1 hs1 h1 fun xs s2 W2 H2 us l2 p2 he2 hs2 r2 h2 => ?_
  exact h2 W2 H2 _ (l1.trans l2) hs2 (.cons (r1.mono l2) r2)
theorem sp_tup (hP : MonP P) {es : List Expr} {m : AM} {x1} (h : PA X es (tPA P (gx X) Ex m)) : PE X (.Tuple es x1 pos) (tPE P (gx X) Ex (eTup m)) := by
  refine pe_weak (pe_tupN h) fun σ H Q ⟨W, s, env, p, he, hs, h⟩ => ?_
  refine tPA_bind hP p he hs h fun xs s1 W1 H1 us l1 p1 he1 hs1 r1 h1 => ?_
  obtain ⟨v, s', e, hc⟩ := h1.lift
  exact newT_ok hs1 r1 e (hc.mono l1)
theorem sp_lst (hP : MonP P) {es : List Expr} {m : AM} (mu : Bool) (h : PA X es (tPA P (gx X) Ex m)) : PE X (.List es pos) (tPE P (gx X) Ex (eLst mu m)) := by
  refine pe_weak (pe_lst h) fun σ H Q ⟨W, s, env, p, he, hs, h⟩ => ?_
  refine tPA_bind hP p he hs h fun xs s1 W1 H1 us l1 p1 he1 hs1 r1 h1 => ?_
  obtain ⟨v, s', e, hc⟩ := h1.lift
  exact newL_ok hs1 r1 e (hc.mono l1)
theorem sp_callB (hP : MonP P) {x : Str} {id : String} {p : Pos} {e : Expr} {es : List Expr} {f : OL} {m : AM} (hc : CallR X (.builtin id) (rL (gx X) f)) (hg : Gl X x) (hm : X.mg x = none) (hv : bootBuiltins x = some (.builtin id)) (ha : PA X (e :: es) (tPA P (gx X) Ex m))
    (hn : x ≠ "__name__" := by decide) (hdb : (x == ("__debug__" : Str)) = false := by decide) (he : starEach (e :: es) X.env = (false, eval e X.env) :: starEach es X.env := by rfl) (hpl : (backTo pos (starEach es X.env)).any (·.1) = false := by rfl) :
    PE X (.Call (.Name x p) (e :: es) [] pos) (tPE P (gx X) Ex (eLs f m)) := pe_weak (pe_callB hc hg hm hv ha hn hdb he hpl) fun σ H Q ⟨W, s, env, pp, he, hs, h⟩ => by
  refine tPA_bind hP pp he hs h fun xs s1 W1 H1 us l1 p1 he1 hs1 r1 h1 => ?_
  obtain ⟨v, s', e, hc⟩ := h1.lift
  exact ⟨W1, s1, xs, v, s', r1, hs1, e, hc.mono l1⟩
theorem sp_op (hP : MonP P) {op : Operator} {f : O2} {a b : Expr} {ma mb : EM} (ho : OpR X (binaryOp op) (rM (gx X) f)) (ha : PE X a (tPE P (gx X) Ex ma)) (hb : PE X b (tPE P (gx X) Ex mb)) : PE X (.BinOp a op b pos) (tPE P (gx X) Ex (eOp f ma mb)) := by
  refine pe_weak (pe_op ho ha hb) fun σ H Q ⟨W, s, env, p, he, hs, h⟩ => ?_
  refine tPE_bind hP p he hs h fun x s1 W1 H1 u l1 p1 he1 hs1 r1 h1 => ?_
  refine tPE_bind hP p1 he1 hs1 h1 fun y s2 W2 H2 u2 l2 p2 he2 hs2 r2 h2 => ?_
  obtain ⟨v, s', e, hc⟩ := h2.lift
  exact ⟨W2, s2, x, y, v, s', r1.mono l2, r2, hs2, e, hc.mono (l1.trans l2)⟩
theorem sp_cmp (hP : MonP P) {op : CmpOp} {f : O2} {a b : Expr} {ma mb : EM} (ho : OpR X (compareOp op) (rM (gx X) f)) (ha : PE X a (tPE P (gx X) Ex ma)) (hb : PE X b (tPE P (gx X) Ex mb)) (hm : behindInMarks op b = false) : PE X (.Compare a [op] [b] pos) (tPE P (gx X) Ex (eOp f ma mb)) := by
  refine pe_weak (pe_cmpR ho ha hb hm) fun σ H Q ⟨W, s, env, p, he, hs, h⟩ => ?_
  refine tPE_bind hP p he hs h fun x s1 W1 H1 u l1 p1 he1 hs1 r1 h1 => ?_
  refine tPE_bind hP p1 he1 hs1 h1 fun y s2 W2 H2 u2 l2 p2 he2 hs2 r2 h2 => ?_
  obtain ⟨v, s', e, hc⟩ := h2.lift
  exact ⟨W2, s2, x, y, v, s', r1.mono l2, r2, hs2, e, hc.mono (l1.trans l2)⟩
theorem tPE_bl (hP : MonP P) {m : EM} {σ : L2.St} {H : Hp} {Q : Bool → Hp → Prop} (h : tPT P (gx X) Ex (tB m) σ H Q) : tPE P (gx X) Ex m σ H (fun x H1 => ∃ k, x = .bl k ∧ Q k H1) := by
  obtain ⟨W, s, env, p, he, hs, h⟩ := h
  refine tPE_bind hP p he hs h fun x s1 W1 H1 u l1 p1 he1 hs1 r1 h1 => ?_
  cases x with
  | bl k => cases r1; exact ⟨k, rfl, h1 W1 H1 l1 hs1⟩
  | _ => exact h1.elim
theorem spt_val (hP : MonP P) {a : Expr} {m : EM} (h : PE X a (tPE P (gx X) Ex m)) (he : ∀ whole, isTrue a X.env whole = (do let v ← whole; standAt a.pos; holding [v] (truthy v)) := by intro _; rfl) : PT X a (tPT P (gx X) Ex (tB m)) :=
  pt_weak (pt_val h he) fun _ _ _ q => tPE_bl hP q
theorem sp_if (hP : MonP P) {c a b : Expr} {mc : TM} {ma mb : EM} (hc : PT X c (tPT P (gx X) Ex mc)) (ha : PE X a (tPE P (gx X) Ex ma)) (hb : PE X b (tPE P (gx X) Ex mb)) : PE X (.IfExp c a b pos) (tPE P (gx X) Ex (eIf mc ma mb)) := by
  refine pe_weak (pe_ifExp hc ha hb) fun σ H Q ⟨W, s, env, p, he, hs, h⟩ => ?_
  refine tPT_bind hP p he hs h fun k s1 W1 H1 l1 p1 he1 hs1 h1 => ?_
  cases k with
  | true => rw [if_pos rfl]; exact ⟨W1, s1, env, p1, he1, hs1, Post.mono h1 (fun _ _ z => z.mono l1) fun _ _ _ z => z⟩
  | false => rw [if_neg Bool.false_ne_true]; exact ⟨W1, s1, env, p1, he1, hs1, Post.mono h1 (fun _ _ z => z.mono l1) fun _ _ _ z => z⟩
/-! ### statements -/
theorem xs_p0 {st : Stmt} {a : SM} (h : PS X st (tXS P (gx X) Ex a)) : PS X st (tP0 P (gx X) Ex a) := ps_weak h fun D σ H ⟨W, s, env, p, he, hs, q⟩ => ⟨W, s, env, p, he, hs, q.mono (fun _ _ z => z.x) fun _ _ _ z => z⟩
theorem sp_slift {st : Stmt} {a : SM} (h : PS X st (tS (gx X) Ex a)) : PS X st (tP0 P (gx X) Ex a) := ps_weak h fun D σ H ⟨W, s, env, _, he, hs, q⟩ => ⟨W, s, env, he, hs, q⟩
theorem sp_ret {e : Expr} {m : EM} (hP : MonP P) (he : PE X e (tPE P (gx X) Ex m)) : PS X (.Return (some e) pos) (tXS P (gx X) Ex (sRet m)) := by
  refine ps_weak (ps_ret he) fun D σ H ⟨W, s, env, p, hE, hs, h⟩ => ?_
  exact tPE_bind hP p hE hs h fun v s1 W1 H1 u l1 p1 he1 hs1 r1 h1 => h1 W1 H1 u l1 hs1 r1
theorem sp_expr {e : Expr} {m : EM} (hP : MonP P) (he : PE X e (tPE P (gx X) Ex m)) (hsw : swapsWith e none pos.line X.env = pure false := by rfl) : PS X (.Expr e pos) (tXS P (gx X) Ex (sExpr m)) := by
  refine ps_weak (ps_expr he hsw) fun D σ H ⟨W, s, env, p, hE, hs, h⟩ => ?_
  exact tPE_bind hP p hE hs h fun v s1 W1 H1 u l1 p1 he1 hs1 r1 h1 => h1 W1 H1 σ l1 hs1 p1 he1
/-- what is known says nothing of slot i -/
def FreeP (P : Wd → L2.St → Prop) (i : Nat) : Prop := ∀ W σ u, P W σ → P W (σ.set i u)
theorem sp_set {i : Nat} {x : Str} {pos' : Pos} {e : Expr} {m : EM} (hP : MonP P) (hF : FreeP P i) (hN : X.N.Nodup) (hi : X.N[i]? = some x) (hx : Loc X.env.scope x) (hf : X.fn x = true ∨ X.env.scope.names.lookup x = some .local) (he : PE X e (tPE P (gx X) Ex m)) (hsw : swapsWith e (some (.Name x pos')) pos.line X.env = pure false := by rfl) :
    PS X (.Assign [.Name x pos'] e pos) (tXS P (gx X) Ex (sAsg m (mName i))) := by
  refine ps_weak (ps_set hN hi hx he hsw hf) fun D σ H ⟨W, s, env, p, hE, hs, h⟩ => ?_
  refine tPE_bind hP p hE hs h fun v s1 W1 H1 u l1 p1 he1 hs1 r1 h1 => ?_
  have h1 : FlX P (gx X) W D (.nx (env.set i (some v))) s1 := h1
  exact h1 W1 H1 _ l1 hs1 (hF _ _ _ p1) (he1.set i r1)
theorem sps_cons {st : Stmt} {rest : List Stmt} {a b : SM} (h1 : PS X st (tXS P (gx X) Ex a)) (h2 : PSs X rest (tXS P (gx X) Ex b)) : PSs X (st :: rest) (tXS P (gx X) Ex (sSeq a b)) := by
  refine pss_weak (pss_cons h1 h2) fun D σ H ⟨W, s, env, p, he, hs, h⟩ => ⟨W, s, env, p, he, hs, h.bind.mono (fun f s1 q => ?_) fun _ _ _ z => z⟩
  cases f with
  | nx e => exact fun W' H' σ' l q' p1 pe => ⟨W', s1, e, p1, pe, q', Post.mono q (fun f s z => z.mono l) fun _ _ _ z => z.mono l⟩
  | ret v => exact q
  | brk e => exact q
  | cnt e => exact q
theorem sps_consx {st : Stmt} {rest : List Stmt} {a b : SM} (h1 : PS X st (tXS P (gx X) Ex a)) (h2 : PSs X rest (tP0 P (gx X) Ex b)) : PSs X (st :: rest) (tP0 P (gx X) Ex (sSeq a b)) := by
  refine pss_weak (pss_cons h1 h2) fun D σ H ⟨W, s, env, p, he, hs, h⟩ => ⟨W, s, env, p, he, hs, h.bind.mono (fun f s1 q => ?_) fun _ _ _ z => z⟩
  cases f with
  | nx e => exact fun W' H' σ' l q' p1 pe => ⟨W', s1, e, p1, pe, q', Post.mono q (fun f s z => z.mono l) fun _ _ _ z => z.mono l⟩
  | ret v => exact q
  | brk e => exact q
  | cnt e => exact q
theorem sps_cons0 {st : Stmt} {rest : List Stmt} {a b : SM} (h1 : PS X st (tP0 P (gx X) Ex a)) (h2 : PSs X rest (tS (gx X) Ex b)) : PSs X (st :: rest) (tP0 P (gx X) Ex (sSeq a b)) := by
  refine pss_weak (pss_cons h1 h2) fun D σ H ⟨W, s, env, p, he, hs, h⟩ => ⟨W, s, env, p, he, hs, h.bind.mono (fun f s1 q => ?_) fun _ _ _ z => z⟩
  cases f with
  | nx e => exact fun W' H' σ' l q' pe => ⟨W', s1, e, pe, q', Post.mono q (fun f s z => z.mono l) fun _ _ _ z => z.mono l⟩
  | ret v => exact q
  | brk e => exact q
  | cnt e => exact q
theorem sps_one {st : Stmt} {a : SM} (h1 : PS X st (tXS P (gx X) Ex a)) : PSs X [st] (tXS P (gx X) Ex a) := pss_one h1
theorem sps_one0 {st : Stmt} {a : SM} (h1 : PS X st (tP0 P (gx X) Ex a)) : PSs X [st] (tP0 P (gx X) Ex a) := pss_one h1
end
/-! ### try -/
def unE (i : Nat) : Fl → Fl
  | .nx e => .nx (e.set i none)
  | .brk e => .brk (e.set i none)
  | .cnt e => .cnt (e.set i none)
  | .ret v => .ret v
/-- the error stands at slot i of n; what catches c: hd; the suite: h -/
def sTryG (i n : Nat) (hd : Str → Option Bool) (b : SM) (h : Str → PV → SM) : SM := fun env s =>
  match b env s with
  | .exc c x s1 => match hd c with
    | some true => match h c x (List.replicate n none) s1 with
      | .ok f s2 => .ok (unE i f) s2
      | _ => .fail
    | some false => .exc c x s1
    | none => .fail
  | r => r
section
variable {X : Cx} {Ex : XK} {x n : Str} {cC : Addr} {i : Nat} {body suite : List Stmt} {b₀ : Stmt} {b : SM} {h : Str → PV → SM} {hd : Str → Option Bool} {np pos pos' : Pos} {P : Wd → L2.St → Prop}
theorem ss_tryG (hs : X.stack = X.env :: X.outer) (hf : X.env.frame = some X.env.locals) (hN : X.N.Nodup) (hi : X.N[i]? = some n) (hln : X.env.kindOf n = some .local) (hc : Names X x (.ref cC)) (tk : Takes X (fun cls d _ H => Ex cls d H))
    (hb : ∀ (pn : List (Addr × Obj)) (xe : Value → Shared → Prop) (Ex' : XK), Takes (X.tr pn xe) (fun cls d _ H => Ex' cls d H) → PassesOwn (model X.prog X.w) X.A X.env xe → PSs (X.tr pn xe) body (tP0 P (gx X) Ex' b))
    (hex : ∀ c k C, hd c = some k → X.mg c = some (.ref C) → PySem.W.exmOne X.K (.ref C) (.ref cC) = some k)
    (hsu : ∀ c C a oe d y pn, hd c = some true → X.mg c = some (.ref C) → Zc (.ref C) (some d) oe → (∃ vs, oe.data = .fields vs) → PSs (X.suite a ((a, oe) :: pn)) (b₀ :: suite) (tXS (PSu X.K a d i (xfld c) y) (gx X) (fun _ _ _ => False) (h c y))) :
    PS X (.Try body [.ExceptHandler (some (.Name x np)) (some n) (b₀ :: suite) pos'] [] [] pos) (tP0 P (gx X) Ex (sTryG i X.N.length hd b h)) := by
  refine ps_weak (ps_try_as (pos := pos) (pos' := pos') (np := np) (suite := suite) (b₀ := b₀) hs hf hN hi hln hc tk (tb := fun W => tP0 P (gx X) (fun cls d H => ∀ σ' : L2.St, σ'.length = X.N.length → W cls d σ' H) b)
    (ts := fun a cls d D σ H => ∃ c C dd y, hd c = some true ∧ X.mg c = some (.ref C) ∧ cls = .ref C ∧ d = some dd ∧ tXS (PSu X.K a dd i (xfld c) y) (gx X) (fun _ _ _ => False) (h c y) D σ H)
    (fun W pn xe tkW ho => hb pn xe _ (takes_len tkW) ho) fun a oe cls d pn hz hfl => ⟨fun pins s σ H D I ⟨c, C, dd, y, q1, q2, q3, q4, q5⟩ => ?_⟩) fun D σ H ⟨W, s, env, hp, he, hst, q⟩ => ?_
  · subst q3 q4
    exact (hsu c C a oe dd y pn q1 q2 hz hfl).run pins s σ H D I q5
  · refine ⟨W, s, env, hp, he, hst, ?_⟩
    unfold sTryG at q
    cases hm : b env s with
    | ok fl s1 => rw [hm] at q; exact q
    | fail => rw [hm] at q; exact q.elim
    | exc c y s1 =>
      rw [hm] at q
      simp only at q
      cases hk : hd c with
      | none => rw [hk] at q; exact q.elim
      | some k =>
        rw [hk] at q
        refine fun W' H' C d v l hs' hmg hfro rv σ' hlen => ⟨k, hex c k C hk hmg, fun hkt a na => ?_, fun hkf => ?_⟩
        · subst hkt
          simp only at q
          have hil : i < σ'.length := by
            rw [hlen]
            exact (List.getElem?_eq_some_iff.mp hi).1
          refine ⟨c, C, d, y, hk, hmg, rfl, rfl, W', s1, List.replicate X.N.length none, ⟨List.getElem?_set_self hil, v, hfro, rv⟩, ⟨by simp [hlen], fun j u z => ?_⟩, hs', ?_⟩
          · rw [List.getElem?_replicate] at z
            split at z <;> cases z
          · cases hr : h c y (List.replicate X.N.length none) s1 with
            | ok f s2 =>
              rw [hr] at q
              cases f with
              | nx e => exact fun W2 H2 σ2 l2 st2 _ e2 => q W2 H2 _ (l.trans l2) st2 (e2.unset i)
              | ret u => exact fun W2 H2 u2 l2 => q W2 H2 u2 (l.trans l2)
              | brk e => exact fun W2 H2 σ2 l2 st2 e2 => q W2 H2 _ (l.trans l2) st2 (e2.unset i)
              | cnt e => exact fun W2 H2 σ2 l2 st2 e2 => q W2 H2 _ (l.trans l2) st2 (e2.unset i)
            | fail => rw [hr] at q; exact q.elim
            | exc _ _ _ => rw [hr] at q; exact q.elim
        · subst hkf
          exact q W' H' C d v l hs' hmg hfro rv
theorem PSu.free {K : PySem.W.Frag} {a d : Addr} {i j : Nat} {f : Str} {x : PV} (h : j ≠ i) : FreeP (PSu K a d i f x) j := fun W σ u ⟨h1, v, h2, h3⟩ => ⟨by rw [List.getElem?_set_ne h]; exact h1, v, h2, h3⟩
/-- nothing known -/
def P0 : Wd → L2.St → Prop := fun _ _ => True
theorem P0.mon : MonP P0 := fun _ _ _ _ _ => True.intro
theorem of_p0 {st : Stmt} {a : SM} (h : PS X st (tP0 P0 (gx X) Ex a)) : PS X st (tS (gx X) Ex a) := ps_weak h fun D σ H ⟨W, s, env, he, hs, q⟩ => ⟨W, s, env, True.intro, he, hs, q⟩
theorem to_p0 {st : List Stmt} {a : SM} (h : PSs X st (tS (gx X) Ex a)) : PSs X st (tP0 P (gx X) Ex a) := pss_weak h fun D σ H ⟨W, s, env, _, he, hs, q⟩ => ⟨W, s, env, he, hs, q⟩
end
/-! ### defs that call what they are handed -/
def eAct (k : S → Rs PV) : EM := fun _ s => k s
/-- what is known in such a def -/
def PAc (W1 : Wd) (f c' : Addr) (q : Str) : Wd → L2.St → Prop := fun W2 σ => σ[0]? = some (some (.ref f)) ∧ W2.fro c' = some (LamX.CodeO c' q) ∧ W1.Le W2
theorem PAc.mon {W1 : Wd} {f c' : Addr} {q : Str} : MonP (PAc W1 f c' q) := fun W W' σ l ⟨h1, h2, h3⟩ => ⟨h1, l.fro _ _ h2, h3.trans l⟩
theorem PAc.free {W1 : Wd} {f c' : Addr} {q : Str} {i : Nat} (h : i ≠ 0) : FreeP (PAc W1 f c' q) i := fun W σ u ⟨h1, h2⟩ => ⟨by rw [List.getElem?_set_ne h]; exact h1, h2⟩
def eTriedG (bm : (S → Rs PV) → SM) (n : Nat) (m : EM) : EM := fun env s => noX ((bm (fun s => m env s) (List.replicate n none) s).bind flEnd)
def TTg (X : Cx) (bm : (S → Rs PV) → SM) (n : Nat) : (XK → Hp → VK → Prop) → Hp → VK → Prop := fun tl H Q => ∃ (W : Wd) (s : S) (k : S → Rs PV),
  (∀ (E : XK) (H' : Hp) (Q' : VK) (W' : Wd) (s' : S), W.Le W' → StR (gx X) W' H' s' → Post (k s') (Cont (gx X) W' Q') (XW (gx X) W' E) → tl E H' Q') ∧ StR (gx X) W H s ∧ Post ((bm k (List.replicate n none) s).bind flEnd) (Cont (gx X) W Q) (fun _ _ _ => False)
/-- the context of such a def -/
abbrev ctxG (X : Cx) (Ng : List Str) (x : Str) (sg : Scope) (g : Addr) (cdg : Value) (s : Shared) (H : Hp) : Cx := cxOf C8.CX0 X.prog X.w X.K X.mg X.base Ng x sg g cdg X.A X.stack s H C8.E0
/-- its parameter called -/
def ActR (X : Cx) (P : Wd → L2.St → Prop) (a : Str) (k : S → Rs PV) : Prop := ∀ (p1 p2 : Pos), ∀ (pn : List (Addr × Obj)) (xe : Value → Shared → Prop) (Ex' : XK), Takes (X.tr pn xe) (fun cls d _ H => Ex' cls d H) → PE (X.tr pn xe) (.Call (.Name a p1) [] [] p2) (tPE P (gx X) Ex' (eAct k))
theorem gives_triedG {X : Cx} {Ng : List Str} {x a q : Str} {sg : Scope} {g : Addr} {cdg : Value} {bg : List Stmt} {bm : (S → Rs PV) → SM} (h0 : 0 < Ng.length)
    (hB : ∀ (s : Shared) (H : Hp) (P : Wd → L2.St → Prop) (k : S → Rs PV), MonP P → (∀ i, i ≠ 0 → FreeP P i) → ActR (ctxG X Ng x sg g cdg s H).nox P a k → PSs (ctxG X Ng x sg g cdg s H).nox bg (tP0 P (gx X) (fun _ _ _ => False) (bm k))) :
    LamX.GivesTo X Ng x sg g cdg bg a q (TTg X bm Ng.length) := by
  intro f c' s H Q tl act hc hTT
  obtain ⟨W, st, kk, imp, hst, post⟩ := hTT
  obtain ⟨W1, l1, hs1, hf1⟩ := hst.adopt (show H c' = some (.ext _) from hc)
  refine ⟨tP0 (PAc W1 f c' q) (gx X) (fun _ _ _ => False) (bm kk), hB s H _ kk PAc.mon (fun i hi => PAc.free hi) fun p1 p2 pn xe Ex' tk => ?_, ?_⟩
  · refine pe_weak (act (fun cls d _ H => Ex' cls d H) pn xe Ex' p1 p2 tk fun _ _ _ _ z => z) fun σ H2 R ⟨W2, s2, env, ⟨hσ, hfro, hle⟩, he, hst2, z⟩ => ?_
    exact ⟨hσ, hst2.fro _ _ hfro, imp Ex' H2 _ W2 s2 (l1.trans hle) hst2 z⟩
  · have hl : (L2.start Ng [V.ref f]).length = Ng.length := by unfold L2.start; simp; omega
    refine ⟨W1, st, List.replicate Ng.length none, ⟨by unfold L2.start; rfl, hf1, Wd.Le.refl W1⟩, ⟨by rw [hl]; simp, fun j u z => ?_⟩, hs1, ?_⟩
    · rw [List.getElem?_replicate] at z
      split at z <;> cases z
    · refine (post.bind.mono (fun fl s' q => ?_) fun _ _ _ z => z.elim)
      cases fl with
      | nx e => exact fun W' H' σ' l hs _ => q W' H' .non (l1.trans l) hs .non
      | ret v => exact fun W' H' u l => q W' H' u (l1.trans l)
      | brk e => exact q.elim
      | cnt e => exact q.elim
section
variable {X : Cx} {Ex : XK}
theorem se_triedG {x a : Str} {g c P : Addr} {k : Nat} {pg : Arguments} {bg : List Stmt} {sg : Scope} {dV kV doc pm cdv ct oc : Value} {an od : Option Addr} {osl : Array (Option Value)} {Ng : List Str} {bm : (S → Rs PV) → SM}
    {params : Arguments} {body : Expr} {scope : Scope} {m : EM} {nn : Nat} {p lpos pos : Pos} (gd : X.A.guards = some []) (hg : Gl X x) (hm : X.mg x = some (.ref g)) (hk : PySem.W.keepIn X.K (.ref g) = true)
    (lk : X.K.lookup g = some ⟨oc, od, .func (PySem.W.fnOf x x pg bg sg dV kV doc pm an cdv ct), osl⟩) (hcg : PySem.W.codeIn X.K cdv x = true) (hb : L2.Binds X.K (PySem.W.fnOf x x pg bg sg dV kV doc pm an cdv ct) [a] []) (Sg : FnScope Ng [a] sg) (hNg : Ng[0]? = some a) (hva : Vis sg a)
    (hG : LamX.GivesTo X Ng x sg g cdv bg a (X.env.qual ++ "<lambda>") (TTg X bm Ng.length))
    (TB : LamX.TabB X.base X.mg c P) (hcode : X.env.code = .ref c) (hmT : (P, X.env.qual ++ "<lambda>") ∈ LamT.T) (hu : ∀ p ∈ LamT.T, p.1 = P → p.2 = X.env.qual ++ "<lambda>") (hr : Room (k + 2) X.A) (L : LamX.LamS X.env.scope scope) (hdef : defaultsOf params X.env = ([], []))
    (hbind : ∀ (q : Str) (cl : List (Str × Addr)) (pm cv ctv : Value), bindArgs (PySem.W.kla_fn "<lambda>" q params body scope cl pm cv ctv) ⟨[], []⟩ = pure [])
    (hbody : ∀ (A : Around) (outer : List Env) (s : Shared) (H : Hp) (E : XK) (f c' : Addr), Room k (A.deeper (LamX.lamEnv X scope s.heap.objs.size f c')) → (A.deeper (LamX.lamEnv X scope s.heap.objs.size f c')).guards = some [] → PE (LamX.lamCx X A outer s H E scope f c') body (tE (gx X) E m))
    (hdb : (x == ("__debug__" : Str)) = false := by decide) (hnn : Ng.length = nn := by rfl) (hd1 : (a == ("__debug__" : Str)) = false := by decide) (hcd : (a == ("__classdict__" : Str)) = false := by decide) :
    PE X (.Call (.Name x p) [.Lambda params body scope lpos] [] pos) (tE (gx X) Ex (eTriedG bm nn m)) := by
  subst hnn
  refine pe_weak (lam_call (T := LamT.T) gd hg hm hk lk hcg hb Sg hNg hva hG TB hcode hmT hu hr L hdef hbind (t := fun E => tE (gx X) E m) hbody hdb hd1 hcd) fun σ H Q ⟨W, s, env, he, hs, z⟩ => ⟨hs.tab, fun H1 hx ht => ?_⟩
  refine ⟨W, s, fun s => m env s, fun E H' Q' W' s' l hs' post => ⟨W', s', env, he.mono l, hs', post⟩, hs.extN hx ht, ?_⟩
  unfold eTriedG at z
  cases hr : (bm (fun s => m env s) (List.replicate Ng.length none) s).bind flEnd with
  | ok v s1 => rw [hr] at z; exact z
  | fail => rw [hr] at z; exact z.elim
  | exc c y s1 => rw [hr] at z; exact z.elim
end
end Z

set_option Elab.async false
set_option linter.all false
set_option maxRecDepth 100000
set_option maxHeartbeats 4000000
/-! k26: what the defs compute (printed by pyz.py). -/
namespace Lk26
open PySem PySem.Spec PyProof.Rows L2 Z
noncomputable section
def l__law_deck_1 : SM :=
  (sAsg (eOp oMod (eLs bInt (aCons (eOp (oAdd false) (eOp (oAdd false) (eOp oMulI (eV 1) (eC (.int 40692))) (eOp oMod (eLs bInt (aCons (eV 2) aNil)) (eC (.int 2147483647)))) (eC (.int 31))) aNil)) (eC (.int 2147483563))) (mName 1))
def b__law_deck : SM :=
  (sSeq (sAsg (eC (.int 14406026)) (mName 1))
  (sSeq (sFor (iAny (eSl false (eV 0) pNo (pIs (eC (.int 63))))) (mName 2) l__law_deck_1)
  (sRet (eDisp true (dCons (eC (.str "left")) (eUn (uBack true) (eLs (bList false) (aCons (eSl false (eV 0) pNo (pIs (eC (.int 63)))) aNil))) (dCons (eC (.str "mixed")) (eV 1) (dCons (eC (.str "draws")) (eC (.int 0)) dNil)))))))
def f__law_deck : FM := fnM 1 ["_law_script", "_law_mixed", "_law_cell"] b__law_deck
def b__law_draw : SM :=
  (sSeq (sDPut (eOp (oAdd false) (eOp oDGet (eV 0) (eC (.str "draws"))) (eC (.int 1))) (eV 0) (eC (.str "draws")))
  (sSeq (sIf (tB (eOp oNeD (eOp oDGet (eV 0) (eC (.str "left"))) (eLst false aNil))) (sSeq (sAsg (eMt .list mPop (eOp oDGet (eV 0) (eC (.str "left"))) aNil) (mName 2))
  (sSeq (sIf (tB (eOp oGe (eV 2) (eOp oPow (eC (.int 10)) (eC (.int 18))))) (sSeq (sExpr (eMt .list mAppend (eOp oDGet (eV 0) (eC (.str "left"))) (aCons (eOp oFdiv (eV 2) (eLs bMax2 (aCons (eC (.int 2)) (aCons (eV 1) aNil)))) aNil)))
  (sRet (eOp oMod (eLs bInt (aCons (eV 2) aNil)) (eV 1)))) sNil)
  (sDPut (eOp oMod (eLs bInt (aCons (eOp (oAdd false) (eOp (oAdd false) (eOp oMulI (eOp oDGet (eV 0) (eC (.str "mixed"))) (eC (.int 39373))) (eOp oMod (eLs bInt (aCons (eV 2) aNil)) (eC (.int 2147483629)))) (eC (.int 1))) aNil)) (eC (.int 2147483587))) (eV 0) (eC (.str "mixed"))))) sNil)
  (sSeq (sAsg (eOp oMod (eLs bInt (aCons (eOp (oAdd false) (eOp oDGet (eV 0) (eC (.str "mixed"))) (eOp oMulI (eC (.int 31337)) (eOp oDGet (eV 0) (eC (.str "draws"))))) aNil)) (eC (.int 2147483647))) (mName 3))
  (sSeq (sAsg (eOp oMod (eLs bInt (aCons (eOp (oAdd false) (eOp (oAdd false) (eOp oMulI (eV 3) (eV 3)) (eOp oMulI (eC (.int 48271)) (eOp oDGet (eV 0) (eC (.str "draws"))))) (eC (.int 3))) aNil)) (eC (.int 2147483629))) (mName 3))
  (sSeq (sAsg (eOp oMod (eLs bInt (aCons (eOp (oAdd false) (eOp oMulI (eV 3) (eC (.int 69621))) (eC (.int 77))) aNil)) (eC (.int 2147483563))) (mName 3))
  (sRet (eOp oMod (eLs bInt (aCons (eOp oFdiv (eV 3) (eC (.int 64))) aNil)) (eV 1))))))))
def f__law_draw : FM := fnM 2 ["_law_deck_here", "_law_many", "_law_cell", "_law_figure"] b__law_draw
def b__law_pick : SM :=
  (sRet (eOp oIx (eV 1) (eCall f__law_draw (aCons (eV 0) (aCons (eLs bLen (aCons (eV 1) aNil)) aNil)))))
def f__law_pick : FM := fnM 2 ["_law_deck_here", "_law_some"] b__law_pick
def l__law_drawn_poly_1 : SM :=
  (sSeq (sAsg (eIf (tB (eOp oGt (eV 4) (eC (.int 0)))) (eOp (oAdd false) (eV 3) (eCall f__law_draw (aCons (eV 0) (aCons (eC (.int 3)) aNil)))) (eCall f__law_draw (aCons (eV 0) (aCons (eC (.int 2)) aNil)))) (mName 3))
  (sIf (tAnd (tB (eOp oLt (eV 3) (eC (.int 13)))) (tB (eOp oNotIn (eV 3) (eLc false (iAny (eV 2)) (mName 5) tYesM (eOp oIx (eV 5) (eC (.int 0))) [5])))) (sExpr (eMt .list mAppend (eV 2) (aCons (eTup (aCons (eV 3) (aCons (eOp (oAdd false) (eC (.int 1)) (eCall f__law_draw (aCons (eV 0) (aCons (eCall f__law_pick (aCons (eV 0) (aCons (eLst false (aCons (eC (.int 9)) (aCons (eC (.int 1000)) (aCons (eOp oPow (eC (.int 10)) (eC (.int 12))) aNil)))) aNil))) aNil)))) aNil))) aNil))) sNil))
def b__law_drawn_poly : SM :=
  (sSeq (sPar 2 3 (aCons (eLst true aNil) (aCons (eC (.int 0)) aNil)))
  (sSeq (sFor (iR1 (aCons (eCall f__law_draw (aCons (eV 0) (aCons (eOp (oAdd false) (eV 1) (eC (.int 1))) aNil))) aNil)) (mName 4) l__law_drawn_poly_1)
  (sRet (eLs bTuple (aCons (eV 2) aNil)))))
def f__law_drawn_poly : FM := fnM 2 ["_law_deck_here", "_law_most", "_law_found", "_law_many", "_law_turn", "_law_pair"] b__law_drawn_poly
def b__law_is_integer : SM :=
  (sRet (eAnd (eUn (uIsi .int) (eV 0)) (eNot (eUn (uIsi .bool) (eV 0)))))
def f__law_is_integer : FM := fnM 1 ["_law_thing"] b__law_is_integer
def l__law_is_poly_1 : SM :=
  (sSeq (sIf (tOr (tNot (tB (eUn (uIsi .tuple) (eV 1)))) (tOr (tB (eOp oNeD (eLs bLen (aCons (eV 1) aNil)) (eC (.int 2)))) (tOr (tNot (tB (eCall f__law_is_integer (aCons (eOp oIx (eV 1) (eC (.int 0))) aNil)))) (tNot (tB (eCall f__law_is_integer (aCons (eOp oIx (eV 1) (eC (.int 1))) aNil))))))) (sRet (eC (.bl false))) sNil)
  (sIf (tOr (tB (eOp oLt (eOp oIx (eV 1) (eC (.int 0))) (eC (.int 0)))) (tB (eOp oLt (eOp oIx (eV 1) (eC (.int 1))) (eC (.int 1))))) (sRet (eC (.bl false))) sNil))
def b__law_is_poly : SM :=
  (sSeq (sIf (tNot (tB (eUn (uIsi .tuple) (eV 0)))) (sRet (eC (.bl false))) sNil)
  (sSeq (sFor (iAny (eV 0)) (mName 1) l__law_is_poly_1)
  (sRet (eOp oEqD (eLc false (iR1 (aCons (eOp oSub (eLs bLen (aCons (eV 0) aNil)) (eC (.int 1))) aNil)) (mName 2) (tB (eOp oGe (eOp oIx (eOp oIx (eV 0) (eV 2)) (eC (.int 0))) (eOp oIx (eOp oIx (eV 0) (eOp (oAdd false) (eV 2) (eC (.int 1)))) (eC (.int 0))))) (eV 2) [2]) (eLst false aNil)))))
def f__law_is_poly : FM := fnM 1 ["_law_thing", "_law_pair", "_law_at"] b__law_is_poly
def hd__law_tried : Str → Option Bool := fun c => if c = "BadNumber" then some true else if c = "BadPoly" then some true else none
def h__law_tried : Str → PV → SM := fun c x => if c = "BadNumber" then (sSeq (sAsg (eTup (aCons (eK (.bl false)) (aCons (eK (.bl true)) aNil))) (mName 2))
  (sRet (eTup (aCons (eC (.str "raised")) (aCons (eV 2) (aCons (eIf (tB (eOp oIn (eC (.bl true)) (eV 2))) (eLs bRepr (aCons (eK x) aNil)) (eC .non)) aNil)))))) else if c = "BadPoly" then (sSeq (sAsg (eTup (aCons (eK (.bl true)) (aCons (eK (.bl false)) aNil))) (mName 2))
  (sRet (eTup (aCons (eC (.str "raised")) (aCons (eV 2) (aCons (eIf (tB (eOp oIn (eC (.bl true)) (eV 2))) (eLs bRepr (aCons (eK x) aNil)) (eC .non)) aNil)))))) else sRet (eC .non)
def t__law_tried (k : S → Rs PV) : SM :=
  (sTryG 1 3 hd__law_tried (sRet (eTup (aCons (eC (.str "returned")) (aCons (eAct k) aNil)))) h__law_tried)
def b__law_odd : SM :=
  (sRet (eCall f__law_pick (aCons (eV 0) (aCons (eLst false (aCons (eC (.bl true)) (aCons (eC .non) (aCons (eC (.int 0)) (aCons (eC (.str "table")) (aCons (eTup aNil) (aCons (eLst false aNil) (aCons (eDic0 false) (aCons (eUn uNeg (eC (.int 1))) (aCons (eC (.int 1)) (aCons (eC (.bl false)) (aCons (eTup (aCons (eC (.str "f0")) (aCons (eTup aNil) aNil))) (aCons (eC (.str "l")) (aCons (eC (.str "")) (aCons (eC (.int 2)) (aCons (eC (.str "x")) (aCons (eTup (aCons (eC (.int 0)) aNil)) (aCons (eTup (aCons (eC (.str "")) aNil)) (aCons (eOp oPow (eC (.int 10)) (eC (.int 39))) (aCons (eC (.str "rr")) (aCons (eTup (aCons (eC (.str "given")) aNil)) aNil))))))))))))))))))))) aNil))))
def f__law_odd : FM := fnM 1 ["_law_deck_here"] b__law_odd
def b__law_bent (rec : FM) : SM :=
  (sSeq (sIf (tOr (tNot (tB (eUn (uIsi .tuple) (eV 1)))) (tOr (tB (eOp oEqD (eV 1) (eTup aNil))) (tB (eOp oEqD (eV 2) (eC (.int 0)))))) (sRet (eCall f__law_odd (aCons (eV 0) aNil))) sNil)
  (sSeq (sPar 3 4 (aCons (eCall f__law_draw (aCons (eV 0) (aCons (eLs bLen (aCons (eV 1) aNil)) aNil))) (aCons (eCall f__law_draw (aCons (eV 0) (aCons (eC (.int 14)) aNil))) aNil)))
  (sSeq (sIf (tB (eOp oEqD (eV 4) (eC (.int 0)))) (sRet (eOp (oAdd false) (eSl false (eV 1) pNo (pIs (eV 3))) (eSl false (eV 1) (pIs (eOp (oAdd false) (eV 3) (eC (.int 1)))) pNo))) sNil)
  (sSeq (sIf (tB (eOp oEqD (eV 4) (eC (.int 1)))) (sRet (eOp (oAdd false) (eSl false (eV 1) pNo (pIs (eOp (oAdd false) (eV 3) (eC (.int 1))))) (eSl false (eV 1) (pIs (eV 3)) pNo))) sNil)
  (sSeq (sIf (tB (eOp oEqD (eV 4) (eC (.int 2)))) (sRet (eUn (uBack false) (eV 1))) sNil)
  (sSeq (sIf (tB (eOp oEqD (eV 4) (eC (.int 3)))) (sRet (eLs (bList false) (aCons (eV 1) aNil))) sNil)
  (sSeq (sIf (tB (eOp oEqD (eV 4) (eC (.int 4)))) (sRet (eOp (oAdd false) (eOp (oAdd false) (eSl false (eV 1) pNo (pIs (eV 3))) (eTup (aCons (eCall f__law_odd (aCons (eV 0) aNil)) aNil))) (eSl false (eV 1) (pIs (eOp (oAdd false) (eV 3) (eC (.int 1)))) pNo))) sNil)
  (sSeq (sIf (tAnd (tB (eUn (uIsi .bool) (eOp oIx (eV 1) (eV 3)))) (tB (eOp oEqD (eCall f__law_draw (aCons (eV 0) (aCons (eC (.int 2)) aNil))) (eC (.int 0))))) (sRet (eOp (oAdd false) (eOp (oAdd false) (eSl false (eV 1) pNo (pIs (eV 3))) (eTup (aCons (eCall f__law_pick (aCons (eV 0) (aCons (eLst false (aCons (eNot (eOp oIx (eV 1) (eV 3))) (aCons (eIf (tB (eOp oIx (eV 1) (eV 3))) (eC (.int 1)) (eC (.int 0))) aNil))) aNil))) aNil))) (eSl false (eV 1) (pIs (eOp (oAdd false) (eV 3) (eC (.int 1)))) pNo))) sNil)
  (sSeq (sIf (tAnd (tB (eCall f__law_is_integer (aCons (eOp oIx (eV 1) (eV 3)) aNil))) (tB (eOp oEqD (eCall f__law_draw (aCons (eV 0) (aCons (eC (.int 2)) aNil))) (eC (.int 0))))) (sRet (eOp (oAdd false) (eOp (oAdd false) (eSl false (eV 1) pNo (pIs (eV 3))) (eTup (aCons (eCall f__law_pick (aCons (eV 0) (aCons (eLst false (aCons (eOp (oAdd false) (eOp oIx (eV 1) (eV 3)) (eC (.int 1))) (aCons (eOp oSub (eOp oIx (eV 1) (eV 3)) (eC (.int 1))) (aCons (eC (.int 0)) (aCons (eC (.int 9)) aNil))))) aNil))) aNil))) (eSl false (eV 1) (pIs (eOp (oAdd false) (eV 3) (eC (.int 1)))) pNo))) sNil)
  (sSeq (sIf (tAnd (tB (eUn (uIsi .str) (eOp oIx (eV 1) (eV 3)))) (tB (eOp oEqD (eCall f__law_draw (aCons (eV 0) (aCons (eC (.int 2)) aNil))) (eC (.int 0))))) (sRet (eOp (oAdd false) (eOp (oAdd false) (eSl false (eV 1) pNo (pIs (eV 3))) (eTup (aCons (eCall f__law_pick (aCons (eV 0) (aCons (eLst false (aCons (eOp (oAdd false) (eOp oIx (eV 1) (eV 3)) (eC (.str "l"))) (aCons (eSl false (eOp oIx (eV 1) (eV 3)) pNo (pIs (eUn uNeg (eC (.int 1))))) (aCons (eC (.str "l")) (aCons (eC (.str "r")) (aCons (eOp (oAdd false) (eOp oIx (eV 1) (eV 3)) (eC (.str "r"))) aNil)))))) aNil))) aNil))) (eSl false (eV 1) (pIs (eOp (oAdd false) (eV 3) (eC (.int 1)))) pNo))) sNil)
  (sRet (eOp (oAdd false) (eOp (oAdd false) (eSl false (eV 1) pNo (pIs (eV 3))) (eTup (aCons (eCall rec (aCons (eV 0) (aCons (eOp oIx (eV 1) (eV 3)) (aCons (eOp oSub (eV 2) (eC (.int 1))) aNil)))) aNil))) (eSl false (eV 1) (pIs (eOp (oAdd false) (eV 3) (eC (.int 1)))) pNo)))))))))))))
def r__law_bent : Nat → FM
  | 0 => fun _ _ => .fail
  | k + 1 => fnM 3 ["_law_deck_here", "_law_thing", "_law_deep", "_law_at", "_law_way"] (b__law_bent (r__law_bent k))
abbrev f__law_bent : FM := r__law_bent 10
def b__law_near_poly : SM :=
  (sSeq (sAsg (eLst true (aCons (eUn (uBack false) (eV 1)) (aCons (eLs (bList false) (aCons (eV 1) aNil)) (aCons (eOp (oAdd false) (eV 1) (eSl false (eV 1) pNo (pIs (eC (.int 1))))) (aCons (eOp (oAdd false) (eV 1) (eTup (aCons (eTup (aCons (eC (.int 13)) (aCons (eC (.int 0)) aNil))) aNil))) (aCons (eOp (oAdd false) (eV 1) (eTup (aCons (eTup (aCons (eC (.int 13)) (aCons (eUn uNeg (eC (.int 1))) aNil))) aNil))) (aCons (eOp (oAdd false) (eTup (aCons (eTup (aCons (eUn uNeg (eC (.int 1))) (aCons (eC (.int 1)) aNil))) aNil)) (eV 1)) (aCons (eOp (oAdd false) (eV 1) (eTup (aCons (eTup (aCons (eC (.bl true)) (aCons (eC (.int 2)) aNil))) aNil))) (aCons (eOp (oAdd false) (eV 1) (eTup (aCons (eTup (aCons (eC (.int 12)) (aCons (eC (.bl true)) aNil))) aNil))) (aCons (eTup (aCons (eTup (aCons (eC (.int 0)) (aCons (eC (.int 1)) (aCons (eC (.int 1)) aNil)))) aNil)) aNil)))))))))) (mName 2))
  (sSeq (sExpr (eMt .list mExtG (eV 2) (aCons (eLst false (aCons (eTup (aCons (eTup (aCons (eC (.int 0)) aNil)) aNil)) (aCons (eTup (aCons (eLst false (aCons (eC (.int 0)) (aCons (eC (.int 1)) aNil))) aNil)) (aCons (eTup (aCons (eTup (aCons (eC (.str "0")) (aCons (eC (.int 1)) aNil))) aNil)) (aCons (eTup (aCons (eTup (aCons (eC (.int 0)) (aCons (eC (.str "1")) aNil))) aNil)) (aCons (eC (.int 5)) (aCons (eC .non) (aCons (eC (.str "poly")) (aCons (eDic0 false) (aCons (eTup (aCons (eC (.int 0)) (aCons (eC (.int 1)) aNil))) (aCons (eTup (aCons (eTup (aCons (eC (.int 0)) (aCons (eC .non) aNil))) aNil)) (aCons (eTup (aCons (eTup (aCons (eC (.int 3)) (aCons (eC (.int 2)) aNil))) (aCons (eTup (aCons (eC (.int 3)) (aCons (eC (.int 1)) aNil))) aNil))) (aCons (eTup (aCons (eTup (aCons (eC (.int 3)) (aCons (eC (.int 2)) aNil))) (aCons (eTup (aCons (eC (.int 2)) (aCons (eC (.int 1)) aNil))) aNil))) aNil))))))))))))) aNil)))
  (sRet (eIf (tB (eOp oEqD (eCall f__law_draw (aCons (eV 0) (aCons (eC (.int 2)) aNil))) (eC (.int 0)))) (eCall f__law_bent (aCons (eV 0) (aCons (eV 1) (aCons (eC (.int 3)) aNil)))) (eCall f__law_pick (aCons (eV 0) (aCons (eV 2) aNil)))))))
def f__law_near_poly : FM := fnM 2 ["_law_deck_here", "_law_poly", "_law_some"] b__law_near_poly
def l__law_power_1 : SM :=
  (sAsg (eOp oMulI (eV 2) (eV 0)) (mName 2))
def b__law_power : SM :=
  (sSeq (sAsg (eC (.int 1)) (mName 2))
  (sSeq (sFor (iR1 (aCons (eV 1) aNil)) (mName 3) l__law_power_1)
  (sRet (eV 2))))
def f__law_power : FM := fnM 2 ["_law_m", "_law_many", "_law_found", "_law_turn"] b__law_power
def b__law_value_at : SM :=
  (sRet (eLs bSum (aCons (eLc false (iAny (eV 0)) (mTup (mCons (mName 2) (mCons (mName 3) mNil))) tYesM (eOp oMulI (eV 3) (eCall f__law_power (aCons (eV 1) (aCons (eV 2) aNil)))) [2, 3]) aNil)))
def f__law_value_at : FM := fnM 2 ["_law_poly", "_law_m", "_law_many", "_law_number"] b__law_value_at
def l_power_1 : SM :=
  (sAsg (eOp oMulI (eV 2) (eV 0)) (mName 2))
def b_power : SM :=
  (sSeq (sAsg (eC (.int 1)) (mName 2))
  (sSeq (sFor (iR1 (aCons (eV 1) aNil)) (mName 3) l_power_1)
  (sRet (eV 2))))
def f_power : FM := fnM 2 ["number", "exponent", "found", "_"] b_power
def b_value_of : SM :=
  (sRet (eLs bSum (aCons (eLc false (iAny (eV 0)) (mTup (mCons (mName 3) (mCons (mName 2) mNil))) tYesM (eOp oMulI (eV 2) (eCall f_power (aCons (eV 1) (aCons (eV 3) aNil)))) [3, 2]) aNil)))
def f_value_of : FM := fnM 2 ["poly", "number", "coefficient", "exponent"] b_value_of
def b_is_tuple : SM :=
  (sRet (eAnd (eUn (uIsi .tuple) (eV 0)) (eOp oEqD (eLs bLen (aCons (eV 0) aNil)) (eV 1))))
def f_is_tuple : FM := fnM 2 ["thing", "many"] b_is_tuple
def b_is_integer : SM :=
  (sRet (eAnd (eUn (uIsi .int) (eV 0)) (eNot (eUn (uIsi .bool) (eV 0)))))
def f_is_integer : FM := fnM 1 ["thing"] b_is_integer
def b_is_from : SM :=
  (sRet (eAnd (eCall f_is_integer (aCons (eV 0) aNil)) (eOp oGe (eV 0) (eV 1))))
def f_is_from : FM := fnM 2 ["thing", "least"] b_is_from
def l_is_poly_value_1 : SM :=
  (sSeq (sIf (tOr (tNot (tB (eCall f_is_tuple (aCons (eV 2) (aCons (eC (.int 2)) aNil))))) (tOr (tNot (tB (eCall f_is_from (aCons (eOp oIx (eV 2) (eC (.int 0))) (aCons (eV 1) aNil))))) (tNot (tB (eCall f_is_from (aCons (eOp oIx (eV 2) (eC (.int 1))) (aCons (eC (.int 1)) aNil))))))) (sRet (eC (.bl false))) sNil)
  (sAsg (eOp (oAdd false) (eOp oIx (eV 2) (eC (.int 0))) (eC (.int 1))) (mName 1)))
def b_is_poly_value : SM :=
  (sSeq (sIf (tNot (tB (eUn (uIsi .tuple) (eV 0)))) (sRet (eC (.bl false))) sNil)
  (sSeq (sAsg (eC (.int 0)) (mName 1))
  (sSeq (sFor (iAny (eV 0)) (mName 2) l_is_poly_value_1)
  (sRet (eC (.bl true))))))
def f_is_poly_value : FM := fnM 1 ["thing", "least", "pair"] b_is_poly_value
def b_value_at : SM :=
  (sSeq (sIf (tNot (tB (eCall f_is_poly_value (aCons (eV 0) aNil)))) (sRaise "BadPoly" (eV 0)) sNil)
  (sSeq (sIf (tNot (tB (eCall f_is_from (aCons (eV 1) (aCons (eC (.int 0)) aNil))))) (sRaise "BadNumber" (eV 1)) sNil)
  (sRet (eCall f_value_of (aCons (eV 0) (aCons (eV 1) aNil))))))
def f_value_at : FM := fnM 2 ["poly", "number"] b_value_at
def b_is_poly : SM :=
  (sRet (eCall f_is_poly_value (aCons (eV 0) aNil)))
def f_is_poly : FM := fnM 1 ["thing"] b_is_poly
def l_law_2 : SM :=
  (sSeq (sAsg (eCall f__law_is_poly (aCons (eV 4) aNil)) (mName 5))
  (sIf (tB (eOp oNeD (eLs bRepr (aCons (eTup (aCons (eCall f_is_poly (aCons (eV 4) aNil)) (aCons (eCallK0 f_is_poly [0] (aCons (eV 4) aNil)) aNil))) aNil)) (eLs bRepr (aCons (eTup (aCons (eV 5) (aCons (eV 5) aNil))) aNil)))) (sRet (eC (.bl false))) sNil))
def l_law_1 : SM :=
  (sSeq (sAsg (eCall f__law_drawn_poly (aCons (eV 1) (aCons (eC (.int 9)) aNil))) (mName 3))
  (sSeq (sFor (iAny (eTup (aCons (eV 3) (aCons (eCall f__law_near_poly (aCons (eV 1) (aCons (eV 3) aNil))) (aCons (eCall f__law_near_poly (aCons (eV 1) (aCons (eV 3) aNil))) (aCons (eCall f__law_odd (aCons (eV 1) aNil)) aNil)))))) (mName 4) l_law_2)
  (sSeq (sAsg (eCall f__law_pick (aCons (eV 1) (aCons (eLst false (aCons (eC (.int 0)) (aCons (eC (.int 1)) (aCons (eC (.int 2)) (aCons (eCall f__law_draw (aCons (eV 1) (aCons (eC (.int 60)) aNil))) (aCons (eCall f__law_draw (aCons (eV 1) (aCons (eOp (oAdd false) (eOp oPow (eC (.int 10)) (eC (.int 6))) (eC (.int 1))) aNil))) aNil)))))) aNil))) (mName 6))
  (sSeq (sIf (tB (eOp oNeD (eLs bRepr (aCons (eTup (aCons (eCall f_value_at (aCons (eV 3) (aCons (eV 6) aNil))) (aCons (eCallK0 f_value_at [1, 0] (aCons (eV 6) (aCons (eV 3) aNil))) aNil))) aNil)) (eLs bRepr (aCons (eOp (oMul false) (eTup (aCons (eCall f__law_value_at (aCons (eV 3) (aCons (eV 6) aNil))) aNil)) (eC (.int 2))) aNil)))) (sRet (eC (.bl false))) sNil)
  (sSeq (sAsg (eCall f__law_draw (aCons (eV 1) (aCons (eOp (oAdd false) (eLs bLen (aCons (eV 3) aNil)) (eC (.int 1))) aNil))) (mName 7))
  (sSeq (sIf (tB (eOp oNeD (eOp (oAdd false) (eCall f_value_at (aCons (eSl false (eV 3) pNo (pIs (eV 7))) (aCons (eV 6) aNil))) (eCall f_value_at (aCons (eSl false (eV 3) (pIs (eV 7)) pNo) (aCons (eV 6) aNil)))) (eCall f__law_value_at (aCons (eV 3) (aCons (eV 6) aNil))))) (sRet (eC (.bl false))) sNil)
  (sSeq (sAsg (eTup (aCons (eCall f__law_pick (aCons (eV 1) (aCons (eLst false (aCons (eV 3) (aCons (eCall f__law_near_poly (aCons (eV 1) (aCons (eV 3) aNil))) aNil))) aNil))) (aCons (eCall f__law_pick (aCons (eV 1) (aCons (eLst false (aCons (eUn uNeg (eC (.int 1))) (aCons (eC (.bl true)) (aCons (eC .non) (aCons (eC (.str "1")) (aCons (eTup (aCons (eC (.int 1)) aNil)) (aCons (eC (.int 0)) (aCons (eC (.int 3)) (aCons (eLst false aNil) (aCons (eDic0 false) aNil)))))))))) aNil))) aNil))) (mTup (mCons (mName 8) (mCons (mName 9) mNil))))
  (sSeq (sIf (tAnd (tB (eCall f__law_is_poly (aCons (eV 8) aNil))) (tOr (tB (eOp oGt (eLs bLen (aCons (eV 8) aNil)) (eC (.int 20)))) (tB (eOp oNeD (eLc false (iAny (eV 8)) (mName 12) (tOr (tB (eOp oGt (eOp oIx (eV 12) (eC (.int 0))) (eC (.int 12)))) (tB (eOp oGt (eOp oIx (eV 12) (eC (.int 1))) (eOp oPow (eC (.int 10)) (eC (.int 12)))))) (eV 12) [12]) (eLst false aNil))))) (sAsg (eV 3) (mName 8)) sNil)
  (sSeq (sAsg (eTup (aCons (eC (.str "raised")) (aCons (eTup (aCons (eC (.bl true)) (aCons (eC (.bl false)) aNil))) (aCons (eLs bRepr (aCons (eV 8) aNil)) aNil)))) (mName 5))
  (sSeq (sIf (tB (eCall f__law_is_poly (aCons (eV 8) aNil))) (sSeq (sAsg (eAnd (eCall f__law_is_integer (aCons (eV 9) aNil)) (eOp oGe (eV 9) (eC (.int 0)))) (mName 10))
  (sAsg (eIf (tB (eV 10)) (eTup (aCons (eC (.str "returned")) (aCons (eCall f__law_value_at (aCons (eV 8) (aCons (eV 9) aNil))) aNil))) (eTup (aCons (eC (.str "raised")) (aCons (eTup (aCons (eC (.bl false)) (aCons (eC (.bl true)) aNil))) (aCons (eLs bRepr (aCons (eV 9) aNil)) aNil))))) (mName 5))) sNil)
  (sSeq (sAsg (eTriedG t__law_tried 3 (eIf (tB (eOp oEqD (eV 2) (eC (.int 0)))) (eCall f_value_at (aCons (eV 8) (aCons (eV 9) aNil))) (eCallK0 f_value_at [1, 0] (aCons (eV 9) (aCons (eV 8) aNil))))) (mName 11))
  (sIf (tB (eOp oNeD (eLs bRepr (aCons (eV 11) aNil)) (eLs bRepr (aCons (eV 5) aNil)))) (sRet (eC (.bl false))) sNil))))))))))))
def b_law : SM :=
  (sSeq (sAsg (eCall f__law_deck (aCons (eV 0) aNil)) (mName 1))
  (sSeq (sFor (iR1 (aCons (eC (.int 3)) aNil)) (mName 2) l_law_1)
  (sRet (eC (.bl true)))))
def f_law : FM := fnM 1 ["_law_script", "_law_deck_here", "_law_turn", "_law_poly", "_law_thing", "_law_due", "_law_number", "_law_at", "_law_near", "_law_odd_here", "_law_is_number", "_law_told", "_law_pair"] b_law
end
end Lk26

set_option Elab.async false
set_option linter.all false
set_option maxRecDepth 100000
set_option maxHeartbeats 4000000
/-! ZH1: the head's Hook with own exception classes and tables of code objects. -/
namespace Z
open PySem PySem.Spec PyProof.Rows L2
variable [LamT]
/-- the table of code objects of a def's code -/
def tabOf (K : PySem.W.Frag) (x : Str) : Option (Addr × Addr) := match K.lookup (He.ga K x) with
  | some ⟨_, _, .func fd, _⟩ => match fd.code with
    | .ref c => match K.lookup c with
      | some ⟨_, _, .fields vs, _⟩ => match (vs[11]? : Option Value) with
        | some (.ref p) => some (c, p)
        | _ => none
      | _ => none
    | _ => none
  | _ => none
def tabsOf (lam : List Str) (K : PySem.W.Frag) : List Addr := lam.filterMap fun x => (tabOf K x).map (·.2)
def dropT (lam : List Str) (K : PySem.W.Frag) : PySem.W.Frag := K.filter fun p => !(tabsOf lam K).contains p.1
theorem lookup_filter {α β : Type} [BEq α] [LawfulBEq α] {f : α → Bool} {a : α} : ∀ {l : List (α × β)}, (l.filter fun p => f p.1).lookup a = if f a then l.lookup a else none
  | [] => by simp
  | (b, v) :: l => by
    rw [List.filter_cons]
    by_cases hb : f b = true
    · rw [if_pos hb, List.lookup_cons, List.lookup_cons]
      cases e : a == b with
      | true =>
        have := eq_of_beq e
        subst this
        simp [hb]
      | false =>
        simp only
        exact lookup_filter
    · rw [if_neg hb, lookup_filter, List.lookup_cons]
      cases e : a == b with
      | true =>
        have := eq_of_beq e
        subst this
        simp [hb]
      | false => rfl
theorem dropT_in {lam : List Str} {K : PySem.W.Frag} {h : Heap} (k : K.In h) : (dropT lam K).In h := fun a o e => by
  have e' : (K.filter fun p => (fun b => !(tabsOf lam K).contains b) p.1).lookup a = some o := e
  rw [lookup_filter (f := fun b => !(tabsOf lam K).contains b)] at e'
  split at e'
  · exact k a o e'
  · cases e'
theorem dropT_no {lam : List Str} {K : PySem.W.Frag} {a : Addr} (h : a ∈ tabsOf lam K) : (dropT lam K).lookup a = none := by
  show (K.filter fun p => (fun b => !(tabsOf lam K).contains b) p.1).lookup a = none
  rw [lookup_filter (f := fun b => !(tabsOf lam K).contains b), if_neg]
  simp [h]
/-- what is asked of a def that makes lambdas -/
def lamB (K0 K : PySem.W.Frag) (x : Str) : Bool := match tabOf K0 x, K.lookup (He.ga K x) with
  | some (c, p), some ⟨_, _, .func fd, _⟩ => decide (fd.code = .ref c) && (match K0.lookup c with
    | some ⟨.type t, _, .fields vs, _⟩ => decide (t = "code") && (decide ((vs[11]? : Option Value) = some (.ref p)) && ((match vs.getD 18 .none with | .str _ _ => true | _ => false) && ((match vs.getD 7 .none with | .int _ _ => true | _ => false) &&
      ((match vs.getD 9 .none with | .bool _ => true | _ => false) && ((match vs.getD 10 .none with | .int _ _ => true | _ => false) && !decide (c = p))))))
    | _ => false) && (match K0.lookup p with
    | some ⟨.none, none, .fields fs, sl⟩ => fs.isEmpty && sl.isEmpty
    | _ => false)
  | _, _ => false
/-- what it gives -/
def LamH (K : PySem.W.Frag) (h : Heap) (x : Str) (c p : Addr) : Prop := (∃ oc od fd osl, K.lookup (He.ga K x) = some ⟨oc, od, .func fd, osl⟩ ∧ fd.code = .ref c) ∧ PySem.W.CodeHd h c p ∧ h.get? p = some { cls := .none, data := .fields #[] } ∧ K.lookup p = none
theorem lamB_ok {lam : List Str} {K0 : PySem.W.Frag} {h : Heap} {x : Str} (k : K0.In h) (hx : x ∈ lam) (e : lamB K0 (dropT lam K0) x = true) : ∃ c p, LamH (dropT lam K0) h x c p := by
  unfold lamB at e
  split at e
  case h_2 => cases e
  rename_i o1 o2 c p oc od fd osl e1 e2
  have hm : p ∈ tabsOf lam K0 := List.mem_filterMap.mpr ⟨x, hx, by rw [e1]; rfl⟩
  obtain ⟨e, e5⟩ := andp e
  obtain ⟨e3, e4⟩ := andp e
  have hc := of_decide_eq_true e3
  split at e4
  case h_2 => cases e4
  rename_i o3 t dd vs sl q1
  obtain ⟨a1, e4⟩ := andp e4
  obtain ⟨a2, e4⟩ := andp e4
  obtain ⟨a3, e4⟩ := andp e4
  obtain ⟨a4, e4⟩ := andp e4
  obtain ⟨a5, e4⟩ := andp e4
  obtain ⟨a6, a7⟩ := andp e4
  have a1 := of_decide_eq_true a1
  have a2 := of_decide_eq_true a2
  split at e5
  case h_2 => cases e5
  rename_i o4 fs sl2 q2
  obtain ⟨b1, b2⟩ := andp e5
  have b1 : fs = #[] := by simpa using b1
  have b2 : sl2 = #[] := by simpa using b2
  subst a1 b1 b2
  refine ⟨c, p, ⟨oc, od, fd, osl, e2, hc⟩, ?_, k _ _ q2, dropT_no hm⟩
  have g11 : vs.getD 11 .none = .ref p := by
    rw [Array.getD_eq_getD_getElem?, a2]; rfl
  have s18 : ∃ file tf, vs.getD 18 .none = .str file tf := by
    cases q : vs.getD 18 .none <;> rw [q] at a3 <;> first | exact ⟨_, _, rfl⟩ | cases a3
  have s7 : ∃ f1 f2, vs.getD 7 .none = .int f1 f2 := by
    cases q : vs.getD 7 .none <;> rw [q] at a4 <;> first | exact ⟨_, _, rfl⟩ | cases a4
  have s9 : ∃ f1, vs.getD 9 .none = .bool f1 := by
    cases q : vs.getD 9 .none <;> rw [q] at a5 <;> first | exact ⟨_, rfl⟩ | cases a5
  have s10 : ∃ f1 f2, vs.getD 10 .none = .int f1 f2 := by
    cases q : vs.getD 10 .none <;> rw [q] at a6 <;> first | exact ⟨_, _, rfl⟩ | cases a6
  obtain ⟨file, tf, s18⟩ := s18
  obtain ⟨f1, f2, s7⟩ := s7
  obtain ⟨f3, s9⟩ := s9
  obtain ⟨f4, f5, s10⟩ := s10
  exact ⟨_, vs, file, tf, f1, f2, f3, f4, f5, k _ _ q1, rfl, rfl, a2, g11, s18, s7, s9, s10, by simpa using a7⟩
/-! ### the Hook -/
abbrev AlX : Type := AlK × (Bool × Bool)
def obsX (fa : List He.Fa) (fn : List He.DefD) (cs : List (Str × PV)) (ts : List TabZ) (lam : List Str) (xb : PySem.W.Frag → Bool) (K0 : PySem.W.Frag) : AlX := (obsK fa fn cs ts (dropT lam K0), xb (dropT lam K0), lam.all (lamB K0 (dropT lam K0)))
def valX (fn : List He.DefD) (ts : List TabZ) (w : World) : AlX := (valK fn ts w, true, true)
def obsXG (n : Nat) (fa : List He.Fa) (fn : List He.DefD) (cs : List (Str × PV)) (ts : List TabZ) (lam : List Str) (xb : PySem.W.Frag → Bool) (g : Addr → Option Obj) : AlX := obsX fa fn cs ts lam xb (He.frG g (sysModules :: He.asD g n))
def SaysX (fa : List He.Fa) (fn : List He.DefD) (cs : List (Str × PV)) (ts : List TabZ) (lam : List Str) (xb : PySem.W.Frag → Bool) (w : World) (h : Heap) (K : PySem.W.Frag) : Prop := K.In h ∧ SaysK fa fn cs ts w K ∧ xb K = true ∧ ∀ x ∈ lam, ∃ c p, LamH K h x c p
def hookX (n : Nat) (fa : List He.Fa) (fn : List He.DefD) (cs : List (Str × PV)) (ts : List TabZ) (lam : List Str) (xb : PySem.W.Frag → Bool) : PySem.W.Hook where
  α := AlX
  obs := fun s => obsXG n fa fn cs ts lam xb s.heap.get?
  val := fun w => valX fn ts w
  says := fun w h => ∃ K0 : PySem.W.Frag, K0.In h ∧ obsX fa fn cs ts lam xb K0 = valX fn ts w
  of := fun _ _ e => ⟨_, He.frG_in, e⟩
  keeps := fun _ _ _ ⟨K, hK, c⟩ k => ⟨K, PySem.W.Frag.In.keeps hK k, c⟩
theorem obsXG_eq {n : Nat} {fa : List He.Fa} {fn : List He.DefD} {cs : List (Str × PV)} {ts : List TabZ} {lam : List Str} {xb : PySem.W.Frag → Bool} {g : Addr → Option Obj} {s : Shared} (h : ∀ a, g a = s.heap.get? a) : obsXG n fa fn cs ts lam xb g = (hookX n fa fn cs ts lam xb).obs s := by
  rw [show g = s.heap.get? from funext h]; rfl
theorem saysX_of {fa : List He.Fa} {fn : List He.DefD} {cs : List (Str × PV)} {ts : List TabZ} {lam : List Str} {xb : PySem.W.Frag → Bool} {w : World} {h : Heap} (y : ∃ K0 : PySem.W.Frag, K0.In h ∧ obsX fa fn cs ts lam xb K0 = valX fn ts w) : ∃ K, SaysX fa fn cs ts lam xb w h K := by
  obtain ⟨K0, k, e⟩ := y
  refine ⟨dropT lam K0, dropT_in k, congrArg (fun z : AlX => z.1) e, congrArg (fun z : AlX => z.2.1) e, fun x hx => lamB_ok k hx ?_⟩
  exact List.all_eq_true.mp (congrArg (fun z : AlX => z.2.2) e : lam.all (lamB K0 (dropT lam K0)) = true) x hx
end Z

set_option Elab.async false
set_option linter.all false
set_option maxRecDepth 100000
set_option maxHeartbeats 4000000
/-! ZH2: the end of a law whose defs make lambdas. -/
namespace Z
open PySem PySem.Spec PyProof.Rows L2
/-- no exception ever leaves the law -/
theorem end_callT {P : Program} {w : World} {K : PySem.W.Frag} {mg mb : Str → Option Value} {CX : CXT} {k : Nat} {f a : Addr} {fd : FuncData} {x : Str} {m : FM} {sh : Shared} {vs : List Value} {ns : List Int} {cs : List (Addr × Addr × Str)} [LamT]
    (KX : K.In sh.heap) (hns : sh.heap.Ns mainGlobals mg) (hbn : sh.heap.Ns builtinsNs mb) (hbb : ∀ y : Str, y ≠ "__name__" → mb y = bootBuiltins y) (hlim : sh.heap.NoLimit) (hgn : sh.gens = #[])
    (hT : ∀ p ∈ cs, sh.heap.get? p.2.1 = some { cls := .none, data := .fields #[] }) (nT : ∀ p ∈ cs, K.lookup p.2.1 = none) (hC : ∀ p ∈ cs, PySem.W.CodeHd sh.heap p.1 p.2.1) (eT : LamT.T = cs.map fun p => (p.2.1, p.2.2))
    (hbm : ∃ (bm : Addr) (ob : Obj), mg "__builtins__" = some (.ref bm) ∧ bm ≠ builtinsNs ∧ sh.heap.get? bm = some ob ∧ ob.cls = .type "module" ∧ ob.dict = some builtinsNs ∧ ob.data = .plain)
    (ha : sh.heap.get? a = some { cls := .type "list", data := .seq vs.toArray }) (hi : IntsAre vs ns) (hl : ns.length ≤ sizeLine) (hr : Room k callerA)
    (F : ∀ base : Heap, K.In base → base.Ns mainGlobals mg → (∀ p ∈ cs, LamX.TabB base mg p.1 p.2.1) → FnZ P w K mg base CX k f fd [x] m) (hbind : ∀ (s : Shared) (u : Value), BindsTo s fd ⟨[u], []⟩ [(x, u)])
    (hm : Post (m [.scr (ns.map .int)] []) (fun v _ => v = .bl true) fun _ _ _ => False) (hCX : ∀ H e s', CX [] H sh (fun _ _ _ => False) e s' → False) :
    codeAny (model P w) callerA (.call (.ref f) ⟨[.ref a], []⟩) (fun r s' => r = .ok (.ret (.bool true)) ∧ OldK sh.heap s'.heap ∧ s'.os = sh.os ∧ AllBare s'.gens) sh := by
  have reps : ∀ (W : Wd) (l : List Int), Reps K W (l.map .int) (l.map V.int) := fun W l => by
    induction l with
    | nil => exact .nil
    | cons n l ih => exact .cons (.int n) ih
  obtain ⟨tb, htb⟩ : ∃ tb : List Addr, tb = cs.map fun p => p.2.1 := ⟨_, rfl⟩
  have inT : ∀ b ∈ tb, sh.heap.get? b = some { cls := .none, data := .fields #[] } ∧ K.lookup b = none := fun b hb => by
    rw [htb] at hb
    obtain ⟨p, hp, rfl⟩ := List.mem_map.mp hb
    exact ⟨hT p hp, nT p hp⟩
  have memT : ∀ p ∈ cs, p.2.1 ∈ tb := fun p hp => by rw [htb]; exact List.mem_map.mpr ⟨p, hp, rfl⟩
  have aT : a ∉ tb := fun z => by
    have q := (inT a z).1
    rw [ha] at q
    cases q
  let scr : HO := .frz { cls := .type "list", data := .seq vs.toArray } (.lst (ns.map V.int))
  -- S: the script, if it is kept; H: with the tables
  have go : ∀ S : Hp, (∀ b u, S b = some u → b = a ∧ u = scr ∧ K.lookup a = none) → SqL K S a (ns.map V.int) →
      codeAny (model P w) callerA (.call (.ref f) ⟨[.ref a], []⟩) (fun r s' => r = .ok (.ret (.bool true)) ∧ OldK sh.heap s'.heap ∧ s'.os = sh.os ∧ AllBare s'.gens) sh := by
    intro S only sc
    obtain ⟨H, hH⟩ : ∃ H : Hp, H = fun b => if b ∈ tb then some (.tbl #[]) else S b := ⟨_, rfl⟩
    have atT : ∀ b ∈ tb, H b = some (.tbl #[]) := fun b hb => by rw [hH]; exact if_pos hb
    have offT : ∀ b, b ∉ tb → H b = S b := fun b hb => by rw [hH]; exact if_neg hb
    have sub : Sub S H := fun b u e => by
      obtain ⟨rfl, _⟩ := only b u e
      rw [offT _ aT]; exact e
    have what : ∀ b u, H b = some u → (b ∈ tb ∧ u = .tbl #[]) ∨ (b = a ∧ u = scr ∧ K.lookup a = none) := fun b u e => by
      by_cases hb : b ∈ tb
      · rw [atT b hb] at e; cases e; exact .inl ⟨hb, rfl⟩
      · rw [offT b hb] at e; exact .inr (only b u e)
    have hok : HOk P w H sh.heap := fun b u e => by
      rcases what b u e with ⟨hb, rfl⟩ | ⟨rfl, rfl, _⟩
      · exact (inT b hb).1
      · exact ⟨ha, by rw [List.length_map]; exact hl, vs, _, vals_ints hi, ha⟩
    have out : ∀ {b : Addr} {o : Obj}, sh.heap.get? b = some o → H b = none → (hidT sh.heap H).get? b = some o := fun e n => hidT_get e n
    have plain : ∀ {b : Addr} {o : Obj}, sh.heap.get? b = some o → (∀ ws n, o.data ≠ .seq ws n) → o.data ≠ .fields #[] → H b = none := fun {b o} e h1 h2 => by
      rcases hq : H b with _ | u
      · rfl
      · rcases what b u hq with ⟨hb, _⟩ | ⟨rfl, _⟩
        · rw [(inT b hb).1] at e; cases e; exact absurd rfl h2
        · rw [ha] at e; cases e; exact absurd rfl (h1 _ _)
    have nss : ∀ {b : Addr} {mm : Str → Option Value}, sh.heap.Ns b mm → (hidT sh.heap H).Ns b mm := fun {b mm} ⟨o, es, ep, e, d, r⟩ => ⟨o, es, ep, out e (plain e (fun ws n z => by rw [d] at z; cases z) fun z => by rw [d] at z; cases z), d, r⟩
    have kin : K.In (hidT sh.heap H) := fun b o e => out (KX b o e) (by
      rcases hq : H b with _ | u
      · rfl
      · rcases what b u hq with ⟨hb, _⟩ | ⟨rfl, _, hk⟩
        · rw [(inT b hb).2] at e; cases e
        · rw [hk] at e; cases e)
    have md : Mod K mg (hidT sh.heap H) := ⟨kin, nss hns, ⟨mb, nss hbn, hbb⟩, let ⟨mc, h1, h2⟩ := hlim; ⟨mc, nss h1, h2⟩⟩
    have tbs : ∀ p ∈ cs, LamX.TabB (hidT sh.heap H) mg p.1 p.2.1 := fun p hp => by
      refine ⟨?_, ?_, fun z => ?_⟩
      · obtain ⟨o, us, file, tf, flags, tg, inF, text, tt, e1, r1, r2, r3, r4⟩ := hC p hp
        refine ⟨o, us, file, tf, flags, tg, inF, text, tt, out e1 (plain e1 (fun ws n z => by rw [r2] at z; cases z) fun z => ?_), r1, r2, r3, r4⟩
        rw [r2] at z; cases z; simp at r3
      · obtain ⟨bm, ob, b1, b2, b3, b4, b5, b6⟩ := hbm
        have n1 : bm ≠ mainGlobals := fun q => by
          obtain ⟨o, es, ep, e, d, _⟩ := hns
          rw [q, e] at b3; cases b3
          rw [d] at b6; cases b6
        have n2 : bm ≠ p.2.1 := fun q => by
          rw [q, hT p hp] at b3; cases b3; cases b6
        exact ⟨bm, ob, b1, b2, n1, n2, out b3 (plain b3 (fun ws n z => by rw [b6] at z; cases z) fun z => by rw [b6] at z; cases z), b4, b5, b6⟩
      · obtain ⟨o, es, ep, e, d, _⟩ := hns
        rw [z, hT p hp] at e; cases e; cases d
    have e0 : Env0 P w K mg (hidT sh.heap H) callerA [] sh H := ⟨rfl, md, fun b o e => of_hidT e, Nat.le_of_eq (hidT_size _ _), trivial, fun b hb => (nomatch hb), hok, .of_eq hgn⟩
    have st : StR ⟨K, mg⟩ ⟨S, [], fun _ => none, fun _ => none⟩ H [] := ⟨sub, rfl, List.nodup_nil, fun n a e => by simp at e, fun n a o e => by simp at e, fun n a o e => by simp at e, fun b u e => (by cases e), fun n a e => rfl, fun b q => absurd rfl q,
      fun b u e => by obtain ⟨_, rfl, _⟩ := only b u e; exact True.intro, fun b u e => (by cases e), fun p hp => by
        rw [eT] at hp
        obtain ⟨q, hq, rfl⟩ := List.mem_map.mp hp
        exact LamX.TabS.nil (atT _ (memT q hq))⟩
    refine codeAny_mono ((F _ kin (nss hns) tbs).runs callerA [] sh H ⟨[.ref a], []⟩ [.ref a] [.ref a] (fun v _ => v = .bl true) (fun _ _ _ => False) hr rfl e0 (hbind sh (.ref a)) (.cons rfl .nil)
      ⟨⟨S, [], fun _ => none, fun _ => none⟩, [], [.scr (ns.map .int)], .cons (.scr sc (reps _ ns)) .nil, st, hm.mono (fun v s q W' H' u l hs r => by subst q; cases r; rfl) fun _ _ _ z => z.elim⟩) fun r s' h => ?_
    cases r with
    | error e => exact (hCX H e s' h).elim
    | ok fl =>
      cases fl with
      | next => exact h.elim
      | brk => exact h.elim
      | cont => exact h.elim
      | ret u =>
        obtain ⟨v, H', os, bare, un, hok', r', rfl⟩ := h
        obtain rfl : u = Value.bool true := r'
        have keep : ∀ b o, b ∉ tb → sh.heap.get? b = some o → s'.heap.get? b = some o := fun b o hb e => by
          rcases hq : H b with _ | u
          · exact un.keep b o e hq (by intro z; exact nomatch z) (by simp)
          · rcases what b u hq with ⟨hb2, _⟩ | ⟨rfl, rfl, _⟩
            · exact absurd hb2 hb
            · obtain ⟨e2, _⟩ := hok' b _ (un.frzs b _ _ hq)
              rw [ha] at e; cases e
              exact e2
        have grown : ∀ p ∈ cs, ∃ more : Array Value, s'.heap.get? p.2.1 = some { cls := .none, data := .fields more } := fun p hp => by
          obtain ⟨more, z⟩ := un.tbls p.2.1 #[] (atT _ (memT p hp))
          exact ⟨_, hok' _ _ z⟩
        refine ⟨rfl, ⟨fun b o e => ?_, fun b o e => ?_⟩, os, bare⟩
        · by_cases hb : b ∈ tb
          · rw [htb] at hb
            obtain ⟨p, hp, rfl⟩ := List.mem_map.mp hb
            obtain ⟨more, hm⟩ := grown p hp
            rw [hT p hp] at e; cases e
            exact .inr (.inl ⟨((hC p hp).tab (hT p hp)).isCodeTable, rfl, #[], more, rfl, by rw [Array.empty_append]; exact hm⟩)
          · exact .inl (keep b o hb e)
        · by_cases hb : b ∈ tb
          · rw [htb] at hb
            obtain ⟨p, hp, rfl⟩ := List.mem_map.mp hb
            obtain ⟨more, hm⟩ := grown p hp
            exact ⟨_, hm⟩
          · exact ⟨o, keep b o hb e⟩
  rcases hk : K.lookup a with _ | o
  · refine go (fun b => if b = a then some scr else none) (fun b u e => ?_) (.inl (.inr ⟨_, if_pos rfl⟩))
    by_cases hb : b = a
    · have e' := (if_pos hb).symm.trans e
      cases e'
      exact ⟨hb, rfl, hk⟩
    · have e' := (if_neg hb).symm.trans e
      cases e'
  · have e := KX a o hk
    rw [ha] at e
    cases e
    exact go (fun _ => none) (fun b u z => by cases z) (.inr ⟨_, vs.toArray, _, hk, rfl, rfl, rfl, by rw [List.size_toArray, hi.length]; exact hl, by simpa using vals_ints hi⟩)
theorem end_lawT {l : PySem.W.OpenLaw} {n k : Nat} {q : Program} {loose : List Str} {XP : (Str → Option Value) → Heap → Prop} {YP : World → Heap → Prop} {d : DefRec} {CX : World → CXT} {x : Str}
    (hn : l.most = some n) (hn2 : n ≤ sizeLine) (hdf : d.params.defaults = []) (hr : Room k callerA)
    (F : ∀ (w : World) (mg : Str → Option Value) (f : Addr) (h : Heap), YP w h → h.Ns mainGlobals mg → mg d.name = some (.ref f) →
      ∃ (K : PySem.W.Frag) (fd : FuncData) (m : FM) (cs : List (Addr × Addr × Str)) (_ : LamT), K.In h ∧ (∀ (s : Shared) (u : Value), BindsTo s fd ⟨[u], []⟩ [(x, u)]) ∧
        (∀ p ∈ cs, h.get? p.2.1 = some { cls := .none, data := .fields #[] }) ∧ (∀ p ∈ cs, K.lookup p.2.1 = none) ∧ (∀ p ∈ cs, PySem.W.CodeHd h p.1 p.2.1) ∧ (LamT.T = cs.map fun p => (p.2.1, p.2.2)) ∧
        (∀ ns : List Int, ns.length ≤ n → Post (m [.scr (ns.map .int)] []) (fun v _ => v = .bl true) fun _ _ _ => False) ∧
        ∀ base : Heap, K.In base → base.Ns mainGlobals mg → (∀ p ∈ cs, LamX.TabB base mg p.1 p.2.1) → FnZ l.prog w K mg base (CX w) k f fd [x] m)
    (hCX : ∀ (w : World) (H : Hp) (s : Shared) (e : Value) (s' : Shared), CX w [] H s (fun _ _ _ => False) e s' → False) :
    PySem.W.WalkO q loose XP YP l.row.toRowW d [] (fun f vs => PySem.call f vs) := by
  refine Att.attach_call hn hdf fun w s₀ sh mg mb f o pm cd doc a vs ns G Y ho hd hcd hmg hobj hints hlen hgn => ?_
  obtain ⟨K, fd, m, cs, inst, KX, hb, h1, h2, h3, h4, hm, hF⟩ := F w mg f _ Y G.T.g hmg
  exact end_callT KX G.T.g G.T.b G.T.builtins G.T.nolimit hgn h1 h2 h3 h4 G.T.bmain hobj hints (Nat.le_trans hlen hn2) hr hF hb (hm ns hlen) fun H e s' => hCX w H sh e s'
theorem cxE {P : World → Program} {w : World} {H : Hp} {s : Shared} {e : Value} {s' : Shared} (h : L2.CX (P w) w [] H s (fun _ _ _ => False) e s') : False := by
  obtain ⟨_, _, _, _, _, _, _, _, _, _, _, _, z⟩ := h
  exact z
end Z

set_option Elab.async false
set_option linter.all false
set_option maxRecDepth 100000
set_option maxHeartbeats 4000000
/-! ZH3: own exception classes in the written part. -/
namespace Z
open PySem PySem.Spec PyProof.Rows L2
def exXB (K : PySem.W.Frag) (C : Addr) : Bool := match K.lookup C with
  | some ⟨.type t, _, .cls cd, sl⟩ => decide (t = "type") && (cd.hasDict && (!cd.hasDel && ((match cd.mro with
    | .ref C1 :: bm => decide (C1 = C) && refsX bm
    | _ => false) && (match sl.toList with
    | [_, _, _, _, some (.builtin n), _] => decide (n = "Exception.__new__")
    | _ => false))))
  | _ => false
theorem exXB_ok {K : PySem.W.Frag} {C : Addr} (h : exXB K C = true) : ∃ nm q N bs bm sn sub ab col dd k0 k1 k2 k3 k5, K.lookup C = some (excClassObj nm q C N bs bm true sn sub ab col dd k0 k1 k2 k3 k5 "Exception.__new__") ∧ refsX bm = true := by
  unfold exXB at h
  split at h
  case h_2 => cases h
  rename_i t dd cd sl ho
  obtain ⟨h1, h⟩ := andp h
  obtain ⟨h2, h⟩ := andp h
  obtain ⟨h3, h⟩ := andp h
  obtain ⟨h4, h5⟩ := andp h
  split at h4
  case h_2 => cases h4
  rename_i C1 bm hm
  split at h5
  case h_2 => cases h5
  rename_i k0 k1 k2 k3 n k5 hs
  obtain ⟨h6, h7⟩ := andp h4
  obtain rfl := of_decide_eq_true h1
  obtain rfl := of_decide_eq_true h5
  obtain rfl := of_decide_eq_true h6
  obtain ⟨nm, bs, mro, ns, qn, hd, sn, sub, ab, col, del⟩ := cd
  dsimp only at hm h2 h3
  subst hm
  obtain rfl : hd = true := h2
  obtain rfl : del = false := by simpa using h3
  have hsl : sl = #[k0, k1, k2, k3, some (.builtin "Exception.__new__"), k5] := by
    obtain ⟨l⟩ := sl
    simp only at hs
    rw [hs]
  subst hsl
  exact ⟨nm, qn, ns, bs, bm, sn, sub, ab, col, dd, k0, k1, k2, k3, k5, ho, h7⟩
/-- what is known of an own class with one field -/
structure ClsE (K : PySem.W.Frag) (c f : Str) : Prop where
  oex : OexX K (He.ga K c)
  fld : PySem.W.findIn K (.ref (He.ga K c)) f = some none
  ini : PySem.W.findIn K (.ref (He.ga K c)) "__init__" = some (some (.ref (He.ma K (He.ga K c) "__init__")))
  tin : PySem.W.typeIn K (.ref (He.ma K (He.ga K c) "__init__")) = some (.type "function")
  xf : XfC K (He.ga K c)
  ex : ExcC K (He.ga K c)
def clsEB (K : PySem.W.Frag) (p : Str × Str) : Bool :=
  exXB K (He.ga K p.1) && (decide (PySem.W.findIn K (.ref (He.ga K p.1)) "__setattr__" = some (some (.builtin "object.__setattr__"))) && (decide (PySem.W.subIn K (.ref (He.ga K p.1)) (.type "BaseException") = some true) &&
  (decide (PySem.W.typeIn K (.ref (He.ga K p.1)) = some (.type "type")) && (PySem.W.keepIn K (.ref (He.ga K p.1)) && (decide (PySem.W.findIn K (.ref (He.ga K p.1)) p.2 = some none) &&
  (decide (PySem.W.findIn K (.ref (He.ga K p.1)) "__init__" = some (some (.ref (He.ma K (He.ga K p.1) "__init__")))) && (decide (PySem.W.typeIn K (.ref (He.ma K (He.ga K p.1) "__init__")) = some (.type "function")) && (xfB K (He.ga K p.1) &&
  (decide (PySem.W.findIn K (.ref (He.ga K p.1)) "__class__" = some (some (.builtin "object.__class__"))) && (decide (PySem.W.specialIn K (.builtin "object.__class__") "__get__" = some (some (.builtin "getset_descriptor.__get__"))) &&
  (decide (PySem.W.takesIn K (.builtin "object.__class__") = some true) && decide (PySem.W.mroIn K (He.ga K p.1) (.type "object") = some true))))))))))))
theorem clsEB_ok {K : PySem.W.Frag} {c f : Str} (h : clsEB K (c, f) = true) : ClsE K c f := by
  unfold clsEB at h
  obtain ⟨h1, h⟩ := andp h
  obtain ⟨h2, h⟩ := andp h
  obtain ⟨h3, h⟩ := andp h
  obtain ⟨h4, h⟩ := andp h
  obtain ⟨h5, h⟩ := andp h
  obtain ⟨h6, h⟩ := andp h
  obtain ⟨h7, h⟩ := andp h
  obtain ⟨h8, h⟩ := andp h
  obtain ⟨h9, h⟩ := andp h
  obtain ⟨h10, h⟩ := andp h
  obtain ⟨h11, h⟩ := andp h
  obtain ⟨h12, h13⟩ := andp h
  have x := xfB_ok h9
  exact ⟨⟨exXB_ok h1, of_decide_eq_true h2, of_decide_eq_true h3, of_decide_eq_true h4, h5⟩, of_decide_eq_true h6, of_decide_eq_true h7, of_decide_eq_true h8, x,
    ⟨x.ga, x.gg, x.exC, x.hdC, of_decide_eq_true h10, of_decide_eq_true h11, of_decide_eq_true h12, of_decide_eq_true h13⟩⟩
/-- which class is caught by which, is which -/
def prB (K : PySem.W.Frag) (p : Str × Str × Bool) : Bool := decide (PySem.W.kitOne K (.ref (He.ga K p.1)) (.ref (He.ga K p.2.1)) = some p.2.2) && decide (PySem.W.exmOne K (.ref (He.ga K p.1)) (.ref (He.ga K p.2.1)) = some p.2.2)
def xcB (cl : List (Str × Str)) (pr : List (Str × Str × Bool)) (K : PySem.W.Frag) : Bool := cl.all (clsEB K) && pr.all (prB K)
section
variable {cl : List (Str × Str)} {pr : List (Str × Str × Bool)} {K : PySem.W.Frag}
theorem xcB_cls (h : xcB cl pr K = true) (i : Nat) {c f : Str} (e : cl[i]? = some (c, f) := by rfl) : ClsE K c f := clsEB_ok (List.all_eq_true.mp (andp h).1 _ (List.mem_of_getElem? e))
theorem xcB_kit (h : xcB cl pr K = true) (i : Nat) {c d : Str} {b : Bool} (e : pr[i]? = some (c, d, b) := by rfl) : PySem.W.kitOne K (.ref (He.ga K c)) (.ref (He.ga K d)) = some b := of_decide_eq_true (andp (List.all_eq_true.mp (andp h).2 _ (List.mem_of_getElem? e))).1
theorem xcB_exm (h : xcB cl pr K = true) (i : Nat) {c d : Str} {b : Bool} (e : pr[i]? = some (c, d, b) := by rfl) : PySem.W.exmOne K (.ref (He.ga K c)) (.ref (He.ga K d)) = some b := of_decide_eq_true (andp (List.all_eq_true.mp (andp h).2 _ (List.mem_of_getElem? e))).2
end
/-- C(e), from what is known of the class -/
theorem mkE {X : Cx} {CX : CXT} {x f : Str} {k : Nat} {fd : FuncData} {ps : List Str} {p pos : Pos} {e : Expr} {es : List Expr} {ta : TA} (T : ClsE X.K x f)
    (F1 : FnOk X.prog X.w X.K X.mg X.base CX k (He.ma X.K (He.ga X.K x) "__init__") fd ps (spI X.K f)) (hr : Room (k + 1) X.A) (hb : Binds X.K fd ps []) (hx : Passes CX X (fun _ _ _ => False)) (hg : Gl X x) (hm : X.mg x = some (.ref (He.ga X.K x))) (ha : PA X (e :: es) ta)
    (hdb : (x == ("__debug__" : Str)) = false := by decide) (he : starEach (e :: es) X.env = (false, eval e X.env) :: starEach es X.env := by rfl) (hpl : (backTo pos (starEach es X.env)).any (·.1) = false := by rfl) :
    PMk X (.Call (.Name x p) (e :: es) [] pos) (fun σ H Q => ta σ H fun vs H1 => ∃ y, vs = [y] ∧ ∀ d, H1 d = none → Q (.ref (He.ga X.K x)) (some d) (upd H1 d (.xd [(f, y)]))) :=
  pmk_exX T.oex T.fld T.ini T.tin F1 hr hb hx hg hm ha hdb he hpl
/-- no exception of a callee, none taken -/
theorem passF0 {X : Cx} {P : Program} {w : World} (hP : P = X.prog := by rfl) (hw : w = X.w := by rfl) : Passes (L2.CX P w) X (fun _ _ _ => False) := fun _ _ _ _ _ _ _ ⟨_, _, _, _, _, _, _, _, _, _, _, _, z⟩ => z.elim
end Z

set_option Elab.async false
set_option linter.all false
set_option maxRecDepth 100000
set_option maxHeartbeats 4000000
/-! k26: the walk, the head (printed by pyz.py). -/
namespace Wk26
open PySem PySem.Spec PyProof.Rows L2 Z Lk26
def top (i : Nat) : Stmt := PySem.Challenge.pw_eyesonly_k26_polynomials_and_their_value.main.body.getD i (.Pass ⟨0, 0, 0, 0⟩)
def fdOf (K : PySem.W.Frag) (x : Str) : FuncData := match K.lookup (He.ga K x) with
  | some ⟨_, _, .func d, _⟩ => d
  | _ => default
abbrev FnP (K : PySem.W.Frag) (x : Str) (i : Nat) : Prop := FunD K x x (defArgs (top i)) (defBody (top i)) (defScope (top i)) [] [] (He.ga K x) (fdOf K x)
def inClass (s : Stmt) (j : Nat) : Stmt := match s with
  | .ClassDef _ _ _ b _ _ _ _ _ _ _ => b.getD j (.Pass ⟨0, 0, 0, 0⟩)
  | s => s
def fdM (K : PySem.W.Frag) (c : Str) : FuncData := match K.lookup (He.ma K (He.ga K c) "__init__") with
  | some ⟨_, _, .func d, _⟩ => d
  | _ => default
structure Mx (w : World) (K : PySem.W.Frag) (mg : Str → Option Value) : Prop where
  sys : SysD K
  b_bool : mg "bool" = none
  b_int : mg "int" = none
  b_isinstance : mg "isinstance" = none
  b_len : mg "len" = none
  b_list : mg "list" = none
  b_max : mg "max" = none
  b_range : mg "range" = none
  b_repr : mg "repr" = none
  b_str : mg "str" = none
  b_sum : mg "sum" = none
  b_tuple : mg "tuple" = none
  g__law_deck : mg "_law_deck" = some (.ref (He.ga K "_law_deck"))
  d__law_deck : FnP K "_law_deck" 16
  g__law_draw : mg "_law_draw" = some (.ref (He.ga K "_law_draw"))
  d__law_draw : FnP K "_law_draw" 17
  g__law_pick : mg "_law_pick" = some (.ref (He.ga K "_law_pick"))
  d__law_pick : FnP K "_law_pick" 18
  g__law_drawn_poly : mg "_law_drawn_poly" = some (.ref (He.ga K "_law_drawn_poly"))
  d__law_drawn_poly : FnP K "_law_drawn_poly" 25
  g__law_is_integer : mg "_law_is_integer" = some (.ref (He.ga K "_law_is_integer"))
  d__law_is_integer : FnP K "_law_is_integer" 19
  g__law_is_poly : mg "_law_is_poly" = some (.ref (He.ga K "_law_is_poly"))
  d__law_is_poly : FnP K "_law_is_poly" 22
  g__law_tried : mg "_law_tried" = some (.ref (He.ga K "_law_tried"))
  d__law_tried : FnP K "_law_tried" 27
  g__law_odd : mg "_law_odd" = some (.ref (He.ga K "_law_odd"))
  d__law_odd : FnP K "_law_odd" 20
  g__law_bent : mg "_law_bent" = some (.ref (He.ga K "_law_bent"))
  d__law_bent : FnP K "_law_bent" 21
  g__law_near_poly : mg "_law_near_poly" = some (.ref (He.ga K "_law_near_poly"))
  d__law_near_poly : FnP K "_law_near_poly" 26
  g__law_power : mg "_law_power" = some (.ref (He.ga K "_law_power"))
  d__law_power : FnP K "_law_power" 23
  g__law_value_at : mg "_law_value_at" = some (.ref (He.ga K "_law_value_at"))
  d__law_value_at : FnP K "_law_value_at" 24
  g_power : mg "power" = some (.ref (He.ga K "power"))
  d_power : FnP K "power" 10
  g_value_of : mg "value_of" = some (.ref (He.ga K "value_of"))
  d_value_of : FnP K "value_of" 11
  g_is_tuple : mg "is_tuple" = some (.ref (He.ga K "is_tuple"))
  d_is_tuple : FnP K "is_tuple" 7
  g_is_integer : mg "is_integer" = some (.ref (He.ga K "is_integer"))
  d_is_integer : FnP K "is_integer" 5
  g_is_from : mg "is_from" = some (.ref (He.ga K "is_from"))
  d_is_from : FnP K "is_from" 6
  g_is_poly_value : mg "is_poly_value" = some (.ref (He.ga K "is_poly_value"))
  d_is_poly_value : FnP K "is_poly_value" 9
  g_value_at : mg "value_at" = some (.ref (He.ga K "value_at"))
  d_value_at : FnP K "value_at" 14
  g_is_poly : mg "is_poly" = some (.ref (He.ga K "is_poly"))
  d_is_poly : FnP K "is_poly" 13
  g_law : mg "law" = some (.ref (He.ga K "law"))
  d_law : FnP K "law" 28
  g_BadNumber : mg "BadNumber" = some (.ref (He.ga K "BadNumber"))
  g_BadPoly : mg "BadPoly" = some (.ref (He.ga K "BadPoly"))
  g_EyesError : mg "EyesError" = some (.ref (He.ga K "EyesError"))
  x_BadNumber : ClsE K "BadNumber" "thing"
  x_BadPoly : ClsE K "BadPoly" "thing"
  k_BadNumber_BadNumber : PySem.W.kitOne K (.ref (He.ga K "BadNumber")) (.ref (He.ga K "BadNumber")) = some true
  k_BadNumber_BadPoly : PySem.W.kitOne K (.ref (He.ga K "BadNumber")) (.ref (He.ga K "BadPoly")) = some false
  k_BadNumber_EyesError : PySem.W.kitOne K (.ref (He.ga K "BadNumber")) (.ref (He.ga K "EyesError")) = some true
  k_BadPoly_BadNumber : PySem.W.kitOne K (.ref (He.ga K "BadPoly")) (.ref (He.ga K "BadNumber")) = some false
  k_BadPoly_BadPoly : PySem.W.kitOne K (.ref (He.ga K "BadPoly")) (.ref (He.ga K "BadPoly")) = some true
  k_BadPoly_EyesError : PySem.W.kitOne K (.ref (He.ga K "BadPoly")) (.ref (He.ga K "EyesError")) = some true
  e_BadNumber_BadNumber : PySem.W.exmOne K (.ref (He.ga K "BadNumber")) (.ref (He.ga K "BadNumber")) = some true
  e_BadNumber_BadPoly : PySem.W.exmOne K (.ref (He.ga K "BadNumber")) (.ref (He.ga K "BadPoly")) = some false
  e_BadNumber_EyesError : PySem.W.exmOne K (.ref (He.ga K "BadNumber")) (.ref (He.ga K "EyesError")) = some true
  e_BadPoly_BadNumber : PySem.W.exmOne K (.ref (He.ga K "BadPoly")) (.ref (He.ga K "BadNumber")) = some false
  e_BadPoly_BadPoly : PySem.W.exmOne K (.ref (He.ga K "BadPoly")) (.ref (He.ga K "BadPoly")) = some true
  e_BadPoly_EyesError : PySem.W.exmOne K (.ref (He.ga K "BadPoly")) (.ref (He.ga K "EyesError")) = some true
  i_BadNumber : FunD K "__init__" "BadNumber.__init__" (defArgs (inClass (top 2) 0)) (defBody (inClass (top 2) 0)) (defScope (inClass (top 2) 0)) [] [] (He.ma K (He.ga K "BadNumber") "__init__") (fdM K "BadNumber")
  i_BadPoly : FunD K "__init__" "BadPoly.__init__" (defArgs (inClass (top 3) 0)) (defBody (inClass (top 3) 0)) (defScope (inClass (top 3) 0)) [] [] (He.ma K (He.ga K "BadPoly") "__init__") (fdM K "BadPoly")
variable [LamT]
section
variable {P : Program} {w : World} {K : PySem.W.Frag} {mg : Str → Option Value} {base : Heap}
theorem sci_BadNumber : FnScope ["self", "thing"] ["self", "thing"] (defScope (inClass (top 2) 0)) := ⟨rfl, rfl, rfl, by decide +kernel, rfl, by decide +kernel, by decide +kernel⟩
theorem I_BadNumber (M : Mx w K mg) : FnOk P w K mg base (L2.CX P w) 1 (He.ma K (He.ga K "BadNumber") "__init__") (fdM K "BadNumber") ["self", "thing"] (spI K "thing") := fn_init (k := 0) M.i_BadNumber sci_BadNumber rfl rfl (by first | exact .inl rfl | exact .inr (.inl rfl)) (by first | exact .inl rfl | exact .inr (.inl rfl))
theorem bi_BadNumber (M : Mx w K mg) : Binds K (fdM K "BadNumber") ["self", "thing"] [] := M.i_BadNumber.bindsN fun _ _ _ _ _ _ us hl => match us, hl with | [_, _], _ => rfl
theorem sci_BadPoly : FnScope ["self", "thing"] ["self", "thing"] (defScope (inClass (top 3) 0)) := ⟨rfl, rfl, rfl, by decide +kernel, rfl, by decide +kernel, by decide +kernel⟩
theorem I_BadPoly (M : Mx w K mg) : FnOk P w K mg base (L2.CX P w) 1 (He.ma K (He.ga K "BadPoly") "__init__") (fdM K "BadPoly") ["self", "thing"] (spI K "thing") := fn_init (k := 0) M.i_BadPoly sci_BadPoly rfl rfl (by first | exact .inl rfl | exact .inr (.inl rfl)) (by first | exact .inl rfl | exact .inr (.inl rfl))
theorem bi_BadPoly (M : Mx w K mg) : Binds K (fdM K "BadPoly") ["self", "thing"] [] := M.i_BadPoly.bindsN fun _ _ _ _ _ _ us hl => match us, hl with | [_, _], _ => rfl
theorem sc__law_deck : FnScope ["_law_script", "_law_mixed", "_law_cell"] ["_law_script"] (defScope (top 16)) := ⟨rfl, rfl, rfl, by decide +kernel, rfl, by decide +kernel, by decide +kernel⟩
theorem F__law_deck (M : Mx w K mg) : FnZ P w K mg base (L2.CX P w) 1 (He.ga K "_law_deck") (fdOf K "_law_deck") ["_law_script"] f__law_deck := by
  refine fnz_of (ps := ["_law_script"]) (m := b__law_deck) M.d__law_deck sc__law_deck fun cdv A outer sh H E hr gd => ?_
  have hu := hr.units
  have hu1 := Nat.lt_of_le_of_lt (Nat.add_le_add_left (show 1 ≤ 64 by decide) _) hr.units
  have gdS := gd
  have huS := hu
  exact ((sss_cons (ss_set sc__law_deck.nd rfl (by first | exact .inl rfl | exact .inr rfl) (by first | exact .inl rfl | exact .inr rfl) se_int)
  (sss_cons (ss_for ownE rfl (si_any (se_slice false (se_var (i := 0) rfl (by first | exact .inl rfl | exact .inr (.inl rfl) | exact .inr (.inr rfl))) sp_none (sp_some se_int))) (sg_name sc__law_deck.nd rfl (by first | exact .inl rfl | exact .inr rfl) (by first | exact .inl rfl | exact .inr rfl)) (sss_one (ss_set sc__law_deck.nd rfl (by first | exact .inl rfl | exact .inr rfl) (by first | exact .inl rfl | exact .inr rfl) (se_op r_mod (se_callTy c_int rfl M.b_int (by decide +kernel) (sa_cons (se_op (r_add false) (se_op (r_add false) (se_op r_mulI (se_var (i := 1) rfl (by first | exact .inl rfl | exact .inr (.inl rfl) | exact .inr (.inr rfl))) se_int) (se_op r_mod (se_callTy c_int rfl M.b_int (by decide +kernel) (sa_cons (se_var (i := 2) rfl (by first | exact .inl rfl | exact .inr (.inl rfl) | exact .inr (.inr rfl))) sa_nil)) se_int)) se_int) sa_nil)) se_int))))
  (sss_one (ss_ret (se_disp true (pps_cons se_str (se_back true (se_callTy (c_list false) rfl M.b_list (by decide +kernel) (sa_cons (se_slice false (se_var (i := 0) rfl (by first | exact .inl rfl | exact .inr (.inl rfl) | exact .inr (.inr rfl))) sp_none (sp_some se_int)) sa_nil))) (pps_cons se_str (se_var (i := 1) rfl (by first | exact .inl rfl | exact .inr (.inl rfl) | exact .inr (.inr rfl))) (pps_cons se_str se_int pps_nil))) (dok_cons (dok_cons (dok_cons dok_nil)))))))))
theorem bd__law_deck (M : Mx w K mg) : Binds K (fdOf K "_law_deck") ["_law_script"] [] := M.d__law_deck.bindsN fun _ _ _ _ _ _ us hl => match us, hl with | [_], _ => rfl
theorem sc__law_draw : FnScope ["_law_deck_here", "_law_many", "_law_cell", "_law_figure"] ["_law_deck_here", "_law_many"] (defScope (top 17)) := ⟨rfl, rfl, rfl, by decide +kernel, rfl, by decide +kernel, by decide +kernel⟩
theorem F__law_draw (M : Mx w K mg) : FnZ P w K mg base (L2.CX P w) 1 (He.ga K "_law_draw") (fdOf K "_law_draw") ["_law_deck_here", "_law_many"] f__law_draw := by
  refine fnz_of (ps := ["_law_deck_here", "_law_many"]) (m := b__law_draw) M.d__law_draw sc__law_draw fun cdv A outer sh H E hr gd => ?_
  have hu := hr.units
  have hu1 := Nat.lt_of_le_of_lt (Nat.add_le_add_left (show 1 ≤ 64 by decide) _) hr.units
  have gdS := gd
  have huS := hu
  exact ((sss_cons (ss_dput hu1 (se_var (i := 0) rfl (by first | exact .inl rfl | exact .inr (.inl rfl) | exact .inr (.inr rfl))) se_str (se_op (r_add false) (se_dget hu1 (se_var (i := 0) rfl (by first | exact .inl rfl | exact .inr (.inl rfl) | exact .inr (.inr rfl))) se_str) se_int))
  (sss_cons (ss_if (st_cmp (r_neD hu) (se_dget hu1 (se_var (i := 0) rfl (by first | exact .inl rfl | exact .inr (.inl rfl) | exact .inr (.inr rfl))) se_str) (se_lst false sa_nil) rfl) (sss_cons (ss_set sc__law_draw.nd rfl (by first | exact .inl rfl | exact .inr rfl) (by first | exact .inl rfl | exact .inr rfl) (se_bm0 (T := .list) PySem.F.plainAttrs_list PySem.F.slot_list_pop PySem.F.type_list_pop m_pop (se_dget hu1 (se_var (i := 0) rfl (by first | exact .inl rfl | exact .inr (.inl rfl) | exact .inr (.inr rfl))) se_str)))
  (sss_cons (ss_if (st_cmp r_ge (se_var (i := 2) rfl (by first | exact .inl rfl | exact .inr (.inl rfl) | exact .inr (.inr rfl))) (se_op r_pow se_int se_int) rfl) (sss_cons (ss_expr (se_bm (T := .list) PySem.F.plainAttrs_list PySem.F.slot_list_append PySem.F.type_list_append m_append (se_dget hu1 (se_var (i := 0) rfl (by first | exact .inl rfl | exact .inr (.inl rfl) | exact .inr (.inr rfl))) se_str) (sa_cons (se_op r_fdiv (se_var (i := 2) rfl (by first | exact .inl rfl | exact .inr (.inl rfl) | exact .inr (.inr rfl))) (se_callB (c_max2 rfl) rfl M.b_max (by decide +kernel) (sa_cons se_int (sa_cons (se_var (i := 1) rfl (by first | exact .inl rfl | exact .inr (.inl rfl) | exact .inr (.inr rfl))) sa_nil)))) sa_nil)))
  (sss_one (ss_ret (se_op r_mod (se_callTy c_int rfl M.b_int (by decide +kernel) (sa_cons (se_var (i := 2) rfl (by first | exact .inl rfl | exact .inr (.inl rfl) | exact .inr (.inr rfl))) sa_nil)) (se_var (i := 1) rfl (by first | exact .inl rfl | exact .inr (.inl rfl) | exact .inr (.inr rfl))))))) sss_nil)
  (sss_one (ss_dput hu1 (se_var (i := 0) rfl (by first | exact .inl rfl | exact .inr (.inl rfl) | exact .inr (.inr rfl))) se_str (se_op r_mod (se_callTy c_int rfl M.b_int (by decide +kernel) (sa_cons (se_op (r_add false) (se_op (r_add false) (se_op r_mulI (se_dget hu1 (se_var (i := 0) rfl (by first | exact .inl rfl | exact .inr (.inl rfl) | exact .inr (.inr rfl))) se_str) se_int) (se_op r_mod (se_callTy c_int rfl M.b_int (by decide +kernel) (sa_cons (se_var (i := 2) rfl (by first | exact .inl rfl | exact .inr (.inl rfl) | exact .inr (.inr rfl))) sa_nil)) se_int)) se_int) sa_nil)) se_int))))) sss_nil)
  (sss_cons (ss_set sc__law_draw.nd rfl (by first | exact .inl rfl | exact .inr rfl) (by first | exact .inl rfl | exact .inr rfl) (se_op r_mod (se_callTy c_int rfl M.b_int (by decide +kernel) (sa_cons (se_op (r_add false) (se_dget hu1 (se_var (i := 0) rfl (by first | exact .inl rfl | exact .inr (.inl rfl) | exact .inr (.inr rfl))) se_str) (se_op r_mulI se_int (se_dget hu1 (se_var (i := 0) rfl (by first | exact .inl rfl | exact .inr (.inl rfl) | exact .inr (.inr rfl))) se_str))) sa_nil)) se_int))
  (sss_cons (ss_set sc__law_draw.nd rfl (by first | exact .inl rfl | exact .inr rfl) (by first | exact .inl rfl | exact .inr rfl) (se_op r_mod (se_callTy c_int rfl M.b_int (by decide +kernel) (sa_cons (se_op (r_add false) (se_op (r_add false) (se_op r_mulI (se_var (i := 3) rfl (by first | exact .inl rfl | exact .inr (.inl rfl) | exact .inr (.inr rfl))) (se_var (i := 3) rfl (by first | exact .inl rfl | exact .inr (.inl rfl) | exact .inr (.inr rfl)))) (se_op r_mulI se_int (se_dget hu1 (se_var (i := 0) rfl (by first | exact .inl rfl | exact .inr (.inl rfl) | exact .inr (.inr rfl))) se_str))) se_int) sa_nil)) se_int))
  (sss_cons (ss_set sc__law_draw.nd rfl (by first | exact .inl rfl | exact .inr rfl) (by first | exact .inl rfl | exact .inr rfl) (se_op r_mod (se_callTy c_int rfl M.b_int (by decide +kernel) (sa_cons (se_op (r_add false) (se_op r_mulI (se_var (i := 3) rfl (by first | exact .inl rfl | exact .inr (.inl rfl) | exact .inr (.inr rfl))) se_int) se_int) sa_nil)) se_int))
  (sss_one (ss_ret (se_op r_mod (se_callTy c_int rfl M.b_int (by decide +kernel) (sa_cons (se_op r_fdiv (se_var (i := 3) rfl (by first | exact .inl rfl | exact .inr (.inl rfl) | exact .inr (.inr rfl))) se_int) sa_nil)) (se_var (i := 1) rfl (by first | exact .inl rfl | exact .inr (.inl rfl) | exact .inr (.inr rfl))))))))))))
theorem bd__law_draw (M : Mx w K mg) : Binds K (fdOf K "_law_draw") ["_law_deck_here", "_law_many"] [] := M.d__law_draw.bindsN fun _ _ _ _ _ _ us hl => match us, hl with | [_, _], _ => rfl
theorem sc__law_pick : FnScope ["_law_deck_here", "_law_some"] ["_law_deck_here", "_law_some"] (defScope (top 18)) := ⟨rfl, rfl, rfl, by decide +kernel, rfl, by decide +kernel, by decide +kernel⟩
theorem F__law_pick (M : Mx w K mg) : FnZ P w K mg base (L2.CX P w) 2 (He.ga K "_law_pick") (fdOf K "_law_pick") ["_law_deck_here", "_law_some"] f__law_pick := by
  refine fnz_of (ps := ["_law_deck_here", "_law_some"]) (m := b__law_pick) M.d__law_pick sc__law_pick fun cdv A outer sh H E hr gd => ?_
  have hu := hr.units
  have hu1 := Nat.lt_of_le_of_lt (Nat.add_le_add_left (show 1 ≤ 64 by decide) _) hr.units
  have gdS := gd
  have huS := hu
  exact ((sss_one (ss_ret (se_ix (se_var (i := 1) rfl (by first | exact .inl rfl | exact .inr (.inl rfl) | exact .inr (.inr rfl))) (se_call (F__law_draw M) (hr.mono (by decide)) gd rfl M.g__law_draw M.d__law_draw.kp (bd__law_draw M) passE (sa_cons (se_var (i := 0) rfl (by first | exact .inl rfl | exact .inr (.inl rfl) | exact .inr (.inr rfl))) (sa_cons (se_callB c_len rfl M.b_len (by decide +kernel) (sa_cons (se_var (i := 1) rfl (by first | exact .inl rfl | exact .inr (.inl rfl) | exact .inr (.inr rfl))) sa_nil)) sa_nil)))))))
theorem bd__law_pick (M : Mx w K mg) : Binds K (fdOf K "_law_pick") ["_law_deck_here", "_law_some"] [] := M.d__law_pick.bindsN fun _ _ _ _ _ _ us hl => match us, hl with | [_, _], _ => rfl
theorem sc__law_drawn_poly : FnScope ["_law_deck_here", "_law_most", "_law_found", "_law_many", "_law_turn", "_law_pair"] ["_law_deck_here", "_law_most"] (defScope (top 25)) := ⟨rfl, rfl, rfl, by decide +kernel, rfl, by decide +kernel, by decide +kernel⟩
theorem F__law_drawn_poly (M : Mx w K mg) : FnZ P w K mg base (L2.CX P w) 3 (He.ga K "_law_drawn_poly") (fdOf K "_law_drawn_poly") ["_law_deck_here", "_law_most"] f__law_drawn_poly := by
  refine fnz_of (ps := ["_law_deck_here", "_law_most"]) (m := b__law_drawn_poly) M.d__law_drawn_poly sc__law_drawn_poly fun cdv A outer sh H E hr gd => ?_
  have hu := hr.units
  have hu1 := Nat.lt_of_le_of_lt (Nat.add_le_add_left (show 1 ≤ 64 by decide) _) hr.units
  have gdS := gd
  have huS := hu
  exact ((sss_cons (ss_par rfl sc__law_drawn_poly.nd rfl rfl (by decide) rfl rfl (sa_cons (se_lst true sa_nil) (sa_cons se_int sa_nil)))
  (sss_cons (ss_for ownE rfl (si_range1 rfl M.b_range (sa_cons (se_call (F__law_draw M) (hr.mono (by decide)) gd rfl M.g__law_draw M.d__law_draw.kp (bd__law_draw M) passE (sa_cons (se_var (i := 0) rfl (by first | exact .inl rfl | exact .inr (.inl rfl) | exact .inr (.inr rfl))) (sa_cons (se_op (r_add false) (se_var (i := 1) rfl (by first | exact .inl rfl | exact .inr (.inl rfl) | exact .inr (.inr rfl))) se_int) sa_nil))) sa_nil)) (sg_name sc__law_drawn_poly.nd rfl (by first | exact .inl rfl | exact .inr rfl) (by first | exact .inl rfl | exact .inr rfl)) (sss_cons (ss_set sc__law_drawn_poly.nd rfl (by first | exact .inl rfl | exact .inr rfl) (by first | exact .inl rfl | exact .inr rfl) (se_if (st_cmp r_gt (se_var (i := 4) rfl (by first | exact .inl rfl | exact .inr (.inl rfl) | exact .inr (.inr rfl))) se_int rfl) (se_op (r_add false) (se_var (i := 3) rfl (by first | exact .inl rfl | exact .inr (.inl rfl) | exact .inr (.inr rfl))) (se_call (F__law_draw M) (hr.mono (by decide)) gd rfl M.g__law_draw M.d__law_draw.kp (bd__law_draw M) passE (sa_cons (se_var (i := 0) rfl (by first | exact .inl rfl | exact .inr (.inl rfl) | exact .inr (.inr rfl))) (sa_cons se_int sa_nil)))) (se_call (F__law_draw M) (hr.mono (by decide)) gd rfl M.g__law_draw M.d__law_draw.kp (bd__law_draw M) passE (sa_cons (se_var (i := 0) rfl (by first | exact .inl rfl | exact .inr (.inl rfl) | exact .inr (.inr rfl))) (sa_cons se_int sa_nil)))))
  (sss_one (ss_if (st_w (sw_and (st_cmp r_lt (se_var (i := 3) rfl (by first | exact .inl rfl | exact .inr (.inl rfl) | exact .inr (.inr rfl))) se_int rfl) (sw_and1 (st_cmp r_notin (se_var (i := 3) rfl (by first | exact .inl rfl | exact .inr (.inl rfl) | exact .inr (.inr rfl))) (se_lc (own := [("_law_pair", 5)]) false rfl sc__law_drawn_poly.nd (si_any (se_var (i := 2) rfl (by first | exact .inl rfl | exact .inr (.inl rfl) | exact .inr (.inr rfl)))) (blkOk_by (N := ["_law_deck_here", "_law_most", "_law_found", "_law_many", "_law_turn", "_law_pair"]) (sc := defScope (top 25)) (by decide +kernel)) (fun _ _ _ _ _ => (sg_name sc__law_drawn_poly.nd rfl (by first | exact .inl rfl | exact .inr rfl) (by first | exact .inl rfl | exact .inr rfl))) (fun _ _ _ _ _ => sts_nil) (fun _ _ _ _ _ => (se_ix (se_var (i := 5) rfl (by first | exact .inl rfl | exact .inr (.inl rfl) | exact .inr (.inr rfl))) se_int))) rfl)))) (sss_one (ss_expr (se_bm (T := .list) PySem.F.plainAttrs_list PySem.F.slot_list_append PySem.F.type_list_append m_append (se_var (i := 2) rfl (by first | exact .inl rfl | exact .inr (.inl rfl) | exact .inr (.inr rfl))) (sa_cons (se_tup (sa_cons (se_var (i := 3) rfl (by first | exact .inl rfl | exact .inr (.inl rfl) | exact .inr (.inr rfl))) (sa_cons (se_op (r_add false) se_int (se_call (F__law_draw M) (hr.mono (by decide)) gd rfl M.g__law_draw M.d__law_draw.kp (bd__law_draw M) passE (sa_cons (se_var (i := 0) rfl (by first | exact .inl rfl | exact .inr (.inl rfl) | exact .inr (.inr rfl))) (sa_cons (se_call (F__law_pick M) (hr.mono (by decide)) gd rfl M.g__law_pick M.d__law_pick.kp (bd__law_pick M) passE (sa_cons (se_var (i := 0) rfl (by first | exact .inl rfl | exact .inr (.inl rfl) | exact .inr (.inr rfl))) (sa_cons (se_lst false (sa_cons se_int (sa_cons se_int (sa_cons (se_op r_pow se_int se_int) sa_nil)))) sa_nil))) sa_nil)))) sa_nil))) sa_nil)))) sss_nil))))
  (sss_one (ss_ret (se_callTy c_tuple rfl M.b_tuple (by decide +kernel) (sa_cons (se_var (i := 2) rfl (by first | exact .inl rfl | exact .inr (.inl rfl) | exact .inr (.inr rfl))) sa_nil)))))))
theorem bd__law_drawn_poly (M : Mx w K mg) : Binds K (fdOf K "_law_drawn_poly") ["_law_deck_here", "_law_most"] [] := M.d__law_drawn_poly.bindsN fun _ _ _ _ _ _ us hl => match us, hl with | [_, _], _ => rfl
theorem sc__law_is_integer : FnScope ["_law_thing"] ["_law_thing"] (defScope (top 19)) := ⟨rfl, rfl, rfl, by decide +kernel, rfl, by decide +kernel, by decide +kernel⟩
theorem F__law_is_integer (M : Mx w K mg) : FnZ P w K mg base (L2.CX P w) 1 (He.ga K "_law_is_integer") (fdOf K "_law_is_integer") ["_law_thing"] f__law_is_integer := by
  refine fnz_of (ps := ["_law_thing"]) (m := b__law_is_integer) M.d__law_is_integer sc__law_is_integer fun cdv A outer sh H E hr gd => ?_
  have hu := hr.units
  have hu1 := Nat.lt_of_le_of_lt (Nat.add_le_add_left (show 1 ≤ 64 by decide) _) hr.units
  have gdS := gd
  have huS := hu
  exact ((sss_one (ss_ret (se_and (se_isi .int rfl M.b_isinstance rfl M.b_int (by decide +kernel) (se_var (i := 0) rfl (by first | exact .inl rfl | exact .inr (.inl rfl) | exact .inr (.inr rfl)))) (se_one (se_not (se_isi .bool rfl M.b_isinstance rfl M.b_bool (by decide +kernel) (se_var (i := 0) rfl (by first | exact .inl rfl | exact .inr (.inl rfl) | exact .inr (.inr rfl))))))))))
theorem bd__law_is_integer (M : Mx w K mg) : Binds K (fdOf K "_law_is_integer") ["_law_thing"] [] := M.d__law_is_integer.bindsN fun _ _ _ _ _ _ us hl => match us, hl with | [_], _ => rfl
theorem sc__law_is_poly : FnScope ["_law_thing", "_law_pair", "_law_at"] ["_law_thing"] (defScope (top 22)) := ⟨rfl, rfl, rfl, by decide +kernel, rfl, by decide +kernel, by decide +kernel⟩
theorem F__law_is_poly (M : Mx w K mg) : FnZ P w K mg base (L2.CX P w) 2 (He.ga K "_law_is_poly") (fdOf K "_law_is_poly") ["_law_thing"] f__law_is_poly := by
  refine fnz_of (ps := ["_law_thing"]) (m := b__law_is_poly) M.d__law_is_poly sc__law_is_poly fun cdv A outer sh H E hr gd => ?_
  have hu := hr.units
  have hu1 := Nat.lt_of_le_of_lt (Nat.add_le_add_left (show 1 ≤ 64 by decide) _) hr.units
  have gdS := gd
  have huS := hu
  exact ((sss_cons (ss_if (st_not (st_val (se_isi .tuple rfl M.b_isinstance rfl M.b_tuple (by decide +kernel) (se_var (i := 0) rfl (by first | exact .inl rfl | exact .inr (.inl rfl) | exact .inr (.inr rfl)))))) (sss_one (ss_ret se_bl)) sss_nil)
  (sss_cons (ss_for ownE rfl (si_any (se_var (i := 0) rfl (by first | exact .inl rfl | exact .inr (.inl rfl) | exact .inr (.inr rfl)))) (sg_name sc__law_is_poly.nd rfl (by first | exact .inl rfl | exact .inr rfl) (by first | exact .inl rfl | exact .inr rfl)) (sss_cons (ss_if (st_w (sw_or (st_not (st_val (se_isi .tuple rfl M.b_isinstance rfl M.b_tuple (by decide +kernel) (se_var (i := 1) rfl (by first | exact .inl rfl | exact .inr (.inl rfl) | exact .inr (.inr rfl)))))) (sw_or (st_cmp (r_neD hu) (se_callB c_len rfl M.b_len (by decide +kernel) (sa_cons (se_var (i := 1) rfl (by first | exact .inl rfl | exact .inr (.inl rfl) | exact .inr (.inr rfl))) sa_nil)) se_int rfl) (sw_or (st_not (st_val (se_call (F__law_is_integer M) (hr.mono (by decide)) gd rfl M.g__law_is_integer M.d__law_is_integer.kp (bd__law_is_integer M) passE (sa_cons (se_ix (se_var (i := 1) rfl (by first | exact .inl rfl | exact .inr (.inl rfl) | exact .inr (.inr rfl))) se_int) sa_nil)))) (sw_or1 (st_not (st_val (se_call (F__law_is_integer M) (hr.mono (by decide)) gd rfl M.g__law_is_integer M.d__law_is_integer.kp (bd__law_is_integer M) passE (sa_cons (se_ix (se_var (i := 1) rfl (by first | exact .inl rfl | exact .inr (.inl rfl) | exact .inr (.inr rfl))) se_int) sa_nil))))))))) (sss_one (ss_ret se_bl)) sss_nil)
  (sss_one (ss_if (st_w (sw_or (st_cmp r_lt (se_ix (se_var (i := 1) rfl (by first | exact .inl rfl | exact .inr (.inl rfl) | exact .inr (.inr rfl))) se_int) se_int rfl) (sw_or1 (st_cmp r_lt (se_ix (se_var (i := 1) rfl (by first | exact .inl rfl | exact .inr (.inl rfl) | exact .inr (.inr rfl))) se_int) se_int rfl)))) (sss_one (ss_ret se_bl)) sss_nil))))
  (sss_one (ss_ret (se_cmp (r_eqD hu) (se_lc (own := [("_law_at", 2)]) false rfl sc__law_is_poly.nd (si_range1 rfl M.b_range (sa_cons (se_op r_sub (se_callB c_len rfl M.b_len (by decide +kernel) (sa_cons (se_var (i := 0) rfl (by first | exact .inl rfl | exact .inr (.inl rfl) | exact .inr (.inr rfl))) sa_nil)) se_int) sa_nil)) (blkOk_by (N := ["_law_thing", "_law_pair", "_law_at"]) (sc := defScope (top 22)) (by decide +kernel)) (fun _ _ _ _ _ => (sg_name sc__law_is_poly.nd rfl (by first | exact .inl rfl | exact .inr rfl) (by first | exact .inl rfl | exact .inr rfl))) (fun _ _ _ _ _ => (sts_one (st_cmp r_ge (se_ix (se_ix (se_var (i := 0) rfl (by first | exact .inl rfl | exact .inr (.inl rfl) | exact .inr (.inr rfl))) (se_var (i := 2) rfl (by first | exact .inl rfl | exact .inr (.inl rfl) | exact .inr (.inr rfl)))) se_int) (se_ix (se_ix (se_var (i := 0) rfl (by first | exact .inl rfl | exact .inr (.inl rfl) | exact .inr (.inr rfl))) (se_op (r_add false) (se_var (i := 2) rfl (by first | exact .inl rfl | exact .inr (.inl rfl) | exact .inr (.inr rfl))) se_int)) se_int) rfl))) (fun _ _ _ _ _ => (se_var (i := 2) rfl (by first | exact .inl rfl | exact .inr (.inl rfl) | exact .inr (.inr rfl))))) (se_lst false sa_nil) rfl))))))
theorem bd__law_is_poly (M : Mx w K mg) : Binds K (fdOf K "_law_is_poly") ["_law_thing"] [] := M.d__law_is_poly.bindsN fun _ _ _ _ _ _ us hl => match us, hl with | [_], _ => rfl
theorem sc__law_tried : FnScope ["_law_call", "e", "_law_kinds"] ["_law_call"] (defScope (top 27)) := ⟨rfl, rfl, rfl, by decide +kernel, rfl, by decide +kernel, by decide +kernel⟩
theorem hc__law_tried {c : Str} {k : Bool} (h : hd__law_tried c = some k) : (c = "BadNumber" ∧ k = true) ∨ (c = "BadPoly" ∧ k = true) := by
  unfold hd__law_tried at h
  by_cases h0 : c = "BadNumber"
  · rw [if_pos h0] at h; cases h; exact .inl ⟨h0, rfl⟩
  rw [if_neg h0] at h
  by_cases h1 : c = "BadPoly"
  · rw [if_pos h1] at h; cases h; exact .inr (⟨h1, rfl⟩)
  rw [if_neg h1] at h
  cases h
theorem G__law_tried {X : Cx} (M : Mx w X.K X.mg) {g : Addr} {cdg : Value} {q : Str} {k : Nat} (gd : X.A.guards = some []) (hr : Room (k + 1) X.A) : LamX.GivesTo X ["_law_call", "e", "_law_kinds"] "_law_tried" (defScope (top 27)) g cdg (defBody (top 27)) "_law_call" q (TTg X t__law_tried 3) := by
  refine gives_triedG (Ng := ["_law_call", "e", "_law_kinds"]) (bm := t__law_tried) (by decide) fun s H P k hP hF act => ?_
  have gdS : (ctxG X ["_law_call", "e", "_law_kinds"] "_law_tried" (defScope (top 27)) g cdg s H).A.guards = some [] := gd
  have huS : (ctxG X ["_law_call", "e", "_law_kinds"] "_law_tried" (defScope (top 27)) g cdg s H).A.units + 64 < cLine := (hr.deeper (envOfC "_law_tried" (defScope (top 27)) s.heap.objs.size g cdg)).units
  have hu := huS
  exact (sps_one0 (ss_tryG (cC := He.ga X.K "EyesError") rfl rfl sc__law_tried.nd rfl rfl ⟨rfl, by decide, .inl M.g_EyesError⟩ LamX.takes0 (fun pn xe Ex2 tk ho => (sps_one0 (xs_p0 (sp_ret hP (sp_tup hP (spa_cons hP (sp_lift se_str) (spa_cons hP (act _ _ pn xe Ex2 tk) spa_nil)))))))
  (fun c b C h1 h2 => by
    rcases hc__law_tried h1 with ⟨rfl, rfl⟩ | ⟨rfl, rfl⟩
    · have e := h2.symm.trans M.g_BadNumber; cases e; exact M.e_BadNumber_EyesError
    · have e := h2.symm.trans M.g_BadPoly; cases e; exact M.e_BadPoly_EyesError)
  (fun c C a oe d x pn h1 h2 hz hf => by
    rcases hc__law_tried h1 with ⟨rfl, kk⟩ | ⟨rfl, kk⟩
    · have e := h2.symm.trans M.g_BadNumber
      cases e
      have eh : h__law_tried "BadNumber" x = (sSeq (sAsg (eTup (aCons (eK (.bl false)) (aCons (eK (.bl true)) aNil))) (mName 2))
  (sRet (eTup (aCons (eC (.str "raised")) (aCons (eV 2) (aCons (eIf (tB (eOp oIn (eC (.bl true)) (eV 2))) (eLs bRepr (aCons (eK x) aNil)) (eC .non)) aNil)))))) := by unfold h__law_tried; exact if_pos rfl
      rw [eh]
      exact (sps_cons (sp_set PSu.mon (PSu.free (by decide)) sc__law_tried.nd rfl (by first | exact .inl rfl | exact .inr rfl) (by first | exact .inl rfl | exact .inr rfl) (sp_tup PSu.mon (spa_cons PSu.mon (sp_k (sx_is M.x_BadNumber.ex hz hf rfl (by first | exact .inl rfl | exact .inr (.inl rfl) | exact .inr (.inr rfl)) rfl M.b_isinstance rfl M.g_BadPoly M.k_BadNumber_BadPoly)) (spa_cons PSu.mon (sp_k (sx_is M.x_BadNumber.ex hz hf rfl (by first | exact .inl rfl | exact .inr (.inl rfl) | exact .inr (.inr rfl)) rfl M.b_isinstance rfl M.g_BadNumber M.k_BadNumber_BadNumber)) spa_nil))))
  (sps_one (sp_ret PSu.mon (sp_tup PSu.mon (spa_cons PSu.mon (sp_lift se_str) (spa_cons PSu.mon (sp_lift (se_var (i := 2) rfl (by first | exact .inl rfl | exact .inr (.inl rfl) | exact .inr (.inr rfl)))) (spa_cons PSu.mon (sp_if PSu.mon (sp_tlift (st_cmp r_in se_bl (se_var (i := 2) rfl (by first | exact .inl rfl | exact .inr (.inl rfl) | exact .inr (.inr rfl))) rfl)) (sp_callB PSu.mon (c_repr M.sys gdS huS) rfl M.b_repr (by decide +kernel) (spa_cons PSu.mon (sp_k (sx_thing M.x_BadNumber.xf M.x_BadNumber.fld hz hf rfl (by first | exact .inl rfl | exact .inr (.inl rfl) | exact .inr (.inr rfl)))) spa_nil)) (sp_lift se_non)) spa_nil)))))))
    · have e := h2.symm.trans M.g_BadPoly
      cases e
      have eh : h__law_tried "BadPoly" x = (sSeq (sAsg (eTup (aCons (eK (.bl true)) (aCons (eK (.bl false)) aNil))) (mName 2))
  (sRet (eTup (aCons (eC (.str "raised")) (aCons (eV 2) (aCons (eIf (tB (eOp oIn (eC (.bl true)) (eV 2))) (eLs bRepr (aCons (eK x) aNil)) (eC .non)) aNil)))))) := by unfold h__law_tried; rw [if_neg (by decide +kernel)]; exact if_pos rfl
      rw [eh]
      exact (sps_cons (sp_set PSu.mon (PSu.free (by decide)) sc__law_tried.nd rfl (by first | exact .inl rfl | exact .inr rfl) (by first | exact .inl rfl | exact .inr rfl) (sp_tup PSu.mon (spa_cons PSu.mon (sp_k (sx_is M.x_BadPoly.ex hz hf rfl (by first | exact .inl rfl | exact .inr (.inl rfl) | exact .inr (.inr rfl)) rfl M.b_isinstance rfl M.g_BadPoly M.k_BadPoly_BadPoly)) (spa_cons PSu.mon (sp_k (sx_is M.x_BadPoly.ex hz hf rfl (by first | exact .inl rfl | exact .inr (.inl rfl) | exact .inr (.inr rfl)) rfl M.b_isinstance rfl M.g_BadNumber M.k_BadPoly_BadNumber)) spa_nil))))
  (sps_one (sp_ret PSu.mon (sp_tup PSu.mon (spa_cons PSu.mon (sp_lift se_str) (spa_cons PSu.mon (sp_lift (se_var (i := 2) rfl (by first | exact .inl rfl | exact .inr (.inl rfl) | exact .inr (.inr rfl)))) (spa_cons PSu.mon (sp_if PSu.mon (sp_tlift (st_cmp r_in se_bl (se_var (i := 2) rfl (by first | exact .inl rfl | exact .inr (.inl rfl) | exact .inr (.inr rfl))) rfl)) (sp_callB PSu.mon (c_repr M.sys gdS huS) rfl M.b_repr (by decide +kernel) (spa_cons PSu.mon (sp_k (sx_thing M.x_BadPoly.xf M.x_BadPoly.fld hz hf rfl (by first | exact .inl rfl | exact .inr (.inl rfl) | exact .inr (.inr rfl)))) spa_nil)) (sp_lift se_non)) spa_nil))))))))))
theorem bd__law_tried (M : Mx w K mg) : Binds K (fdOf K "_law_tried") ["_law_call"] [] := M.d__law_tried.bindsN fun _ _ _ _ _ _ us hl => match us, hl with | [_], _ => rfl
theorem sc__law_odd : FnScope ["_law_deck_here"] ["_law_deck_here"] (defScope (top 20)) := ⟨rfl, rfl, rfl, by decide +kernel, rfl, by decide +kernel, by decide +kernel⟩
theorem F__law_odd (M : Mx w K mg) : FnZ P w K mg base (L2.CX P w) 3 (He.ga K "_law_odd") (fdOf K "_law_odd") ["_law_deck_here"] f__law_odd := by
  refine fnz_of (ps := ["_law_deck_here"]) (m := b__law_odd) M.d__law_odd sc__law_odd fun cdv A outer sh H E hr gd => ?_
  have hu := hr.units
  have hu1 := Nat.lt_of_le_of_lt (Nat.add_le_add_left (show 1 ≤ 64 by decide) _) hr.units
  have gdS := gd
  have huS := hu
  exact ((sss_one (ss_ret (se_call (F__law_pick M) (hr.mono (by decide)) gd rfl M.g__law_pick M.d__law_pick.kp (bd__law_pick M) passE (sa_cons (se_var (i := 0) rfl (by first | exact .inl rfl | exact .inr (.inl rfl) | exact .inr (.inr rfl))) (sa_cons (se_lst false (sa_cons se_bl (sa_cons se_non (sa_cons se_int (sa_cons se_str (sa_cons (se_tup sa_nil) (sa_cons (se_lst false sa_nil) (sa_cons (se_dic0 false) (sa_cons (se_un r_neg se_int) (sa_cons se_int (sa_cons se_bl (sa_cons (se_tup (sa_cons se_str (sa_cons (se_tup sa_nil) sa_nil))) (sa_cons se_str (sa_cons se_str (sa_cons se_int (sa_cons se_str (sa_cons (se_tup (sa_cons se_int sa_nil)) (sa_cons (se_tup (sa_cons se_str sa_nil)) (sa_cons (se_op r_pow se_int se_int) (sa_cons se_str (sa_cons (se_tup (sa_cons se_str sa_nil)) sa_nil))))))))))))))))))))) sa_nil))))))
theorem bd__law_odd (M : Mx w K mg) : Binds K (fdOf K "_law_odd") ["_law_deck_here"] [] := M.d__law_odd.bindsN fun _ _ _ _ _ _ us hl => match us, hl with | [_], _ => rfl
theorem sc__law_bent : FnScope ["_law_deck_here", "_law_thing", "_law_deep", "_law_at", "_law_way"] ["_law_deck_here", "_law_thing", "_law_deep"] (defScope (top 21)) := ⟨rfl, rfl, rfl, by decide +kernel, rfl, by decide +kernel, by decide +kernel⟩
theorem bd__law_bent (M : Mx w K mg) : Binds K (fdOf K "_law_bent") ["_law_deck_here", "_law_thing", "_law_deep"] [] := M.d__law_bent.bindsN fun _ _ _ _ _ _ us hl => match us, hl with | [_, _, _], _ => rfl
theorem W__law_bent (M : Mx w K mg) {k : Nat} {rec : FM} (hk : 3 ≤ k) (FR : FnZ P w K mg base (L2.CX P w) k (He.ga K "_law_bent") (fdOf K "_law_bent") ["_law_deck_here", "_law_thing", "_law_deep"] rec) : FnZ P w K mg base (L2.CX P w) (k + 1) (He.ga K "_law_bent") (fdOf K "_law_bent") ["_law_deck_here", "_law_thing", "_law_deep"] (fnM 3 ["_law_deck_here", "_law_thing", "_law_deep", "_law_at", "_law_way"] (b__law_bent rec)) := by
  refine fnz_of (ps := ["_law_deck_here", "_law_thing", "_law_deep"]) M.d__law_bent sc__law_bent fun cdv A outer sh H E hr gd => ?_
  have hu := hr.units
  have hu1 := Nat.lt_of_le_of_lt (Nat.add_le_add_left (show 1 ≤ 64 by decide) _) hr.units
  have gdS := gd
  have huS := hu
  exact ((sss_cons (ss_if (st_w (sw_or (st_not (st_val (se_isi .tuple rfl M.b_isinstance rfl M.b_tuple (by decide +kernel) (se_var (i := 1) rfl (by first | exact .inl rfl | exact .inr (.inl rfl) | exact .inr (.inr rfl)))))) (sw_or (st_cmp (r_eqD hu) (se_var (i := 1) rfl (by first | exact .inl rfl | exact .inr (.inl rfl) | exact .inr (.inr rfl))) (se_tup sa_nil) rfl) (sw_or1 (st_cmp (r_eqD hu) (se_var (i := 2) rfl (by first | exact .inl rfl | exact .inr (.inl rfl) | exact .inr (.inr rfl))) se_int rfl))))) (sss_one (ss_ret (se_call (F__law_odd M) (hr.mono (by omega)) gd rfl M.g__law_odd M.d__law_odd.kp (bd__law_odd M) passE (sa_cons (se_var (i := 0) rfl (by first | exact .inl rfl | exact .inr (.inl rfl) | exact .inr (.inr rfl))) sa_nil)))) sss_nil)
  (sss_cons (ss_par rfl sc__law_bent.nd rfl rfl (by decide) rfl rfl (sa_cons (se_call (F__law_draw M) (hr.mono (by omega)) gd rfl M.g__law_draw M.d__law_draw.kp (bd__law_draw M) passE (sa_cons (se_var (i := 0) rfl (by first | exact .inl rfl | exact .inr (.inl rfl) | exact .inr (.inr rfl))) (sa_cons (se_callB c_len rfl M.b_len (by decide +kernel) (sa_cons (se_var (i := 1) rfl (by first | exact .inl rfl | exact .inr (.inl rfl) | exact .inr (.inr rfl))) sa_nil)) sa_nil))) (sa_cons (se_call (F__law_draw M) (hr.mono (by omega)) gd rfl M.g__law_draw M.d__law_draw.kp (bd__law_draw M) passE (sa_cons (se_var (i := 0) rfl (by first | exact .inl rfl | exact .inr (.inl rfl) | exact .inr (.inr rfl))) (sa_cons se_int sa_nil))) sa_nil)))
  (sss_cons (ss_if (st_cmp (r_eqD hu) (se_var (i := 4) rfl (by first | exact .inl rfl | exact .inr (.inl rfl) | exact .inr (.inr rfl))) se_int rfl) (sss_one (ss_ret (se_op (r_add false) (se_slice false (se_var (i := 1) rfl (by first | exact .inl rfl | exact .inr (.inl rfl) | exact .inr (.inr rfl))) sp_none (sp_some (se_var (i := 3) rfl (by first | exact .inl rfl | exact .inr (.inl rfl) | exact .inr (.inr rfl))))) (se_slice false (se_var (i := 1) rfl (by first | exact .inl rfl | exact .inr (.inl rfl) | exact .inr (.inr rfl))) (sp_some (se_op (r_add false) (se_var (i := 3) rfl (by first | exact .inl rfl | exact .inr (.inl rfl) | exact .inr (.inr rfl))) se_int)) sp_none)))) sss_nil)
  (sss_cons (ss_if (st_cmp (r_eqD hu) (se_var (i := 4) rfl (by first | exact .inl rfl | exact .inr (.inl rfl) | exact .inr (.inr rfl))) se_int rfl) (sss_one (ss_ret (se_op (r_add false) (se_slice false (se_var (i := 1) rfl (by first | exact .inl rfl | exact .inr (.inl rfl) | exact .inr (.inr rfl))) sp_none (sp_some (se_op (r_add false) (se_var (i := 3) rfl (by first | exact .inl rfl | exact .inr (.inl rfl) | exact .inr (.inr rfl))) se_int))) (se_slice false (se_var (i := 1) rfl (by first | exact .inl rfl | exact .inr (.inl rfl) | exact .inr (.inr rfl))) (sp_some (se_var (i := 3) rfl (by first | exact .inl rfl | exact .inr (.inl rfl) | exact .inr (.inr rfl)))) sp_none)))) sss_nil)
  (sss_cons (ss_if (st_cmp (r_eqD hu) (se_var (i := 4) rfl (by first | exact .inl rfl | exact .inr (.inl rfl) | exact .inr (.inr rfl))) se_int rfl) (sss_one (ss_ret (se_back false (se_var (i := 1) rfl (by first | exact .inl rfl | exact .inr (.inl rfl) | exact .inr (.inr rfl)))))) sss_nil)
  (sss_cons (ss_if (st_cmp (r_eqD hu) (se_var (i := 4) rfl (by first | exact .inl rfl | exact .inr (.inl rfl) | exact .inr (.inr rfl))) se_int rfl) (sss_one (ss_ret (se_callTy (c_list false) rfl M.b_list (by decide +kernel) (sa_cons (se_var (i := 1) rfl (by first | exact .inl rfl | exact .inr (.inl rfl) | exact .inr (.inr rfl))) sa_nil)))) sss_nil)
  (sss_cons (ss_if (st_cmp (r_eqD hu) (se_var (i := 4) rfl (by first | exact .inl rfl | exact .inr (.inl rfl) | exact .inr (.inr rfl))) se_int rfl) (sss_one (ss_ret (se_op (r_add false) (se_op (r_add false) (se_slice false (se_var (i := 1) rfl (by first | exact .inl rfl | exact .inr (.inl rfl) | exact .inr (.inr rfl))) sp_none (sp_some (se_var (i := 3) rfl (by first | exact .inl rfl | exact .inr (.inl rfl) | exact .inr (.inr rfl))))) (se_tup (sa_cons (se_call (F__law_odd M) (hr.mono (by omega)) gd rfl M.g__law_odd M.d__law_odd.kp (bd__law_odd M) passE (sa_cons (se_var (i := 0) rfl (by first | exact .inl rfl | exact .inr (.inl rfl) | exact .inr (.inr rfl))) sa_nil)) sa_nil))) (se_slice false (se_var (i := 1) rfl (by first | exact .inl rfl | exact .inr (.inl rfl) | exact .inr (.inr rfl))) (sp_some (se_op (r_add false) (se_var (i := 3) rfl (by first | exact .inl rfl | exact .inr (.inl rfl) | exact .inr (.inr rfl))) se_int)) sp_none)))) sss_nil)
  (sss_cons (ss_if (st_w (sw_and (st_val (se_isi .bool rfl M.b_isinstance rfl M.b_bool (by decide +kernel) (se_ix (se_var (i := 1) rfl (by first | exact .inl rfl | exact .inr (.inl rfl) | exact .inr (.inr rfl))) (se_var (i := 3) rfl (by first | exact .inl rfl | exact .inr (.inl rfl) | exact .inr (.inr rfl)))))) (sw_and1 (st_cmp (r_eqD hu) (se_call (F__law_draw M) (hr.mono (by omega)) gd rfl M.g__law_draw M.d__law_draw.kp (bd__law_draw M) passE (sa_cons (se_var (i := 0) rfl (by first | exact .inl rfl | exact .inr (.inl rfl) | exact .inr (.inr rfl))) (sa_cons se_int sa_nil))) se_int rfl)))) (sss_one (ss_ret (se_op (r_add false) (se_op (r_add false) (se_slice false (se_var (i := 1) rfl (by first | exact .inl rfl | exact .inr (.inl rfl) | exact .inr (.inr rfl))) sp_none (sp_some (se_var (i := 3) rfl (by first | exact .inl rfl | exact .inr (.inl rfl) | exact .inr (.inr rfl))))) (se_tup (sa_cons (se_call (F__law_pick M) (hr.mono (by omega)) gd rfl M.g__law_pick M.d__law_pick.kp (bd__law_pick M) passE (sa_cons (se_var (i := 0) rfl (by first | exact .inl rfl | exact .inr (.inl rfl) | exact .inr (.inr rfl))) (sa_cons (se_lst false (sa_cons (se_not (se_ix (se_var (i := 1) rfl (by first | exact .inl rfl | exact .inr (.inl rfl) | exact .inr (.inr rfl))) (se_var (i := 3) rfl (by first | exact .inl rfl | exact .inr (.inl rfl) | exact .inr (.inr rfl))))) (sa_cons (se_if (st_val (se_ix (se_var (i := 1) rfl (by first | exact .inl rfl | exact .inr (.inl rfl) | exact .inr (.inr rfl))) (se_var (i := 3) rfl (by first | exact .inl rfl | exact .inr (.inl rfl) | exact .inr (.inr rfl))))) se_int se_int) sa_nil))) sa_nil))) sa_nil))) (se_slice false (se_var (i := 1) rfl (by first | exact .inl rfl | exact .inr (.inl rfl) | exact .inr (.inr rfl))) (sp_some (se_op (r_add false) (se_var (i := 3) rfl (by first | exact .inl rfl | exact .inr (.inl rfl) | exact .inr (.inr rfl))) se_int)) sp_none)))) sss_nil)
  (sss_cons (ss_if (st_w (sw_and (st_val (se_call (F__law_is_integer M) (hr.mono (by omega)) gd rfl M.g__law_is_integer M.d__law_is_integer.kp (bd__law_is_integer M) passE (sa_cons (se_ix (se_var (i := 1) rfl (by first | exact .inl rfl | exact .inr (.inl rfl) | exact .inr (.inr rfl))) (se_var (i := 3) rfl (by first | exact .inl rfl | exact .inr (.inl rfl) | exact .inr (.inr rfl)))) sa_nil))) (sw_and1 (st_cmp (r_eqD hu) (se_call (F__law_draw M) (hr.mono (by omega)) gd rfl M.g__law_draw M.d__law_draw.kp (bd__law_draw M) passE (sa_cons (se_var (i := 0) rfl (by first | exact .inl rfl | exact .inr (.inl rfl) | exact .inr (.inr rfl))) (sa_cons se_int sa_nil))) se_int rfl)))) (sss_one (ss_ret (se_op (r_add false) (se_op (r_add false) (se_slice false (se_var (i := 1) rfl (by first | exact .inl rfl | exact .inr (.inl rfl) | exact .inr (.inr rfl))) sp_none (sp_some (se_var (i := 3) rfl (by first | exact .inl rfl | exact .inr (.inl rfl) | exact .inr (.inr rfl))))) (se_tup (sa_cons (se_call (F__law_pick M) (hr.mono (by omega)) gd rfl M.g__law_pick M.d__law_pick.kp (bd__law_pick M) passE (sa_cons (se_var (i := 0) rfl (by first | exact .inl rfl | exact .inr (.inl rfl) | exact .inr (.inr rfl))) (sa_cons (se_lst false (sa_cons (se_op (r_add false) (se_ix (se_var (i := 1) rfl (by first | exact .inl rfl | exact .inr (.inl rfl) | exact .inr (.inr rfl))) (se_var (i := 3) rfl (by first | exact .inl rfl | exact .inr (.inl rfl) | exact .inr (.inr rfl)))) se_int) (sa_cons (se_op r_sub (se_ix (se_var (i := 1) rfl (by first | exact .inl rfl | exact .inr (.inl rfl) | exact .inr (.inr rfl))) (se_var (i := 3) rfl (by first | exact .inl rfl | exact .inr (.inl rfl) | exact .inr (.inr rfl)))) se_int) (sa_cons se_int (sa_cons se_int sa_nil))))) sa_nil))) sa_nil))) (se_slice false (se_var (i := 1) rfl (by first | exact .inl rfl | exact .inr (.inl rfl) | exact .inr (.inr rfl))) (sp_some (se_op (r_add false) (se_var (i := 3) rfl (by first | exact .inl rfl | exact .inr (.inl rfl) | exact .inr (.inr rfl))) se_int)) sp_none)))) sss_nil)
  (sss_cons (ss_if (st_w (sw_and (st_val (se_isi .str rfl M.b_isinstance rfl M.b_str (by decide +kernel) (se_ix (se_var (i := 1) rfl (by first | exact .inl rfl | exact .inr (.inl rfl) | exact .inr (.inr rfl))) (se_var (i := 3) rfl (by first | exact .inl rfl | exact .inr (.inl rfl) | exact .inr (.inr rfl)))))) (sw_and1 (st_cmp (r_eqD hu) (se_call (F__law_draw M) (hr.mono (by omega)) gd rfl M.g__law_draw M.d__law_draw.kp (bd__law_draw M) passE (sa_cons (se_var (i := 0) rfl (by first | exact .inl rfl | exact .inr (.inl rfl) | exact .inr (.inr rfl))) (sa_cons se_int sa_nil))) se_int rfl)))) (sss_one (ss_ret (se_op (r_add false) (se_op (r_add false) (se_slice false (se_var (i := 1) rfl (by first | exact .inl rfl | exact .inr (.inl rfl) | exact .inr (.inr rfl))) sp_none (sp_some (se_var (i := 3) rfl (by first | exact .inl rfl | exact .inr (.inl rfl) | exact .inr (.inr rfl))))) (se_tup (sa_cons (se_call (F__law_pick M) (hr.mono (by omega)) gd rfl M.g__law_pick M.d__law_pick.kp (bd__law_pick M) passE (sa_cons (se_var (i := 0) rfl (by first | exact .inl rfl | exact .inr (.inl rfl) | exact .inr (.inr rfl))) (sa_cons (se_lst false (sa_cons (se_op (r_add false) (se_ix (se_var (i := 1) rfl (by first | exact .inl rfl | exact .inr (.inl rfl) | exact .inr (.inr rfl))) (se_var (i := 3) rfl (by first | exact .inl rfl | exact .inr (.inl rfl) | exact .inr (.inr rfl)))) se_str) (sa_cons (se_slice false (se_ix (se_var (i := 1) rfl (by first | exact .inl rfl | exact .inr (.inl rfl) | exact .inr (.inr rfl))) (se_var (i := 3) rfl (by first | exact .inl rfl | exact .inr (.inl rfl) | exact .inr (.inr rfl)))) sp_none (sp_some (se_un r_neg se_int))) (sa_cons se_str (sa_cons se_str (sa_cons (se_op (r_add false) (se_ix (se_var (i := 1) rfl (by first | exact .inl rfl | exact .inr (.inl rfl) | exact .inr (.inr rfl))) (se_var (i := 3) rfl (by first | exact .inl rfl | exact .inr (.inl rfl) | exact .inr (.inr rfl)))) se_str) sa_nil)))))) sa_nil))) sa_nil))) (se_slice false (se_var (i := 1) rfl (by first | exact .inl rfl | exact .inr (.inl rfl) | exact .inr (.inr rfl))) (sp_some (se_op (r_add false) (se_var (i := 3) rfl (by first | exact .inl rfl | exact .inr (.inl rfl) | exact .inr (.inr rfl))) se_int)) sp_none)))) sss_nil)
  (sss_one (ss_ret (se_op (r_add false) (se_op (r_add false) (se_slice false (se_var (i := 1) rfl (by first | exact .inl rfl | exact .inr (.inl rfl) | exact .inr (.inr rfl))) sp_none (sp_some (se_var (i := 3) rfl (by first | exact .inl rfl | exact .inr (.inl rfl) | exact .inr (.inr rfl))))) (se_tup (sa_cons (se_call FR (hr.mono (by omega)) gd rfl M.g__law_bent M.d__law_bent.kp (bd__law_bent M) passE (sa_cons (se_var (i := 0) rfl (by first | exact .inl rfl | exact .inr (.inl rfl) | exact .inr (.inr rfl))) (sa_cons (se_ix (se_var (i := 1) rfl (by first | exact .inl rfl | exact .inr (.inl rfl) | exact .inr (.inr rfl))) (se_var (i := 3) rfl (by first | exact .inl rfl | exact .inr (.inl rfl) | exact .inr (.inr rfl)))) (sa_cons (se_op r_sub (se_var (i := 2) rfl (by first | exact .inl rfl | exact .inr (.inl rfl) | exact .inr (.inr rfl))) se_int) sa_nil)))) sa_nil))) (se_slice false (se_var (i := 1) rfl (by first | exact .inl rfl | exact .inr (.inl rfl) | exact .inr (.inr rfl))) (sp_some (se_op (r_add false) (se_var (i := 3) rfl (by first | exact .inl rfl | exact .inr (.inl rfl) | exact .inr (.inr rfl))) se_int)) sp_none)))))))))))))))
theorem R__law_bent (M : Mx w K mg) : ∀ n : Nat, FnZ P w K mg base (L2.CX P w) (3 + n) (He.ga K "_law_bent") (fdOf K "_law_bent") ["_law_deck_here", "_law_thing", "_law_deep"] (r__law_bent n)
  | 0 => ⟨fun _ _ _ => rfl, fun A outer sh H args us vs Q E _ _ _ _ _ h => by obtain ⟨W, s, pvs, _, _, q⟩ := h; exact q.elim⟩
  | n + 1 => W__law_bent M (Nat.le_add_right _ _) (R__law_bent M n)
theorem F__law_bent (M : Mx w K mg) : FnZ P w K mg base (L2.CX P w) 14 (He.ga K "_law_bent") (fdOf K "_law_bent") ["_law_deck_here", "_law_thing", "_law_deep"] f__law_bent := (R__law_bent M 10).up (by decide)
theorem sc__law_near_poly : FnScope ["_law_deck_here", "_law_poly", "_law_some"] ["_law_deck_here", "_law_poly"] (defScope (top 26)) := ⟨rfl, rfl, rfl, by decide +kernel, rfl, by decide +kernel, by decide +kernel⟩
theorem F__law_near_poly (M : Mx w K mg) : FnZ P w K mg base (L2.CX P w) 15 (He.ga K "_law_near_poly") (fdOf K "_law_near_poly") ["_law_deck_here", "_law_poly"] f__law_near_poly := by
  refine fnz_of (ps := ["_law_deck_here", "_law_poly"]) (m := b__law_near_poly) M.d__law_near_poly sc__law_near_poly fun cdv A outer sh H E hr gd => ?_
  have hu := hr.units
  have hu1 := Nat.lt_of_le_of_lt (Nat.add_le_add_left (show 1 ≤ 64 by decide) _) hr.units
  have gdS := gd
  have huS := hu
  exact ((sss_cons (ss_set sc__law_near_poly.nd rfl (by first | exact .inl rfl | exact .inr rfl) (by first | exact .inl rfl | exact .inr rfl) (se_lst true (sa_cons (se_back false (se_var (i := 1) rfl (by first | exact .inl rfl | exact .inr (.inl rfl) | exact .inr (.inr rfl)))) (sa_cons (se_callTy (c_list false) rfl M.b_list (by decide +kernel) (sa_cons (se_var (i := 1) rfl (by first | exact .inl rfl | exact .inr (.inl rfl) | exact .inr (.inr rfl))) sa_nil)) (sa_cons (se_op (r_add false) (se_var (i := 1) rfl (by first | exact .inl rfl | exact .inr (.inl rfl) | exact .inr (.inr rfl))) (se_slice false (se_var (i := 1) rfl (by first | exact .inl rfl | exact .inr (.inl rfl) | exact .inr (.inr rfl))) sp_none (sp_some se_int))) (sa_cons (se_op (r_add false) (se_var (i := 1) rfl (by first | exact .inl rfl | exact .inr (.inl rfl) | exact .inr (.inr rfl))) (se_tup (sa_cons (se_tup (sa_cons se_int (sa_cons se_int sa_nil))) sa_nil))) (sa_cons (se_op (r_add false) (se_var (i := 1) rfl (by first | exact .inl rfl | exact .inr (.inl rfl) | exact .inr (.inr rfl))) (se_tup (sa_cons (se_tup (sa_cons se_int (sa_cons (se_un r_neg se_int) sa_nil))) sa_nil))) (sa_cons (se_op (r_add false) (se_tup (sa_cons (se_tup (sa_cons (se_un r_neg se_int) (sa_cons se_int sa_nil))) sa_nil)) (se_var (i := 1) rfl (by first | exact .inl rfl | exact .inr (.inl rfl) | exact .inr (.inr rfl)))) (sa_cons (se_op (r_add false) (se_var (i := 1) rfl (by first | exact .inl rfl | exact .inr (.inl rfl) | exact .inr (.inr rfl))) (se_tup (sa_cons (se_tup (sa_cons se_bl (sa_cons se_int sa_nil))) sa_nil))) (sa_cons (se_op (r_add false) (se_var (i := 1) rfl (by first | exact .inl rfl | exact .inr (.inl rfl) | exact .inr (.inr rfl))) (se_tup (sa_cons (se_tup (sa_cons se_int (sa_cons se_bl sa_nil))) sa_nil))) (sa_cons (se_tup (sa_cons (se_tup (sa_cons se_int (sa_cons se_int (sa_cons se_int sa_nil)))) sa_nil)) sa_nil)))))))))))
  (sss_cons (ss_expr (se_bm (T := .list) PySem.F.plainAttrs_list PySem.F.slot_list_extend PySem.F.type_list_extend m_extG (se_var (i := 2) rfl (by first | exact .inl rfl | exact .inr (.inl rfl) | exact .inr (.inr rfl))) (sa_cons (se_lst false (sa_cons (se_tup (sa_cons (se_tup (sa_cons se_int sa_nil)) sa_nil)) (sa_cons (se_tup (sa_cons (se_lst false (sa_cons se_int (sa_cons se_int sa_nil))) sa_nil)) (sa_cons (se_tup (sa_cons (se_tup (sa_cons se_str (sa_cons se_int sa_nil))) sa_nil)) (sa_cons (se_tup (sa_cons (se_tup (sa_cons se_int (sa_cons se_str sa_nil))) sa_nil)) (sa_cons se_int (sa_cons se_non (sa_cons se_str (sa_cons (se_dic0 false) (sa_cons (se_tup (sa_cons se_int (sa_cons se_int sa_nil))) (sa_cons (se_tup (sa_cons (se_tup (sa_cons se_int (sa_cons se_non sa_nil))) sa_nil)) (sa_cons (se_tup (sa_cons (se_tup (sa_cons se_int (sa_cons se_int sa_nil))) (sa_cons (se_tup (sa_cons se_int (sa_cons se_int sa_nil))) sa_nil))) (sa_cons (se_tup (sa_cons (se_tup (sa_cons se_int (sa_cons se_int sa_nil))) (sa_cons (se_tup (sa_cons se_int (sa_cons se_int sa_nil))) sa_nil))) sa_nil))))))))))))) sa_nil)))
  (sss_one (ss_ret (se_if (st_cmp (r_eqD hu) (se_call (F__law_draw M) (hr.mono (by decide)) gd rfl M.g__law_draw M.d__law_draw.kp (bd__law_draw M) passE (sa_cons (se_var (i := 0) rfl (by first | exact .inl rfl | exact .inr (.inl rfl) | exact .inr (.inr rfl))) (sa_cons se_int sa_nil))) se_int rfl) (se_call (F__law_bent M) (hr.mono (by decide)) gd rfl M.g__law_bent M.d__law_bent.kp (bd__law_bent M) passE (sa_cons (se_var (i := 0) rfl (by first | exact .inl rfl | exact .inr (.inl rfl) | exact .inr (.inr rfl))) (sa_cons (se_var (i := 1) rfl (by first | exact .inl rfl | exact .inr (.inl rfl) | exact .inr (.inr rfl))) (sa_cons se_int sa_nil)))) (se_call (F__law_pick M) (hr.mono (by decide)) gd rfl M.g__law_pick M.d__law_pick.kp (bd__law_pick M) passE (sa_cons (se_var (i := 0) rfl (by first | exact .inl rfl | exact .inr (.inl rfl) | exact .inr (.inr rfl))) (sa_cons (se_var (i := 2) rfl (by first | exact .inl rfl | exact .inr (.inl rfl) | exact .inr (.inr rfl))) sa_nil)))))))))
theorem bd__law_near_poly (M : Mx w K mg) : Binds K (fdOf K "_law_near_poly") ["_law_deck_here", "_law_poly"] [] := M.d__law_near_poly.bindsN fun _ _ _ _ _ _ us hl => match us, hl with | [_, _], _ => rfl
theorem sc__law_power : FnScope ["_law_m", "_law_many", "_law_found", "_law_turn"] ["_law_m", "_law_many"] (defScope (top 23)) := ⟨rfl, rfl, rfl, by decide +kernel, rfl, by decide +kernel, by decide +kernel⟩
theorem F__law_power (M : Mx w K mg) : FnZ P w K mg base (L2.CX P w) 1 (He.ga K "_law_power") (fdOf K "_law_power") ["_law_m", "_law_many"] f__law_power := by
  refine fnz_of (ps := ["_law_m", "_law_many"]) (m := b__law_power) M.d__law_power sc__law_power fun cdv A outer sh H E hr gd => ?_
  have hu := hr.units
  have hu1 := Nat.lt_of_le_of_lt (Nat.add_le_add_left (show 1 ≤ 64 by decide) _) hr.units
  have gdS := gd
  have huS := hu
  exact ((sss_cons (ss_set sc__law_power.nd rfl (by first | exact .inl rfl | exact .inr rfl) (by first | exact .inl rfl | exact .inr rfl) se_int)
  (sss_cons (ss_for ownE rfl (si_range1 rfl M.b_range (sa_cons (se_var (i := 1) rfl (by first | exact .inl rfl | exact .inr (.inl rfl) | exact .inr (.inr rfl))) sa_nil)) (sg_name sc__law_power.nd rfl (by first | exact .inl rfl | exact .inr rfl) (by first | exact .inl rfl | exact .inr rfl)) (sss_one (ss_set sc__law_power.nd rfl (by first | exact .inl rfl | exact .inr rfl) (by first | exact .inl rfl | exact .inr rfl) (se_op r_mulI (se_var (i := 2) rfl (by first | exact .inl rfl | exact .inr (.inl rfl) | exact .inr (.inr rfl))) (se_var (i := 0) rfl (by first | exact .inl rfl | exact .inr (.inl rfl) | exact .inr (.inr rfl)))))))
  (sss_one (ss_ret (se_var (i := 2) rfl (by first | exact .inl rfl | exact .inr (.inl rfl) | exact .inr (.inr rfl))))))))
theorem bd__law_power (M : Mx w K mg) : Binds K (fdOf K "_law_power") ["_law_m", "_law_many"] [] := M.d__law_power.bindsN fun _ _ _ _ _ _ us hl => match us, hl with | [_, _], _ => rfl
theorem sc__law_value_at : FnScope ["_law_poly", "_law_m", "_law_many", "_law_number"] ["_law_poly", "_law_m"] (defScope (top 24)) := ⟨rfl, rfl, rfl, by decide +kernel, rfl, by decide +kernel, by decide +kernel⟩
theorem F__law_value_at (M : Mx w K mg) : FnZ P w K mg base (L2.CX P w) 2 (He.ga K "_law_value_at") (fdOf K "_law_value_at") ["_law_poly", "_law_m"] f__law_value_at := by
  refine fnz_of (ps := ["_law_poly", "_law_m"]) (m := b__law_value_at) M.d__law_value_at sc__law_value_at fun cdv A outer sh H E hr gd => ?_
  have hu := hr.units
  have hu1 := Nat.lt_of_le_of_lt (Nat.add_le_add_left (show 1 ≤ 64 by decide) _) hr.units
  have gdS := gd
  have huS := hu
  exact ((sss_one (ss_ret (se_callB (c_sum rfl) rfl M.b_sum (by decide +kernel) (sa_cons (se_lc (own := [("_law_many", 2), ("_law_number", 3)]) false rfl sc__law_value_at.nd (si_any (se_var (i := 0) rfl (by first | exact .inl rfl | exact .inr (.inl rfl) | exact .inr (.inr rfl)))) (blkOk_by (N := ["_law_poly", "_law_m", "_law_many", "_law_number"]) (sc := defScope (top 24)) (by decide +kernel)) (fun _ _ _ _ _ => (sg_tup rfl (sgs_cons (sg_name sc__law_value_at.nd rfl (by first | exact .inl rfl | exact .inr rfl) (by first | exact .inl rfl | exact .inr rfl)) (sgs_cons (sg_name sc__law_value_at.nd rfl (by first | exact .inl rfl | exact .inr rfl) (by first | exact .inl rfl | exact .inr rfl)) sgs_nil)) (ar_cons (ar_cons ar_nil)))) (fun _ _ _ _ _ => sts_nil) (fun _ _ _ _ _ => (se_op r_mulI (se_var (i := 3) rfl (by first | exact .inl rfl | exact .inr (.inl rfl) | exact .inr (.inr rfl))) (se_call (F__law_power M) (hr.mono (by decide)) gd rfl M.g__law_power M.d__law_power.kp (bd__law_power M) passF0 (sa_cons (se_var (i := 1) rfl (by first | exact .inl rfl | exact .inr (.inl rfl) | exact .inr (.inr rfl))) (sa_cons (se_var (i := 2) rfl (by first | exact .inl rfl | exact .inr (.inl rfl) | exact .inr (.inr rfl))) sa_nil)))))) sa_nil)))))
theorem bd__law_value_at (M : Mx w K mg) : Binds K (fdOf K "_law_value_at") ["_law_poly", "_law_m"] [] := M.d__law_value_at.bindsN fun _ _ _ _ _ _ us hl => match us, hl with | [_, _], _ => rfl
theorem sc_power : FnScope ["number", "exponent", "found", "_"] ["number", "exponent"] (defScope (top 10)) := ⟨rfl, rfl, rfl, by decide +kernel, rfl, by decide +kernel, by decide +kernel⟩
theorem F_power (M : Mx w K mg) : FnZ P w K mg base (L2.CX P w) 1 (He.ga K "power") (fdOf K "power") ["number", "exponent"] f_power := by
  refine fnz_of (ps := ["number", "exponent"]) (m := b_power) M.d_power sc_power fun cdv A outer sh H E hr gd => ?_
  have hu := hr.units
  have hu1 := Nat.lt_of_le_of_lt (Nat.add_le_add_left (show 1 ≤ 64 by decide) _) hr.units
  have gdS := gd
  have huS := hu
  exact ((sss_cons (ss_set sc_power.nd rfl (by first | exact .inl rfl | exact .inr rfl) (by first | exact .inl rfl | exact .inr rfl) se_int)
  (sss_cons (ss_for ownE rfl (si_range1 rfl M.b_range (sa_cons (se_var (i := 1) rfl (by first | exact .inl rfl | exact .inr (.inl rfl) | exact .inr (.inr rfl))) sa_nil)) (sg_name sc_power.nd rfl (by first | exact .inl rfl | exact .inr rfl) (by first | exact .inl rfl | exact .inr rfl)) (sss_one (ss_set sc_power.nd rfl (by first | exact .inl rfl | exact .inr rfl) (by first | exact .inl rfl | exact .inr rfl) (se_op r_mulI (se_var (i := 2) rfl (by first | exact .inl rfl | exact .inr (.inl rfl) | exact .inr (.inr rfl))) (se_var (i := 0) rfl (by first | exact .inl rfl | exact .inr (.inl rfl) | exact .inr (.inr rfl)))))))
  (sss_one (ss_ret (se_var (i := 2) rfl (by first | exact .inl rfl | exact .inr (.inl rfl) | exact .inr (.inr rfl))))))))
theorem bd_power (M : Mx w K mg) : Binds K (fdOf K "power") ["number", "exponent"] [] := M.d_power.bindsN fun _ _ _ _ _ _ us hl => match us, hl with | [_, _], _ => rfl
theorem sc_value_of : FnScope ["poly", "number", "coefficient", "exponent"] ["poly", "number"] (defScope (top 11)) := ⟨rfl, rfl, rfl, by decide +kernel, rfl, by decide +kernel, by decide +kernel⟩
theorem F_value_of (M : Mx w K mg) : FnZ P w K mg base (L2.CX P w) 2 (He.ga K "value_of") (fdOf K "value_of") ["poly", "number"] f_value_of := by
  refine fnz_of (ps := ["poly", "number"]) (m := b_value_of) M.d_value_of sc_value_of fun cdv A outer sh H E hr gd => ?_
  have hu := hr.units
  have hu1 := Nat.lt_of_le_of_lt (Nat.add_le_add_left (show 1 ≤ 64 by decide) _) hr.units
  have gdS := gd
  have huS := hu
  exact ((sss_one (ss_ret (se_callB (c_sum rfl) rfl M.b_sum (by decide +kernel) (sa_cons (se_lc (own := [("exponent", 3), ("coefficient", 2)]) false rfl sc_value_of.nd (si_any (se_var (i := 0) rfl (by first | exact .inl rfl | exact .inr (.inl rfl) | exact .inr (.inr rfl)))) (blkOk_by (N := ["poly", "number", "coefficient", "exponent"]) (sc := defScope (top 11)) (by decide +kernel)) (fun _ _ _ _ _ => (sg_tup rfl (sgs_cons (sg_name sc_value_of.nd rfl (by first | exact .inl rfl | exact .inr rfl) (by first | exact .inl rfl | exact .inr rfl)) (sgs_cons (sg_name sc_value_of.nd rfl (by first | exact .inl rfl | exact .inr rfl) (by first | exact .inl rfl | exact .inr rfl)) sgs_nil)) (ar_cons (ar_cons ar_nil)))) (fun _ _ _ _ _ => sts_nil) (fun _ _ _ _ _ => (se_op r_mulI (se_var (i := 2) rfl (by first | exact .inl rfl | exact .inr (.inl rfl) | exact .inr (.inr rfl))) (se_call (F_power M) (hr.mono (by decide)) gd rfl M.g_power M.d_power.kp (bd_power M) passF0 (sa_cons (se_var (i := 1) rfl (by first | exact .inl rfl | exact .inr (.inl rfl) | exact .inr (.inr rfl))) (sa_cons (se_var (i := 3) rfl (by first | exact .inl rfl | exact .inr (.inl rfl) | exact .inr (.inr rfl))) sa_nil)))))) sa_nil)))))
theorem bd_value_of (M : Mx w K mg) : Binds K (fdOf K "value_of") ["poly", "number"] [] := M.d_value_of.bindsN fun _ _ _ _ _ _ us hl => match us, hl with | [_, _], _ => rfl
theorem sc_is_tuple : FnScope ["thing", "many"] ["thing", "many"] (defScope (top 7)) := ⟨rfl, rfl, rfl, by decide +kernel, rfl, by decide +kernel, by decide +kernel⟩
theorem F_is_tuple (M : Mx w K mg) : FnZ P w K mg base (L2.CX P w) 1 (He.ga K "is_tuple") (fdOf K "is_tuple") ["thing", "many"] f_is_tuple := by
  refine fnz_of (ps := ["thing", "many"]) (m := b_is_tuple) M.d_is_tuple sc_is_tuple fun cdv A outer sh H E hr gd => ?_
  have hu := hr.units
  have hu1 := Nat.lt_of_le_of_lt (Nat.add_le_add_left (show 1 ≤ 64 by decide) _) hr.units
  have gdS := gd
  have huS := hu
  exact ((sss_one (ss_ret (se_and (se_isi .tuple rfl M.b_isinstance rfl M.b_tuple (by decide +kernel) (se_var (i := 0) rfl (by first | exact .inl rfl | exact .inr (.inl rfl) | exact .inr (.inr rfl)))) (se_one (se_cmp (r_eqD hu) (se_callB c_len rfl M.b_len (by decide +kernel) (sa_cons (se_var (i := 0) rfl (by first | exact .inl rfl | exact .inr (.inl rfl) | exact .inr (.inr rfl))) sa_nil)) (se_var (i := 1) rfl (by first | exact .inl rfl | exact .inr (.inl rfl) | exact .inr (.inr rfl))) rfl))))))
theorem bd_is_tuple (M : Mx w K mg) : Binds K (fdOf K "is_tuple") ["thing", "many"] [] := M.d_is_tuple.bindsN fun _ _ _ _ _ _ us hl => match us, hl with | [_, _], _ => rfl
theorem sc_is_integer : FnScope ["thing"] ["thing"] (defScope (top 5)) := ⟨rfl, rfl, rfl, by decide +kernel, rfl, by decide +kernel, by decide +kernel⟩
theorem F_is_integer (M : Mx w K mg) : FnZ P w K mg base (L2.CX P w) 1 (He.ga K "is_integer") (fdOf K "is_integer") ["thing"] f_is_integer := by
  refine fnz_of (ps := ["thing"]) (m := b_is_integer) M.d_is_integer sc_is_integer fun cdv A outer sh H E hr gd => ?_
  have hu := hr.units
  have hu1 := Nat.lt_of_le_of_lt (Nat.add_le_add_left (show 1 ≤ 64 by decide) _) hr.units
  have gdS := gd
  have huS := hu
  exact ((sss_one (ss_ret (se_and (se_isi .int rfl M.b_isinstance rfl M.b_int (by decide +kernel) (se_var (i := 0) rfl (by first | exact .inl rfl | exact .inr (.inl rfl) | exact .inr (.inr rfl)))) (se_one (se_not (se_isi .bool rfl M.b_isinstance rfl M.b_bool (by decide +kernel) (se_var (i := 0) rfl (by first | exact .inl rfl | exact .inr (.inl rfl) | exact .inr (.inr rfl))))))))))
theorem bd_is_integer (M : Mx w K mg) : Binds K (fdOf K "is_integer") ["thing"] [] := M.d_is_integer.bindsN fun _ _ _ _ _ _ us hl => match us, hl with | [_], _ => rfl
theorem sc_is_from : FnScope ["thing", "least"] ["thing", "least"] (defScope (top 6)) := ⟨rfl, rfl, rfl, by decide +kernel, rfl, by decide +kernel, by decide +kernel⟩
theorem F_is_from (M : Mx w K mg) : FnZ P w K mg base (L2.CX P w) 2 (He.ga K "is_from") (fdOf K "is_from") ["thing", "least"] f_is_from := by
  refine fnz_of (ps := ["thing", "least"]) (m := b_is_from) M.d_is_from sc_is_from fun cdv A outer sh H E hr gd => ?_
  have hu := hr.units
  have hu1 := Nat.lt_of_le_of_lt (Nat.add_le_add_left (show 1 ≤ 64 by decide) _) hr.units
  have gdS := gd
  have huS := hu
  exact ((sss_one (ss_ret (se_and (se_call (F_is_integer M) (hr.mono (by decide)) gd rfl M.g_is_integer M.d_is_integer.kp (bd_is_integer M) passE (sa_cons (se_var (i := 0) rfl (by first | exact .inl rfl | exact .inr (.inl rfl) | exact .inr (.inr rfl))) sa_nil)) (se_one (se_cmp r_ge (se_var (i := 0) rfl (by first | exact .inl rfl | exact .inr (.inl rfl) | exact .inr (.inr rfl))) (se_var (i := 1) rfl (by first | exact .inl rfl | exact .inr (.inl rfl) | exact .inr (.inr rfl))) rfl))))))
theorem bd_is_from (M : Mx w K mg) : Binds K (fdOf K "is_from") ["thing", "least"] [] := M.d_is_from.bindsN fun _ _ _ _ _ _ us hl => match us, hl with | [_, _], _ => rfl
theorem sc_is_poly_value : FnScope ["thing", "least", "pair"] ["thing"] (defScope (top 9)) := ⟨rfl, rfl, rfl, by decide +kernel, rfl, by decide +kernel, by decide +kernel⟩
theorem F_is_poly_value (M : Mx w K mg) : FnZ P w K mg base (L2.CX P w) 3 (He.ga K "is_poly_value") (fdOf K "is_poly_value") ["thing"] f_is_poly_value := by
  refine fnz_of (ps := ["thing"]) (m := b_is_poly_value) M.d_is_poly_value sc_is_poly_value fun cdv A outer sh H E hr gd => ?_
  have hu := hr.units
  have hu1 := Nat.lt_of_le_of_lt (Nat.add_le_add_left (show 1 ≤ 64 by decide) _) hr.units
  have gdS := gd
  have huS := hu
  exact ((sss_cons (ss_if (st_not (st_val (se_isi .tuple rfl M.b_isinstance rfl M.b_tuple (by decide +kernel) (se_var (i := 0) rfl (by first | exact .inl rfl | exact .inr (.inl rfl) | exact .inr (.inr rfl)))))) (sss_one (ss_ret se_bl)) sss_nil)
  (sss_cons (ss_set sc_is_poly_value.nd rfl (by first | exact .inl rfl | exact .inr rfl) (by first | exact .inl rfl | exact .inr rfl) se_int)
  (sss_cons (ss_for ownE rfl (si_any (se_var (i := 0) rfl (by first | exact .inl rfl | exact .inr (.inl rfl) | exact .inr (.inr rfl)))) (sg_name sc_is_poly_value.nd rfl (by first | exact .inl rfl | exact .inr rfl) (by first | exact .inl rfl | exact .inr rfl)) (sss_cons (ss_if (st_w (sw_or (st_not (st_val (se_call (F_is_tuple M) (hr.mono (by decide)) gd rfl M.g_is_tuple M.d_is_tuple.kp (bd_is_tuple M) passE (sa_cons (se_var (i := 2) rfl (by first | exact .inl rfl | exact .inr (.inl rfl) | exact .inr (.inr rfl))) (sa_cons se_int sa_nil))))) (sw_or (st_not (st_val (se_call (F_is_from M) (hr.mono (by decide)) gd rfl M.g_is_from M.d_is_from.kp (bd_is_from M) passE (sa_cons (se_ix (se_var (i := 2) rfl (by first | exact .inl rfl | exact .inr (.inl rfl) | exact .inr (.inr rfl))) se_int) (sa_cons (se_var (i := 1) rfl (by first | exact .inl rfl | exact .inr (.inl rfl) | exact .inr (.inr rfl))) sa_nil))))) (sw_or1 (st_not (st_val (se_call (F_is_from M) (hr.mono (by decide)) gd rfl M.g_is_from M.d_is_from.kp (bd_is_from M) passE (sa_cons (se_ix (se_var (i := 2) rfl (by first | exact .inl rfl | exact .inr (.inl rfl) | exact .inr (.inr rfl))) se_int) (sa_cons se_int sa_nil))))))))) (sss_one (ss_ret se_bl)) sss_nil)
  (sss_one (ss_set sc_is_poly_value.nd rfl (by first | exact .inl rfl | exact .inr rfl) (by first | exact .inl rfl | exact .inr rfl) (se_op (r_add false) (se_ix (se_var (i := 2) rfl (by first | exact .inl rfl | exact .inr (.inl rfl) | exact .inr (.inr rfl))) se_int) se_int)))))
  (sss_one (ss_ret se_bl))))))
theorem bd_is_poly_value (M : Mx w K mg) : Binds K (fdOf K "is_poly_value") ["thing"] [] := M.d_is_poly_value.bindsN fun _ _ _ _ _ _ us hl => match us, hl with | [_], _ => rfl
theorem sc_value_at : FnScope ["poly", "number"] ["poly", "number"] (defScope (top 14)) := ⟨rfl, rfl, rfl, by decide +kernel, rfl, by decide +kernel, by decide +kernel⟩
theorem F_value_at (M : Mx w K mg) : FnZ P w K mg base (L2.CX P w) 4 (He.ga K "value_at") (fdOf K "value_at") ["poly", "number"] f_value_at := by
  refine fnz_of (ps := ["poly", "number"]) (m := b_value_at) M.d_value_at sc_value_at fun cdv A outer sh H E hr gd => ?_
  have hu := hr.units
  have hu1 := Nat.lt_of_le_of_lt (Nat.add_le_add_left (show 1 ≤ 64 by decide) _) hr.units
  have gdS := gd
  have huS := hu
  exact ((sss_cons (ss_if (st_not (st_val (se_call (F_is_poly_value M) (hr.mono (by decide)) gd rfl M.g_is_poly_value M.d_is_poly_value.kp (bd_is_poly_value M) passE (sa_cons (se_var (i := 0) rfl (by first | exact .inl rfl | exact .inr (.inl rfl) | exact .inr (.inr rfl))) sa_nil)))) (sss_one (ss_raise rfl takesE M.g_BadPoly (by decide +kernel) (mkE M.x_BadPoly (I_BadPoly M) (hr.mono (by decide)) (bi_BadPoly M) passF0 rfl M.g_BadPoly (sa_cons (se_var (i := 0) rfl (by first | exact .inl rfl | exact .inr (.inl rfl) | exact .inr (.inr rfl))) sa_nil)))) sss_nil)
  (sss_cons (ss_if (st_not (st_val (se_call (F_is_from M) (hr.mono (by decide)) gd rfl M.g_is_from M.d_is_from.kp (bd_is_from M) passE (sa_cons (se_var (i := 1) rfl (by first | exact .inl rfl | exact .inr (.inl rfl) | exact .inr (.inr rfl))) (sa_cons se_int sa_nil))))) (sss_one (ss_raise rfl takesE M.g_BadNumber (by decide +kernel) (mkE M.x_BadNumber (I_BadNumber M) (hr.mono (by decide)) (bi_BadNumber M) passF0 rfl M.g_BadNumber (sa_cons (se_var (i := 1) rfl (by first | exact .inl rfl | exact .inr (.inl rfl) | exact .inr (.inr rfl))) sa_nil)))) sss_nil)
  (sss_one (ss_ret (se_call (F_value_of M) (hr.mono (by decide)) gd rfl M.g_value_of M.d_value_of.kp (bd_value_of M) passE (sa_cons (se_var (i := 0) rfl (by first | exact .inl rfl | exact .inr (.inl rfl) | exact .inr (.inr rfl))) (sa_cons (se_var (i := 1) rfl (by first | exact .inl rfl | exact .inr (.inl rfl) | exact .inr (.inr rfl))) sa_nil))))))))
theorem bd_value_at (M : Mx w K mg) : Binds K (fdOf K "value_at") ["poly", "number"] [] := M.d_value_at.bindsN fun _ _ _ _ _ _ us hl => match us, hl with | [_, _], _ => rfl
theorem sc_is_poly : FnScope ["thing"] ["thing"] (defScope (top 13)) := ⟨rfl, rfl, rfl, by decide +kernel, rfl, by decide +kernel, by decide +kernel⟩
theorem F_is_poly (M : Mx w K mg) : FnZ P w K mg base (L2.CX P w) 4 (He.ga K "is_poly") (fdOf K "is_poly") ["thing"] f_is_poly := by
  refine fnz_of (ps := ["thing"]) (m := b_is_poly) M.d_is_poly sc_is_poly fun cdv A outer sh H E hr gd => ?_
  have hu := hr.units
  have hu1 := Nat.lt_of_le_of_lt (Nat.add_le_add_left (show 1 ≤ 64 by decide) _) hr.units
  have gdS := gd
  have huS := hu
  exact ((sss_one (ss_ret (se_call (F_is_poly_value M) (hr.mono (by decide)) gd rfl M.g_is_poly_value M.d_is_poly_value.kp (bd_is_poly_value M) passE (sa_cons (se_var (i := 0) rfl (by first | exact .inl rfl | exact .inr (.inl rfl) | exact .inr (.inr rfl))) sa_nil)))))
theorem bd_is_poly (M : Mx w K mg) : Binds K (fdOf K "is_poly") ["thing"] [] := M.d_is_poly.bindsN fun _ _ _ _ _ _ us hl => match us, hl with | [_], _ => rfl
theorem kb_value_at_0_1_0 (M : Mx w K mg) : KBz K (fdOf K "value_at") ["poly", "number"] ["number", "poly"] [1, 0] 0 := kbz_of M.d_value_at fun _ _ _ _ _ _ us ws h1 h2 => match us, ws, h1, h2 with | [], [_, _], _, _ => rfl
theorem kb_is_poly_0_0 (M : Mx w K mg) : KBz K (fdOf K "is_poly") ["thing"] ["thing"] [0] 0 := kbz_of M.d_is_poly fun _ _ _ _ _ _ us ws h1 h2 => match us, ws, h1, h2 with | [], [_], _, _ => rfl
theorem sc_law : FnScope ["_law_script", "_law_deck_here", "_law_turn", "_law_poly", "_law_thing", "_law_due", "_law_number", "_law_at", "_law_near", "_law_odd_here", "_law_is_number", "_law_told", "_law_pair"] ["_law_script"] (defScope (top 28)) := ⟨rfl, rfl, rfl, by decide +kernel, rfl, by decide +kernel, by decide +kernel⟩
def lamQ_law : Str := (envOfC "law" (defScope (top 28)) 0 0 .none).qual ++ "<lambda>"
theorem F_law (M : Mx w K mg) {cL PL : Addr} (TB : LamX.TabB base mg cL PL) (hcL : (fdOf K "law").code = .ref cL) (hTL : LamT.T = [(PL, lamQ_law)]) : FnZ P w K mg base (L2.CX P w) 19 (He.ga K "law") (fdOf K "law") ["_law_script"] f_law := by
  obtain ⟨oc, od, dV, kV, doc, pm, an, cdvt, ct, osl, ef, lkt, hct, _, _⟩ := M.d__law_tried.ex
  have bdt := bd__law_tried M
  rw [ef] at lkt bdt
  refine fnz_ofC (ps := ["_law_script"]) (m := b_law) M.d_law sc_law fun A outer sh H E hr gd => ?_
  have hu := hr.units
  have hu1 := Nat.lt_of_le_of_lt (Nat.add_le_add_left (show 1 ≤ 64 by decide) _) hr.units
  have gdS := gd
  have huS := hu
  have hcode : (envOfC "law" (defScope (top 28)) sh.heap.objs.size (He.ga K "law") (fdOf K "law").code).code = .ref cL := hcL
  have hmT : (PL, (envOfC "law" (defScope (top 28)) sh.heap.objs.size (He.ga K "law") (fdOf K "law").code).qual ++ "<lambda>") ∈ LamT.T := by rw [hTL]; exact List.mem_singleton.mpr rfl
  have huT : ∀ p ∈ LamT.T, p.1 = PL → p.2 = (envOfC "law" (defScope (top 28)) sh.heap.objs.size (He.ga K "law") (fdOf K "law").code).qual ++ "<lambda>" := by
    rw [hTL]; intro p hp _; rw [List.mem_singleton.mp hp]; rfl
  exact ((sss_cons (ss_set sc_law.nd rfl (by first | exact .inl rfl | exact .inr rfl) (by first | exact .inl rfl | exact .inr rfl) (se_call (F__law_deck M) (hr.mono (by decide)) gd rfl M.g__law_deck M.d__law_deck.kp (bd__law_deck M) passE (sa_cons (se_var (i := 0) rfl (by first | exact .inl rfl | exact .inr (.inl rfl) | exact .inr (.inr rfl))) sa_nil)))
  (sss_cons (ss_for ownE rfl (si_range1 rfl M.b_range (sa_cons se_int sa_nil)) (sg_name sc_law.nd rfl (by first | exact .inl rfl | exact .inr rfl) (by first | exact .inl rfl | exact .inr rfl)) (sss_cons (ss_set sc_law.nd rfl (by first | exact .inl rfl | exact .inr rfl) (by first | exact .inl rfl | exact .inr rfl) (se_call (F__law_drawn_poly M) (hr.mono (by decide)) gd rfl M.g__law_drawn_poly M.d__law_drawn_poly.kp (bd__law_drawn_poly M) passE (sa_cons (se_var (i := 1) rfl (by first | exact .inl rfl | exact .inr (.inl rfl) | exact .inr (.inr rfl))) (sa_cons se_int sa_nil))))
  (sss_cons (ss_for ownE rfl (si_any (se_tup (sa_cons (se_var (i := 3) rfl (by first | exact .inl rfl | exact .inr (.inl rfl) | exact .inr (.inr rfl))) (sa_cons (se_call (F__law_near_poly M) (hr.mono (by decide)) gd rfl M.g__law_near_poly M.d__law_near_poly.kp (bd__law_near_poly M) passE (sa_cons (se_var (i := 1) rfl (by first | exact .inl rfl | exact .inr (.inl rfl) | exact .inr (.inr rfl))) (sa_cons (se_var (i := 3) rfl (by first | exact .inl rfl | exact .inr (.inl rfl) | exact .inr (.inr rfl))) sa_nil))) (sa_cons (se_call (F__law_near_poly M) (hr.mono (by decide)) gd rfl M.g__law_near_poly M.d__law_near_poly.kp (bd__law_near_poly M) passE (sa_cons (se_var (i := 1) rfl (by first | exact .inl rfl | exact .inr (.inl rfl) | exact .inr (.inr rfl))) (sa_cons (se_var (i := 3) rfl (by first | exact .inl rfl | exact .inr (.inl rfl) | exact .inr (.inr rfl))) sa_nil))) (sa_cons (se_call (F__law_odd M) (hr.mono (by decide)) gd rfl M.g__law_odd M.d__law_odd.kp (bd__law_odd M) passE (sa_cons (se_var (i := 1) rfl (by first | exact .inl rfl | exact .inr (.inl rfl) | exact .inr (.inr rfl))) sa_nil)) sa_nil)))))) (sg_name sc_law.nd rfl (by first | exact .inl rfl | exact .inr rfl) (by first | exact .inl rfl | exact .inr rfl)) (sss_cons (ss_set sc_law.nd rfl (by first | exact .inl rfl | exact .inr rfl) (by first | exact .inl rfl | exact .inr rfl) (se_call (F__law_is_poly M) (hr.mono (by decide)) gd rfl M.g__law_is_poly M.d__law_is_poly.kp (bd__law_is_poly M) passE (sa_cons (se_var (i := 4) rfl (by first | exact .inl rfl | exact .inr (.inl rfl) | exact .inr (.inr rfl))) sa_nil)))
  (sss_one (ss_if (st_cmp (r_neD hu) (se_callB (c_repr M.sys gd hu) rfl M.b_repr (by decide +kernel) (sa_cons (se_tup (sa_cons (se_call (F_is_poly M) (hr.mono (by decide)) gd rfl M.g_is_poly M.d_is_poly.kp (bd_is_poly M) passE (sa_cons (se_var (i := 4) rfl (by first | exact .inl rfl | exact .inr (.inl rfl) | exact .inr (.inr rfl))) sa_nil)) (sa_cons (se_callK0 (F_is_poly M) (hr.mono (by decide)) gd rfl M.g_is_poly M.d_is_poly.kp (kb_is_poly_0_0 M) passE rfl (sk_cons (se_var (i := 4) rfl (by first | exact .inl rfl | exact .inr (.inl rfl) | exact .inr (.inr rfl))) sk_nil)) sa_nil))) sa_nil)) (se_callB (c_repr M.sys gd hu) rfl M.b_repr (by decide +kernel) (sa_cons (se_tup (sa_cons (se_var (i := 5) rfl (by first | exact .inl rfl | exact .inr (.inl rfl) | exact .inr (.inr rfl))) (sa_cons (se_var (i := 5) rfl (by first | exact .inl rfl | exact .inr (.inl rfl) | exact .inr (.inr rfl))) sa_nil))) sa_nil)) rfl) (sss_one (ss_ret se_bl)) sss_nil))))
  (sss_cons (ss_set sc_law.nd rfl (by first | exact .inl rfl | exact .inr rfl) (by first | exact .inl rfl | exact .inr rfl) (se_call (F__law_pick M) (hr.mono (by decide)) gd rfl M.g__law_pick M.d__law_pick.kp (bd__law_pick M) passE (sa_cons (se_var (i := 1) rfl (by first | exact .inl rfl | exact .inr (.inl rfl) | exact .inr (.inr rfl))) (sa_cons (se_lst false (sa_cons se_int (sa_cons se_int (sa_cons se_int (sa_cons (se_call (F__law_draw M) (hr.mono (by decide)) gd rfl M.g__law_draw M.d__law_draw.kp (bd__law_draw M) passE (sa_cons (se_var (i := 1) rfl (by first | exact .inl rfl | exact .inr (.inl rfl) | exact .inr (.inr rfl))) (sa_cons se_int sa_nil))) (sa_cons (se_call (F__law_draw M) (hr.mono (by decide)) gd rfl M.g__law_draw M.d__law_draw.kp (bd__law_draw M) passE (sa_cons (se_var (i := 1) rfl (by first | exact .inl rfl | exact .inr (.inl rfl) | exact .inr (.inr rfl))) (sa_cons (se_op (r_add false) (se_op r_pow se_int se_int) se_int) sa_nil))) sa_nil)))))) sa_nil))))
  (sss_cons (ss_if (st_cmp (r_neD hu) (se_callB (c_repr M.sys gd hu) rfl M.b_repr (by decide +kernel) (sa_cons (se_tup (sa_cons (se_call (F_value_at M) (hr.mono (by decide)) gd rfl M.g_value_at M.d_value_at.kp (bd_value_at M) passE (sa_cons (se_var (i := 3) rfl (by first | exact .inl rfl | exact .inr (.inl rfl) | exact .inr (.inr rfl))) (sa_cons (se_var (i := 6) rfl (by first | exact .inl rfl | exact .inr (.inl rfl) | exact .inr (.inr rfl))) sa_nil))) (sa_cons (se_callK0 (F_value_at M) (hr.mono (by decide)) gd rfl M.g_value_at M.d_value_at.kp (kb_value_at_0_1_0 M) passE rfl (sk_cons (se_var (i := 6) rfl (by first | exact .inl rfl | exact .inr (.inl rfl) | exact .inr (.inr rfl))) (sk_cons (se_var (i := 3) rfl (by first | exact .inl rfl | exact .inr (.inl rfl) | exact .inr (.inr rfl))) sk_nil))) sa_nil))) sa_nil)) (se_callB (c_repr M.sys gd hu) rfl M.b_repr (by decide +kernel) (sa_cons (se_op (r_mul false) (se_tup (sa_cons (se_call (F__law_value_at M) (hr.mono (by decide)) gd rfl M.g__law_value_at M.d__law_value_at.kp (bd__law_value_at M) passE (sa_cons (se_var (i := 3) rfl (by first | exact .inl rfl | exact .inr (.inl rfl) | exact .inr (.inr rfl))) (sa_cons (se_var (i := 6) rfl (by first | exact .inl rfl | exact .inr (.inl rfl) | exact .inr (.inr rfl))) sa_nil))) sa_nil)) se_int) sa_nil)) rfl) (sss_one (ss_ret se_bl)) sss_nil)
  (sss_cons (ss_set sc_law.nd rfl (by first | exact .inl rfl | exact .inr rfl) (by first | exact .inl rfl | exact .inr rfl) (se_call (F__law_draw M) (hr.mono (by decide)) gd rfl M.g__law_draw M.d__law_draw.kp (bd__law_draw M) passE (sa_cons (se_var (i := 1) rfl (by first | exact .inl rfl | exact .inr (.inl rfl) | exact .inr (.inr rfl))) (sa_cons (se_op (r_add false) (se_callB c_len rfl M.b_len (by decide +kernel) (sa_cons (se_var (i := 3) rfl (by first | exact .inl rfl | exact .inr (.inl rfl) | exact .inr (.inr rfl))) sa_nil)) se_int) sa_nil))))
  (sss_cons (ss_if (st_cmp (r_neD hu) (se_op (r_add false) (se_call (F_value_at M) (hr.mono (by decide)) gd rfl M.g_value_at M.d_value_at.kp (bd_value_at M) passE (sa_cons (se_slice false (se_var (i := 3) rfl (by first | exact .inl rfl | exact .inr (.inl rfl) | exact .inr (.inr rfl))) sp_none (sp_some (se_var (i := 7) rfl (by first | exact .inl rfl | exact .inr (.inl rfl) | exact .inr (.inr rfl))))) (sa_cons (se_var (i := 6) rfl (by first | exact .inl rfl | exact .inr (.inl rfl) | exact .inr (.inr rfl))) sa_nil))) (se_call (F_value_at M) (hr.mono (by decide)) gd rfl M.g_value_at M.d_value_at.kp (bd_value_at M) passE (sa_cons (se_slice false (se_var (i := 3) rfl (by first | exact .inl rfl | exact .inr (.inl rfl) | exact .inr (.inr rfl))) (sp_some (se_var (i := 7) rfl (by first | exact .inl rfl | exact .inr (.inl rfl) | exact .inr (.inr rfl)))) sp_none) (sa_cons (se_var (i := 6) rfl (by first | exact .inl rfl | exact .inr (.inl rfl) | exact .inr (.inr rfl))) sa_nil)))) (se_call (F__law_value_at M) (hr.mono (by decide)) gd rfl M.g__law_value_at M.d__law_value_at.kp (bd__law_value_at M) passE (sa_cons (se_var (i := 3) rfl (by first | exact .inl rfl | exact .inr (.inl rfl) | exact .inr (.inr rfl))) (sa_cons (se_var (i := 6) rfl (by first | exact .inl rfl | exact .inr (.inl rfl) | exact .inr (.inr rfl))) sa_nil))) rfl) (sss_one (ss_ret se_bl)) sss_nil)
  (sss_cons (ss_asg (se_tup (sa_cons (se_call (F__law_pick M) (hr.mono (by decide)) gd rfl M.g__law_pick M.d__law_pick.kp (bd__law_pick M) passE (sa_cons (se_var (i := 1) rfl (by first | exact .inl rfl | exact .inr (.inl rfl) | exact .inr (.inr rfl))) (sa_cons (se_lst false (sa_cons (se_var (i := 3) rfl (by first | exact .inl rfl | exact .inr (.inl rfl) | exact .inr (.inr rfl))) (sa_cons (se_call (F__law_near_poly M) (hr.mono (by decide)) gd rfl M.g__law_near_poly M.d__law_near_poly.kp (bd__law_near_poly M) passE (sa_cons (se_var (i := 1) rfl (by first | exact .inl rfl | exact .inr (.inl rfl) | exact .inr (.inr rfl))) (sa_cons (se_var (i := 3) rfl (by first | exact .inl rfl | exact .inr (.inl rfl) | exact .inr (.inr rfl))) sa_nil))) sa_nil))) sa_nil))) (sa_cons (se_call (F__law_pick M) (hr.mono (by decide)) gd rfl M.g__law_pick M.d__law_pick.kp (bd__law_pick M) passE (sa_cons (se_var (i := 1) rfl (by first | exact .inl rfl | exact .inr (.inl rfl) | exact .inr (.inr rfl))) (sa_cons (se_lst false (sa_cons (se_un r_neg se_int) (sa_cons se_bl (sa_cons se_non (sa_cons se_str (sa_cons (se_tup (sa_cons se_int sa_nil)) (sa_cons se_int (sa_cons se_int (sa_cons (se_lst false sa_nil) (sa_cons (se_dic0 false) sa_nil)))))))))) sa_nil))) sa_nil))) (sg_tup rfl (sgs_cons (sg_name sc_law.nd rfl (by first | exact .inl rfl | exact .inr rfl) (by first | exact .inl rfl | exact .inr rfl)) (sgs_cons (sg_name sc_law.nd rfl (by first | exact .inl rfl | exact .inr rfl) (by first | exact .inl rfl | exact .inr rfl)) sgs_nil)) (ar_cons (ar_cons ar_nil))))
  (sss_cons (ss_if (st_w (sw_and (st_val (se_call (F__law_is_poly M) (hr.mono (by decide)) gd rfl M.g__law_is_poly M.d__law_is_poly.kp (bd__law_is_poly M) passE (sa_cons (se_var (i := 8) rfl (by first | exact .inl rfl | exact .inr (.inl rfl) | exact .inr (.inr rfl))) sa_nil))) (sw_and1 (st_w (sw_or (st_cmp r_gt (se_callB c_len rfl M.b_len (by decide +kernel) (sa_cons (se_var (i := 8) rfl (by first | exact .inl rfl | exact .inr (.inl rfl) | exact .inr (.inr rfl))) sa_nil)) se_int rfl) (sw_or1 (st_cmp (r_neD hu) (se_lc (own := [("_law_pair", 12)]) false rfl sc_law.nd (si_any (se_var (i := 8) rfl (by first | exact .inl rfl | exact .inr (.inl rfl) | exact .inr (.inr rfl)))) (blkOk_by (N := ["_law_script", "_law_deck_here", "_law_turn", "_law_poly", "_law_thing", "_law_due", "_law_number", "_law_at", "_law_near", "_law_odd_here", "_law_is_number", "_law_told", "_law_pair"]) (sc := defScope (top 28)) (by decide +kernel)) (fun _ _ _ _ _ => (sg_name sc_law.nd rfl (by first | exact .inl rfl | exact .inr rfl) (by first | exact .inl rfl | exact .inr rfl))) (fun _ _ _ _ _ => (sts_one (st_w (sw_or (st_cmp r_gt (se_ix (se_var (i := 12) rfl (by first | exact .inl rfl | exact .inr (.inl rfl) | exact .inr (.inr rfl))) se_int) se_int rfl) (sw_or1 (st_cmp r_gt (se_ix (se_var (i := 12) rfl (by first | exact .inl rfl | exact .inr (.inl rfl) | exact .inr (.inr rfl))) se_int) (se_op r_pow se_int se_int) rfl)))))) (fun _ _ _ _ _ => (se_var (i := 12) rfl (by first | exact .inl rfl | exact .inr (.inl rfl) | exact .inr (.inr rfl))))) (se_lst false sa_nil) rfl))))))) (sss_one (ss_set sc_law.nd rfl (by first | exact .inl rfl | exact .inr rfl) (by first | exact .inl rfl | exact .inr rfl) (se_var (i := 3) rfl (by first | exact .inl rfl | exact .inr (.inl rfl) | exact .inr (.inr rfl))))) sss_nil)
  (sss_cons (ss_set sc_law.nd rfl (by first | exact .inl rfl | exact .inr rfl) (by first | exact .inl rfl | exact .inr rfl) (se_tup (sa_cons se_str (sa_cons (se_tup (sa_cons se_bl (sa_cons se_bl sa_nil))) (sa_cons (se_callB (c_repr M.sys gd hu) rfl M.b_repr (by decide +kernel) (sa_cons (se_var (i := 8) rfl (by first | exact .inl rfl | exact .inr (.inl rfl) | exact .inr (.inr rfl))) sa_nil)) sa_nil)))))
  (sss_cons (ss_if (st_val (se_call (F__law_is_poly M) (hr.mono (by decide)) gd rfl M.g__law_is_poly M.d__law_is_poly.kp (bd__law_is_poly M) passE (sa_cons (se_var (i := 8) rfl (by first | exact .inl rfl | exact .inr (.inl rfl) | exact .inr (.inr rfl))) sa_nil))) (sss_cons (ss_set sc_law.nd rfl (by first | exact .inl rfl | exact .inr rfl) (by first | exact .inl rfl | exact .inr rfl) (se_and (se_call (F__law_is_integer M) (hr.mono (by decide)) gd rfl M.g__law_is_integer M.d__law_is_integer.kp (bd__law_is_integer M) passE (sa_cons (se_var (i := 9) rfl (by first | exact .inl rfl | exact .inr (.inl rfl) | exact .inr (.inr rfl))) sa_nil)) (se_one (se_cmp r_ge (se_var (i := 9) rfl (by first | exact .inl rfl | exact .inr (.inl rfl) | exact .inr (.inr rfl))) se_int rfl))))
  (sss_one (ss_set sc_law.nd rfl (by first | exact .inl rfl | exact .inr rfl) (by first | exact .inl rfl | exact .inr rfl) (se_if (st_val (se_var (i := 10) rfl (by first | exact .inl rfl | exact .inr (.inl rfl) | exact .inr (.inr rfl)))) (se_tup (sa_cons se_str (sa_cons (se_call (F__law_value_at M) (hr.mono (by decide)) gd rfl M.g__law_value_at M.d__law_value_at.kp (bd__law_value_at M) passE (sa_cons (se_var (i := 8) rfl (by first | exact .inl rfl | exact .inr (.inl rfl) | exact .inr (.inr rfl))) (sa_cons (se_var (i := 9) rfl (by first | exact .inl rfl | exact .inr (.inl rfl) | exact .inr (.inr rfl))) sa_nil))) sa_nil))) (se_tup (sa_cons se_str (sa_cons (se_tup (sa_cons se_bl (sa_cons se_bl sa_nil))) (sa_cons (se_callB (c_repr M.sys gd hu) rfl M.b_repr (by decide +kernel) (sa_cons (se_var (i := 9) rfl (by first | exact .inl rfl | exact .inr (.inl rfl) | exact .inr (.inr rfl))) sa_nil)) sa_nil)))))))) sss_nil)
  (sss_cons (ss_set sc_law.nd rfl (by first | exact .inl rfl | exact .inr rfl) (by first | exact .inl rfl | exact .inr rfl) (se_triedG (k := 16) gd rfl M.g__law_tried M.d__law_tried.kp lkt hct bdt sc__law_tried rfl (by first | exact .inl rfl | exact .inr (.inl rfl)) (G__law_tried M (k := 0) gd (hr.mono (by decide))) TB hcode hmT huT (hr.mono (by decide)) (LamX.lamS_by (sc := defScope (top 28)) (by decide +kernel)) rfl (fun _ _ _ _ _ => rfl) fun A outer sh H E f c1 hr gd => by have hu := hr.units; exact (se_if (st_cmp (r_eqD hu) (se_var (i := 2) rfl (by first | exact .inl rfl | exact .inr (.inl rfl) | exact .inr (.inr rfl))) se_int rfl) (se_call (F_value_at M) (hr.mono (by decide)) gd rfl M.g_value_at M.d_value_at.kp (bd_value_at M) passL (sa_cons (se_var (i := 8) rfl (by first | exact .inl rfl | exact .inr (.inl rfl) | exact .inr (.inr rfl))) (sa_cons (se_var (i := 9) rfl (by first | exact .inl rfl | exact .inr (.inl rfl) | exact .inr (.inr rfl))) sa_nil))) (se_callK0 (F_value_at M) (hr.mono (by decide)) gd rfl M.g_value_at M.d_value_at.kp (kb_value_at_0_1_0 M) passL rfl (sk_cons (se_var (i := 9) rfl (by first | exact .inl rfl | exact .inr (.inl rfl) | exact .inr (.inr rfl))) (sk_cons (se_var (i := 8) rfl (by first | exact .inl rfl | exact .inr (.inl rfl) | exact .inr (.inr rfl))) sk_nil))))))
  (sss_one (ss_if (st_cmp (r_neD hu) (se_callB (c_repr M.sys gd hu) rfl M.b_repr (by decide +kernel) (sa_cons (se_var (i := 11) rfl (by first | exact .inl rfl | exact .inr (.inl rfl) | exact .inr (.inr rfl))) sa_nil)) (se_callB (c_repr M.sys gd hu) rfl M.b_repr (by decide +kernel) (sa_cons (se_var (i := 5) rfl (by first | exact .inl rfl | exact .inr (.inl rfl) | exact .inr (.inr rfl))) sa_nil)) rfl) (sss_one (ss_ret se_bl)) sss_nil))))))))))))))
  (sss_one (ss_ret se_bl)))))
theorem bd_law (M : Mx w K mg) : Binds K (fdOf K "law") ["_law_script"] [] := M.d_law.bindsN fun _ _ _ _ _ _ us hl => match us, hl with | [_], _ => rfl
end
/-! ### the head -/
def dd__law_deck : He.DefD := ⟨("_law_deck", none), "_law_deck", "_law_deck", defArgs (top 16), defBody (top 16), defScope (top 16), [], []⟩
def dd__law_draw : He.DefD := ⟨("_law_draw", none), "_law_draw", "_law_draw", defArgs (top 17), defBody (top 17), defScope (top 17), [], []⟩
def dd__law_pick : He.DefD := ⟨("_law_pick", none), "_law_pick", "_law_pick", defArgs (top 18), defBody (top 18), defScope (top 18), [], []⟩
def dd__law_drawn_poly : He.DefD := ⟨("_law_drawn_poly", none), "_law_drawn_poly", "_law_drawn_poly", defArgs (top 25), defBody (top 25), defScope (top 25), [], []⟩
def dd__law_is_integer : He.DefD := ⟨("_law_is_integer", none), "_law_is_integer", "_law_is_integer", defArgs (top 19), defBody (top 19), defScope (top 19), [], []⟩
def dd__law_is_poly : He.DefD := ⟨("_law_is_poly", none), "_law_is_poly", "_law_is_poly", defArgs (top 22), defBody (top 22), defScope (top 22), [], []⟩
def dd__law_tried : He.DefD := ⟨("_law_tried", none), "_law_tried", "_law_tried", defArgs (top 27), defBody (top 27), defScope (top 27), [], []⟩
def dd__law_odd : He.DefD := ⟨("_law_odd", none), "_law_odd", "_law_odd", defArgs (top 20), defBody (top 20), defScope (top 20), [], []⟩
def dd__law_bent : He.DefD := ⟨("_law_bent", none), "_law_bent", "_law_bent", defArgs (top 21), defBody (top 21), defScope (top 21), [], []⟩
def dd__law_near_poly : He.DefD := ⟨("_law_near_poly", none), "_law_near_poly", "_law_near_poly", defArgs (top 26), defBody (top 26), defScope (top 26), [], []⟩
def dd__law_power : He.DefD := ⟨("_law_power", none), "_law_power", "_law_power", defArgs (top 23), defBody (top 23), defScope (top 23), [], []⟩
def dd__law_value_at : He.DefD := ⟨("_law_value_at", none), "_law_value_at", "_law_value_at", defArgs (top 24), defBody (top 24), defScope (top 24), [], []⟩
def dd_power : He.DefD := ⟨("power", none), "power", "power", defArgs (top 10), defBody (top 10), defScope (top 10), [], []⟩
def dd_value_of : He.DefD := ⟨("value_of", none), "value_of", "value_of", defArgs (top 11), defBody (top 11), defScope (top 11), [], []⟩
def dd_is_tuple : He.DefD := ⟨("is_tuple", none), "is_tuple", "is_tuple", defArgs (top 7), defBody (top 7), defScope (top 7), [], []⟩
def dd_is_integer : He.DefD := ⟨("is_integer", none), "is_integer", "is_integer", defArgs (top 5), defBody (top 5), defScope (top 5), [], []⟩
def dd_is_from : He.DefD := ⟨("is_from", none), "is_from", "is_from", defArgs (top 6), defBody (top 6), defScope (top 6), [], []⟩
def dd_is_poly_value : He.DefD := ⟨("is_poly_value", none), "is_poly_value", "is_poly_value", defArgs (top 9), defBody (top 9), defScope (top 9), [], []⟩
def dd_value_at : He.DefD := ⟨("value_at", none), "value_at", "value_at", defArgs (top 14), defBody (top 14), defScope (top 14), [], []⟩
def dd_is_poly : He.DefD := ⟨("is_poly", none), "is_poly", "is_poly", defArgs (top 13), defBody (top 13), defScope (top 13), [], []⟩
def dd_law : He.DefD := ⟨("law", none), "law", "law", defArgs (top 28), defBody (top 28), defScope (top 28), [], []⟩
def di_BadNumber : He.DefD := ⟨("BadNumber", some "__init__"), "__init__", "BadNumber.__init__", defArgs (inClass (top 2) 0), defBody (inClass (top 2) 0), defScope (inClass (top 2) 0), [], []⟩
def di_BadPoly : He.DefD := ⟨("BadPoly", some "__init__"), "__init__", "BadPoly.__init__", defArgs (inClass (top 3) 0), defBody (inClass (top 3) 0), defScope (inClass (top 3) 0), [], []⟩
def fnL : List He.DefD := [dd__law_deck, dd__law_draw, dd__law_pick, dd__law_drawn_poly, dd__law_is_integer, dd__law_is_poly, dd__law_tried, dd__law_odd, dd__law_bent, dd__law_near_poly, dd__law_power, dd__law_value_at, dd_power, dd_value_of, dd_is_tuple, dd_is_integer, dd_is_from, dd_is_poly_value, dd_value_at, dd_is_poly, dd_law, di_BadNumber, di_BadPoly]
def faL : List He.Fa := [.glo "_law_deck", .glo "_law_draw", .glo "_law_pick", .glo "_law_drawn_poly", .glo "_law_is_integer", .glo "_law_is_poly", .glo "_law_tried", .glo "_law_odd", .glo "_law_bent", .glo "_law_near_poly", .glo "_law_power", .glo "_law_value_at", .glo "power", .glo "value_of", .glo "is_tuple", .glo "is_integer", .glo "is_from", .glo "is_poly_value", .glo "value_at", .glo "is_poly", .glo "law", .glo "BadNumber", .glo "BadPoly", .glo "EyesError", .free "bool", .free "int", .free "isinstance", .free "len", .free "list", .free "max", .free "range", .free "repr", .free "str", .free "sum", .free "tuple"]
def csL : List (Str × PV) := []
def tsL : List TabZ := []
abbrev R : PySem.W.OpenRow := PySem.W.OpenLaw.row PySem.Challenge.rw_eyesonly_k26_polynomials_and_their_value
def clL : List (Str × Str) := [("BadNumber", "thing"), ("BadPoly", "thing")]
def prL : List (Str × Str × Bool) := [("BadNumber", "BadNumber", true), ("BadNumber", "BadPoly", false), ("BadNumber", "EyesError", true), ("BadPoly", "BadNumber", false), ("BadPoly", "BadPoly", true), ("BadPoly", "EyesError", true)]
def lamL : List Str := ["law"]
abbrev hk : PySem.W.Hook := hookX 6 faL fnL csL tsL lamL (xcB clL prL)
def ob (s : PySem.W.SharedT) : AlX := obsXG 6 faL fnL csL tsL lamL (xcB clL prL) (HandSHeadRun.getT s)
theorem ob_eq (s : PySem.W.SharedT) : ob s = hk.obs s.abs := obsXG_eq (HandSHeadRun.getT_eq s)
def lo0 : List PySem.Str := ["EyesError", "BadNumber", "BadPoly", "is_integer", "is_from", "is_tuple", "is_poly_value", "power", "value_of", "is_poly", "value_at", "_law_deck", "_law_draw", "_law_pick", "_law_is_integer", "_law_odd", "_law_bent", "_law_is_poly", "_law_power", "_law_value_at"]
def lo1 : List PySem.Str := ["_law_drawn_poly", "_law_near_poly", "_law_tried"]
def lo : List PySem.Str := lo0 ++ lo1
theorem run (w : World) : HandSHeadRun.RunEq R (PySem.W.view R.prog [28]) hk ob 4000 lo w := by
  intro os
  kernel_rfl
theorem facts {w : World} {K : PySem.W.Frag} {h : Heap} {mg : Str → Option Value} (X : K.In h) (G : h.Ns mainGlobals mg) (cc : SaysK faL fnL csL tsL w K) (xb : xcB clL prL K = true) : Mx w K mg := by
  have c := cc.z
  have fd : ∀ {x : Str} {i : Nat} {f : FuncData}, FunD K x x (defArgs (top i)) (defBody (top i)) (defScope (top i)) [] [] (He.ga K x) f → FnP K x i := fun {x i f} F => by
    have e : fdOf K x = f := by
      obtain ⟨oc, od, dV, kV, doc, pm, an, cdv, ct, osl, _, lk, _⟩ := F.ex
      unfold fdOf
      rw [lk]
    show FunD K x x _ _ _ [] [] (He.ga K x) (fdOf K x)
    rw [e]; exact F
  have fm : ∀ {c : Str} {q : Str} {i j : Nat} {f : FuncData}, FunD K "__init__" q (defArgs (inClass (top i) j)) (defBody (inClass (top i) j)) (defScope (inClass (top i) j)) [] [] (He.ma K (He.ga K c) "__init__") f → FunD K "__init__" q (defArgs (inClass (top i) j)) (defBody (inClass (top i) j)) (defScope (inClass (top i) j)) [] [] (He.ma K (He.ga K c) "__init__") (fdM K c) := fun {c q i j f} F => by
    have e : fdM K c = f := by
      obtain ⟨oc, od, dV, kV, doc, pm, an, cdv, ct, osl, _, lk, _⟩ := F.ex
      unfold fdM
      rw [lk]
    rw [e]; exact F
  refine ⟨c.sys, He.free_ok X G (c.1.fact 24 (f := .free "bool") rfl),
    He.free_ok X G (c.1.fact 25 (f := .free "int") rfl),
    He.free_ok X G (c.1.fact 26 (f := .free "isinstance") rfl),
    He.free_ok X G (c.1.fact 27 (f := .free "len") rfl),
    He.free_ok X G (c.1.fact 28 (f := .free "list") rfl),
    He.free_ok X G (c.1.fact 29 (f := .free "max") rfl),
    He.free_ok X G (c.1.fact 30 (f := .free "range") rfl),
    He.free_ok X G (c.1.fact 31 (f := .free "repr") rfl),
    He.free_ok X G (c.1.fact 32 (f := .free "str") rfl),
    He.free_ok X G (c.1.fact 33 (f := .free "sum") rfl),
    He.free_ok X G (c.1.fact 34 (f := .free "tuple") rfl),
    He.glo_ok X G (c.1.fact 0 (f := .glo "_law_deck") rfl),
    (c.1.def_ 0 (d := dd__law_deck) rfl).elim fun _ F => fd F,
    He.glo_ok X G (c.1.fact 1 (f := .glo "_law_draw") rfl),
    (c.1.def_ 1 (d := dd__law_draw) rfl).elim fun _ F => fd F,
    He.glo_ok X G (c.1.fact 2 (f := .glo "_law_pick") rfl),
    (c.1.def_ 2 (d := dd__law_pick) rfl).elim fun _ F => fd F,
    He.glo_ok X G (c.1.fact 3 (f := .glo "_law_drawn_poly") rfl),
    (c.1.def_ 3 (d := dd__law_drawn_poly) rfl).elim fun _ F => fd F,
    He.glo_ok X G (c.1.fact 4 (f := .glo "_law_is_integer") rfl),
    (c.1.def_ 4 (d := dd__law_is_integer) rfl).elim fun _ F => fd F,
    He.glo_ok X G (c.1.fact 5 (f := .glo "_law_is_poly") rfl),
    (c.1.def_ 5 (d := dd__law_is_poly) rfl).elim fun _ F => fd F,
    He.glo_ok X G (c.1.fact 6 (f := .glo "_law_tried") rfl),
    (c.1.def_ 6 (d := dd__law_tried) rfl).elim fun _ F => fd F,
    He.glo_ok X G (c.1.fact 7 (f := .glo "_law_odd") rfl),
    (c.1.def_ 7 (d := dd__law_odd) rfl).elim fun _ F => fd F,
    He.glo_ok X G (c.1.fact 8 (f := .glo "_law_bent") rfl),
    (c.1.def_ 8 (d := dd__law_bent) rfl).elim fun _ F => fd F,
    He.glo_ok X G (c.1.fact 9 (f := .glo "_law_near_poly") rfl),
    (c.1.def_ 9 (d := dd__law_near_poly) rfl).elim fun _ F => fd F,
    He.glo_ok X G (c.1.fact 10 (f := .glo "_law_power") rfl),
    (c.1.def_ 10 (d := dd__law_power) rfl).elim fun _ F => fd F,
    He.glo_ok X G (c.1.fact 11 (f := .glo "_law_value_at") rfl),
    (c.1.def_ 11 (d := dd__law_value_at) rfl).elim fun _ F => fd F,
    He.glo_ok X G (c.1.fact 12 (f := .glo "power") rfl),
    (c.1.def_ 12 (d := dd_power) rfl).elim fun _ F => fd F,
    He.glo_ok X G (c.1.fact 13 (f := .glo "value_of") rfl),
    (c.1.def_ 13 (d := dd_value_of) rfl).elim fun _ F => fd F,
    He.glo_ok X G (c.1.fact 14 (f := .glo "is_tuple") rfl),
    (c.1.def_ 14 (d := dd_is_tuple) rfl).elim fun _ F => fd F,
    He.glo_ok X G (c.1.fact 15 (f := .glo "is_integer") rfl),
    (c.1.def_ 15 (d := dd_is_integer) rfl).elim fun _ F => fd F,
    He.glo_ok X G (c.1.fact 16 (f := .glo "is_from") rfl),
    (c.1.def_ 16 (d := dd_is_from) rfl).elim fun _ F => fd F,
    He.glo_ok X G (c.1.fact 17 (f := .glo "is_poly_value") rfl),
    (c.1.def_ 17 (d := dd_is_poly_value) rfl).elim fun _ F => fd F,
    He.glo_ok X G (c.1.fact 18 (f := .glo "value_at") rfl),
    (c.1.def_ 18 (d := dd_value_at) rfl).elim fun _ F => fd F,
    He.glo_ok X G (c.1.fact 19 (f := .glo "is_poly") rfl),
    (c.1.def_ 19 (d := dd_is_poly) rfl).elim fun _ F => fd F,
    He.glo_ok X G (c.1.fact 20 (f := .glo "law") rfl),
    (c.1.def_ 20 (d := dd_law) rfl).elim fun _ F => fd F,
    He.glo_ok X G (c.1.fact 21 (f := .glo "BadNumber") rfl),
    He.glo_ok X G (c.1.fact 22 (f := .glo "BadPoly") rfl),
    He.glo_ok X G (c.1.fact 23 (f := .glo "EyesError") rfl),
    xcB_cls xb 0 rfl,
    xcB_cls xb 1 rfl,
    xcB_kit xb 0 rfl,
    xcB_kit xb 1 rfl,
    xcB_kit xb 2 rfl,
    xcB_kit xb 3 rfl,
    xcB_kit xb 4 rfl,
    xcB_kit xb 5 rfl,
    xcB_exm xb 0 rfl,
    xcB_exm xb 1 rfl,
    xcB_exm xb 2 rfl,
    xcB_exm xb 3 rfl,
    xcB_exm xb 4 rfl,
    xcB_exm xb 5 rfl,
    (c.1.def_ 21 (d := di_BadNumber) rfl).elim fun _ F => fm F,
    (c.1.def_ 22 (d := di_BadPoly) rfl).elim fun _ F => fm F⟩
def Plain : Prop := ∀ ns : List Int, ns.length ≤ 63 → Post (f_law [.scr (ns.map .int)] []) (fun v _ => v = .bl true) fun _ _ _ => False
theorem holds (hp : Plain) : PySem.Challenge.rw_eyesonly_k26_polynomials_and_their_value.Holds := by
  w_on; o_law
  refine HandSHeadRun.head_any (r := PySem.W.OpenLaw.row PySem.Challenge.rw_eyesonly_k26_polynomials_and_their_value) (q := PySem.W.view (PySem.W.OpenLaw.row PySem.Challenge.rw_eyesonly_k26_polynomials_and_their_value).prog [28]) (H := hk) (ob := ob) (M := 4000) (loose := lo) (d := HandSHeadRun.topDef (PySem.W.OpenLaw.row PySem.Challenge.rw_eyesonly_k26_polynomials_and_their_value).prog 28) (kwd := []) ob_eq (by kernel_rfl) (fun s => by kernel_rfl) run (by kernel_rfl) (by kernel_rfl) (by kernel_rfl) (by rfl) (by first | assumption | decide +kernel) (by decide +kernel) ⟨rfl, rfl, rfl, rfl, rfl, by decide +kernel⟩ ?hw ?hc
  case hw => w_witness2
  case hc =>
    refine end_lawT (l := PySem.Challenge.rw_eyesonly_k26_polynomials_and_their_value) (n := 63) (k := 19) (x := "_law_script") (CX := fun w => L2.CX (PySem.W.OpenLaw.prog PySem.Challenge.rw_eyesonly_k26_polynomials_and_their_value) w) rfl (big_line (by decide)) (by kernel_rfl) ⟨rfl, by decide, by decide⟩ ?F (fun _ _ _ _ _ z => cxE (P := fun _ => PySem.W.OpenLaw.prog PySem.Challenge.rw_eyesonly_k26_polynomials_and_their_value) z)
    intro w mg f h Y G hmg0
    obtain ⟨K, KX, c, xb, lam⟩ := saysX_of Y
    have hmg : mg ("law" : Str) = some (.ref f) := by
      rw [← show (HandSHeadRun.topDef (PySem.W.OpenLaw.row PySem.Challenge.rw_eyesonly_k26_polynomials_and_their_value).prog 28).name = ("law" : Str) by kernel_rfl]
      exact hmg0
    have M := facts KX G c xb
    have e := hmg.symm.trans M.g_law
    cases e
    obtain ⟨cL, PL, ⟨oc, od, fd, osl, q1, q2⟩, q3, q4, q5⟩ := lam "law" (by decide)
    have hcL : (fdOf K "law").code = .ref cL := by unfold fdOf; rw [q1]; exact q2
    refine ⟨K, fdOf K "law", f_law, [(cL, PL, lamQ_law)], ⟨[(PL, lamQ_law)]⟩, KX, fun s u => (M.d_law.bindsA (ps := ["_law_script"]) fun _ _ _ _ _ _ us hl => match us, hl with | [_], _ => rfl) s [u] rfl, fun p hp => ?_, fun p hp => ?_, fun p hp => ?_, rfl, hp, fun base _ _ tb => ?_⟩
    · rw [List.mem_singleton.mp hp]; exact q4
    · rw [List.mem_singleton.mp hp]; exact q5
    · rw [List.mem_singleton.mp hp]; exact q3
    · exact @F_law ⟨[(PL, lamQ_law)]⟩ _ _ _ _ _ M _ _ (tb _ (List.mem_singleton.mpr rfl)) hcL rfl
end Wk26

set_option Elab.async false
set_option linter.all false
set_option maxRecDepth 100000
set_option maxHeartbeats 4000000
/-! Q1: the mirrors run by simp, as far as a call, a draw or an open test: what is wanted behind stays as it stands. -/
namespace Z
open PySem PySem.Spec L2

section
variable {α β : Type} {a : α} {env : En} {s s1 : S} {v x y : PV} {E : Str → PV → S → Prop}
/-- a mark that keeps simp out of what it stands for -/
structure Tg {α : Type} (a : α) : Type
/-- Post, kept shut: nothing runs the mirrors behind it -/
structure Pq {α : Type} (r : Rs α) (Q : α → S → Prop) (E : Str → PV → S → Prop) (_t : Tg Q := ⟨⟩) (_u : Tg E := ⟨⟩) : Prop where
  get : Post r Q E
theorem pqE {r : Rs α} {Q : α → S → Prop} {X : Prop} (h : Post r Q E ↔ X) : Pq r Q E = X := propext ⟨fun p => h.mp p.get, fun x => ⟨h.mpr x⟩⟩
theorem pq_in {r : Rs α} {Q Q' : α → S → Prop} (h : ∀ a s, Q a s = Q' a s) : Pq r Q E = Pq r Q' E := by rw [show Q = Q' from funext fun a => funext (h a)]
theorem Pq.mono {r : Rs α} {Q Q' : α → S → Prop} {E' : Str → PV → S → Prop} (h : Pq r Q E) (hQ : ∀ a s, Q a s → Q' a s) (hE : ∀ c x s, E c x s → E' c x s) : Pq r Q' E' := ⟨h.get.mono hQ hE⟩
@[simp ↓] theorem w_ok {Q : α → S → Prop} : Pq (.ok a s) Q E = Q a s := pqE Iff.rfl
@[simp ↓] theorem w_exc {Q : α → S → Prop} {c : Str} : Pq (.exc c x s) Q E = E c x s := pqE Iff.rfl
@[simp ↓] theorem w_fail {Q : α → S → Prop} : Pq (.fail : Rs α) Q E = False := pqE Iff.rfl
@[simp ↓] theorem w_bind {r : Rs α} {k : α → S → Rs β} {Q : β → S → Prop} : Pq (r.bind k) Q E = Pq r (fun a s => Pq (k a s) Q E) E := by
  cases r with
  | ok a s => rw [w_ok]; rfl
  | exc c x s => rw [w_exc]; exact pqE Iff.rfl
  | fail => rw [w_fail]; exact pqE Iff.rfl
@[simp ↓] theorem w_lift {Q : PV → S → Prop} : Pq (lift (some (v, s))) Q E = Q v s := pqE Iff.rfl
/-- a slot -/
def atE (env : En) (i : Nat) (P : PV → Prop) (_t : Tg P := ⟨⟩) : Prop :=
  match env[i]? with
  | some (some v) => P v
  | _ => False
@[simp ↓] theorem atE_0 {P : PV → Prop} : atE (some v :: env) 0 P = P v := propext Iff.rfl
@[simp ↓] theorem atE_s {P : PV → Prop} {o : Option PV} {i : Nat} : atE (o :: env) (i + 1) P = atE env i P := by unfold atE; rw [List.getElem?_cons_succ]
theorem atE_of {P : PV → Prop} {i : Nat} (h : env[i]? = some (some v)) : atE env i P = P v := by unfold atE; rw [h]
@[simp ↓] theorem w_v {i : Nat} {Q : PV → S → Prop} : Pq (eV i env s) Q E = atE env i fun v => Q v s := by
  unfold eV atE
  rcases env[i]? with _ | (_ | v)
  · exact w_fail
  · exact w_fail
  · exact w_ok
@[simp ↓] theorem w_c {Q : PV → S → Prop} : Pq (eC v env s) Q E = Q v s := pqE Iff.rfl
@[simp ↓] theorem w_un {f : O1} {m : EM} {Q : PV → S → Prop} : Pq (eUn f m env s) Q E = Pq (m env s) (fun x s1 => Pq (lift (f x s1)) Q E) E := by unfold eUn; exact w_bind
@[simp ↓] theorem w_op {f : O2} {m n : EM} {Q : PV → S → Prop} : Pq (eOp f m n env s) Q E = Pq (m env s) (fun x s1 => Pq (n env s1) (fun y s2 => Pq (lift (f x y s2)) Q E) E) E := by
  simp only [eOp, w_bind]; refine pq_in fun _ _ => ?_; simp only [w_bind]
@[simp ↓] theorem w_anil {Q : List PV → S → Prop} : Pq (aNil env s) Q E = Q [] s := pqE Iff.rfl
@[simp ↓] theorem w_acons {m : EM} {n : AM} {Q : List PV → S → Prop} : Pq (aCons m n env s) Q E = Pq (m env s) (fun x s1 => Pq (n env s1) (fun xs s2 => Q (x :: xs) s2) E) E := by
  simp only [aCons, w_bind]; refine pq_in fun _ _ => ?_; simp only [w_bind]; refine pq_in fun _ _ => ?_; simp only [w_ok]
@[simp ↓] theorem w_ls {f : OL} {n : AM} {Q : PV → S → Prop} : Pq (eLs f n env s) Q E = Pq (n env s) (fun xs s1 => Pq (lift (f xs s1)) Q E) E := by simp only [eLs, w_bind]
@[simp ↓] theorem w_tup {n : AM} {Q : PV → S → Prop} : Pq (eTup n env s) Q E = Pq (n env s) (fun xs s1 => Pq (lift (newT xs s1)) Q E) E := by simp only [eTup, w_ls]
@[simp ↓] theorem w_lst {b : Bool} {n : AM} {Q : PV → S → Prop} : Pq (eLst b n env s) Q E = Pq (n env s) (fun xs s1 => Pq (lift (newL b xs s1)) Q E) E := by simp only [eLst, w_ls]
@[simp ↓] theorem w_eif {t : TM} {m n : EM} {Q : PV → S → Prop} : Pq (eIf t m n env s) Q E = Pq (t env s) (fun c s1 => Pq (if c then m env s1 else n env s1) Q E) E := by simp only [eIf, w_bind]
def onB (x : PV) (P : Bool → Prop) (_t : Tg P := ⟨⟩) : Prop :=
  match x with
  | .bl c => P c
  | _ => False
@[simp ↓] theorem onB_bl {c : Bool} {P : Bool → Prop} : onB (.bl c) P = P c := propext Iff.rfl
def onI (x : PV) (P : Int → Prop) (_t : Tg P := ⟨⟩) : Prop :=
  match x with
  | .int c => P c
  | _ => False
@[simp ↓] theorem onI_int {c : Int} {P : Int → Prop} : onI (.int c) P = P c := propext Iff.rfl
@[simp ↓] theorem w_and {m n : EM} {Q : PV → S → Prop} : Pq (eAnd m n env s) Q E = Pq (m env s) (fun x s1 => onB x fun c => Pq (if c then n env s1 else .ok (.bl false) s1) Q E) E := by
  simp only [eAnd, w_bind]
  (try rw [w_bind]); refine pq_in fun x s1 => ?_
  cases x <;> try exact pqE Iff.rfl
  rename_i b; cases b <;> rfl
@[simp ↓] theorem w_or {m n : EM} {Q : PV → S → Prop} : Pq (eOr m n env s) Q E = Pq (m env s) (fun x s1 => onB x fun c => Pq (if c then .ok (.bl true) s1 else n env s1) Q E) E := by
  simp only [eOr, w_bind]
  (try rw [w_bind]); refine pq_in fun x s1 => ?_
  cases x <;> try exact pqE Iff.rfl
  rename_i b; cases b <;> rfl
@[simp ↓] theorem w_not {m : EM} {Q : PV → S → Prop} : Pq (eNot m env s) Q E = Pq (m env s) (fun x s1 => onB x fun c => Q (.bl (!c)) s1) E := by
  simp only [eNot, w_bind]
  (try rw [w_bind]); refine pq_in fun x s1 => ?_
  cases x <;> exact pqE Iff.rfl
@[simp ↓] theorem w_tb {m : EM} {Q : Bool → S → Prop} : Pq (tB m env s) Q E = Pq (m env s) (fun x s1 => onB x fun c => Q c s1) E := by
  simp only [tB, w_bind]
  (try rw [w_bind]); refine pq_in fun x s1 => ?_
  cases x <;> exact pqE Iff.rfl
@[simp ↓] theorem w_tand {m n : TM} {Q : Bool → S → Prop} : Pq (tAnd m n env s) Q E = Pq (m env s) (fun c s1 => Pq (if c then n env s1 else .ok false s1) Q E) E := by simp only [tAnd, w_bind]
@[simp ↓] theorem w_tor {m n : TM} {Q : Bool → S → Prop} : Pq (tOr m n env s) Q E = Pq (m env s) (fun c s1 => Pq (if c then .ok true s1 else n env s1) Q E) E := by simp only [tOr, w_bind]
@[simp ↓] theorem w_tnot {m : TM} {Q : Bool → S → Prop} : Pq (tNot m env s) Q E = Pq (m env s) (fun c s1 => Q (!c) s1) E := by
  simp only [tNot, w_bind]; refine pq_in fun _ _ => ?_; simp only [w_ok]
@[simp ↓] theorem w_tyes {Q : Bool → S → Prop} : Pq (tYesM env s) Q E = Q true s := pqE Iff.rfl
@[simp ↓] theorem w_ch {f g : O2} {m n o : EM} {Q : PV → S → Prop} : Pq (eCh f g m n o env s) Q E = Pq (m env s) (fun x s1 => Pq (n env s1) (fun y s2 => Pq (lift (f x y s2)) (fun r s3 => onB r fun c => Pq (if c then eOp g (eC y) o env s3 else .ok (.bl false) s3) Q E) E) E) E := by
  simp only [eCh, w_bind]
  (try rw [w_bind]); refine pq_in fun x s1 => ?_
  (try rw [w_bind]); refine pq_in fun y s2 => ?_
  (try rw [w_bind]); refine pq_in fun r s3 => ?_
  cases r <;> try exact pqE Iff.rfl
  rename_i b; cases b <;> rfl
@[simp ↓] theorem w_mt {T : Kn} {f : OM} {m : EM} {n : AM} {Q : PV → S → Prop} : Pq (eMt T f m n env s) Q E = Pq (m env s) (fun x s1 => onB (.bl (isTy T x s1)) fun c => if c then Pq (n env s1) (fun xs s2 => Pq (lift (f x xs s2)) Q E) E else False) E := by
  simp only [eMt, w_bind]
  (try rw [w_bind]); refine pq_in fun x s1 => ?_
  show Pq _ _ _ = if isTy T x s1 = true then _ else False
  cases isTy T x s1
  · simp
  · simp only [if_true, w_bind]
@[simp ↓] theorem w_sl {b : Bool} {m : EM} {lo hi : PM} {Q : PV → S → Prop} : Pq (eSl b m lo hi env s) Q E = Pq (m env s) (fun x s1 => Pq (lo env s1) (fun l s2 => Pq (hi env s2) (fun h s3 => Pq (lift (oSl b x l h s3)) Q E) E) E) E := by
  simp only [eSl, w_bind]; refine pq_in fun _ _ => ?_; simp only [w_bind]; refine pq_in fun _ _ => ?_; simp only [w_bind]
@[simp ↓] theorem w_pno {Q : Option Int → S → Prop} : Pq (pNo env s) Q E = Q none s := pqE Iff.rfl
@[simp ↓] theorem w_pis {m : EM} {Q : Option Int → S → Prop} : Pq (pIs m env s) Q E = Pq (m env s) (fun x s1 => onI x fun i => Q (some i) s1) E := by
  simp only [pIs, w_bind]
  (try rw [w_bind]); refine pq_in fun x s1 => ?_
  cases x <;> exact pqE Iff.rfl
@[simp ↓] theorem w_call {f : FM} {n : AM} {Q : PV → S → Prop} : Pq (eCall f n env s) Q E = Pq (n env s) (fun vs s1 => Pq (f vs s1) Q E) E := by simp only [eCall, w_bind]
@[simp ↓] theorem w_callK {f : FM} {ix : List Nat} {k : Nat} {n mk : AM} {Q : PV → S → Prop} : Pq (eCallK f ix k n mk env s) Q E = Pq (n env s) (fun vs s1 => Pq (mk env s1) (fun zs s2 => if vs.length = k ∧ zs.length = ix.length then Pq (f (pick ix k vs zs) s2) Q E else False) E) E := by
  simp only [eCallK, w_bind]
  (try rw [w_bind]); refine pq_in fun vs s1 => ?_
  (try rw [w_bind]); refine pq_in fun zs s2 => ?_
  split <;> simp
@[simp ↓] theorem w_callK0 {f : FM} {ix : List Nat} {mk : AM} {Q : PV → S → Prop} : Pq (eCallK0 f ix mk env s) Q E = Pq (mk env s) (fun zs s2 => if zs.length = ix.length then Pq (f (pick ix 0 [] zs) s2) Q E else False) E := by
  simp only [eCallK0, w_bind]
  (try rw [w_bind]); refine pq_in fun zs s2 => ?_
  split <;> simp
/-! statements -/
@[simp ↓] theorem w_snil {Q : Fl → S → Prop} : Pq (sNil env s) Q E = Q (.nx env) s := pqE Iff.rfl
@[simp ↓] theorem w_sbrk {Q : Fl → S → Prop} : Pq (sBrk env s) Q E = Q (.brk env) s := pqE Iff.rfl
@[simp ↓] theorem w_scnt {Q : Fl → S → Prop} : Pq (sCnt env s) Q E = Q (.cnt env) s := pqE Iff.rfl
@[simp ↓] theorem w_sretn {Q : Fl → S → Prop} : Pq (sRetN env s) Q E = Q (.ret .non) s := pqE Iff.rfl
@[simp ↓] theorem w_dead {Q : Fl → S → Prop} : Pq (sDead env s) Q E = False := pqE Iff.rfl
@[simp ↓] theorem w_seq {m n : SM} {Q : Fl → S → Prop} : Pq (sSeq m n env s) Q E = Pq (m env s) (fun fl s1 => Pq (flK n fl s1) Q E) E := by simp only [sSeq, w_bind]
@[simp ↓] theorem w_knx {n : SM} {Q : Fl → S → Prop} : Pq (flK n (.nx env) s) Q E = Pq (n env s) Q E := pqE ⟨fun q => ⟨q⟩, fun q => q.get⟩
@[simp ↓] theorem w_kret {n : SM} {Q : Fl → S → Prop} : Pq (flK n (.ret v) s) Q E = Q (.ret v) s := pqE Iff.rfl
@[simp ↓] theorem w_kbrk {n : SM} {Q : Fl → S → Prop} : Pq (flK n (.brk env) s) Q E = Q (.brk env) s := pqE Iff.rfl
@[simp ↓] theorem w_kcnt {n : SM} {Q : Fl → S → Prop} : Pq (flK n (.cnt env) s) Q E = Q (.cnt env) s := pqE Iff.rfl
@[simp ↓] theorem w_ret {m : EM} {Q : Fl → S → Prop} : Pq (sRet m env s) Q E = Pq (m env s) (fun v s1 => Q (.ret v) s1) E := by
  simp only [sRet, w_bind]; refine pq_in fun _ _ => ?_; simp only [w_ok]
@[simp ↓] theorem w_if {t : TM} {m n : SM} {Q : Fl → S → Prop} : Pq (sIf t m n env s) Q E = Pq (t env s) (fun c s1 => Pq (if c then m env s1 else n env s1) Q E) E := by simp only [sIf, w_bind]
@[simp ↓] theorem w_expr {m : EM} {Q : Fl → S → Prop} : Pq (sExpr m env s) Q E = Pq (m env s) (fun _ s1 => Q (.nx env) s1) E := by
  simp only [sExpr, w_bind]; refine pq_in fun _ _ => ?_; simp only [w_ok]
def onE (o : Option En) (P : En → Prop) (_t : Tg P := ⟨⟩) : Prop :=
  match o with
  | some e => P e
  | none => False
@[simp ↓] theorem onE_some {P : En → Prop} : onE (some env) P = P env := propext Iff.rfl
@[simp ↓] theorem w_liftE {o : Option En} {Q : Fl → S → Prop} : Pq (liftE o s) Q E = onE o fun e => Q (.nx e) s := by cases o <;> exact pqE Iff.rfl
@[simp ↓] theorem w_asg {t : GM} {m : EM} {Q : Fl → S → Prop} : Pq (sAsg m t env s) Q E = Pq (m env s) (fun v s1 => onE (t v env s1) fun e => Q (.nx e) s1) E := by
  simp only [sAsg, w_bind]; refine pq_in fun _ _ => ?_; simp only [w_liftE]
@[simp ↓] theorem g_name {i : Nat} : mName i v env s = some (env.set i (some v)) := by unfold mName; rfl
@[simp ↓] theorem g_nil : mNil [] env s = some env := by unfold mNil; rfl
theorem bindE_some {f : En → Option En} : (some env).bind f = f env := by rw [Option.bind_some]
@[simp ↓] theorem g_cons {t : GM} {u : GMs} {xs : List PV} : mCons t u (x :: xs) env s = (t x env s).bind fun e => u xs e s := by unfold mCons; rfl
@[simp ↓] theorem g_tup {u : GMs} {xs : List PV} : mTup u (.tup xs) env s = u xs env s := by unfold mTup; rfl
def onL2 (vs : List PV) (P : PV → PV → Prop) : Prop :=
  match vs with
  | [a, b] => P a b
  | _ => False
@[simp ↓] theorem onL2_e {P : PV → PV → Prop} : onL2 [x, y] P = P x y := propext Iff.rfl
def onL3 (vs : List PV) (P : PV → PV → PV → Prop) : Prop :=
  match vs with
  | [a, b, c] => P a b c
  | _ => False
@[simp ↓] theorem onL3_e {P : PV → PV → PV → Prop} : onL3 [x, y, v] P = P x y v := propext Iff.rfl
@[simp ↓] theorem w_par {i j : Nat} {n : AM} {Q : Fl → S → Prop} : Pq (sPar i j n env s) Q E = Pq (n env s) (fun vs s1 => onL2 vs fun a b => Q (.nx ((env.set i (some a)).set j (some b))) s1) E := by
  simp only [sPar, w_bind]
  (try rw [w_bind]); refine pq_in fun vs s1 => ?_
  unfold onL2
  split <;> simp
@[simp ↓] theorem w_par3 {i j l : Nat} {n : AM} {Q : Fl → S → Prop} : Pq (sPar3 i j l n env s) Q E = Pq (n env s) (fun vs s1 => onL3 vs fun a b c => Q (.nx (((env.set i (some a)).set j (some b)).set l (some c))) s1) E := by
  simp only [sPar3, w_bind]
  (try rw [w_bind]); refine pq_in fun vs s1 => ?_
  unfold onL3
  split <;> simp
@[simp ↓] theorem w_endn {Q : PV → S → Prop} : Pq (flEnd (.nx env) s) Q E = Q .non s := pqE Iff.rfl
@[simp ↓] theorem w_endr {Q : PV → S → Prop} : Pq (flEnd (.ret v) s) Q E = Q v s := pqE Iff.rfl
@[simp ↓] theorem w_fn {n : Nat} {N : List Str} {m : SM} {vs : List PV} {Q : PV → S → Prop} : Pq (fnM n N m vs s) Q E = if vs.length = n then Pq (m (startE N vs) s) (fun fl s1 => Pq (flEnd fl s1) Q E) E else False := by
  unfold fnM
  split
  · exact w_bind
  · exact pqE Iff.rfl
/-! what is walked -/
@[simp ↓] theorem w_for {it : IM} {t : GM} {b : SM} {Q : Fl → S → Prop} : Pq (sFor it t b env s) Q E = Pq (it env s) (fun p s1 => Pq (forL p.2 t b p.1 env s1) Q E) E := by simp only [sFor, w_bind]
def onP (o : Option (List PV × Ck)) (P : List PV × Ck → Prop) (_t : Tg P := ⟨⟩) : Prop :=
  match o with
  | some e => P e
  | none => False
@[simp ↓] theorem onP_some {p : List PV × Ck} {P : List PV × Ck → Prop} : onP (some p) P = P p := propext Iff.rfl
@[simp ↓] theorem w_iany {m : EM} {Q : List PV × Ck → S → Prop} : Pq (iAny m env s) Q E = Pq (m env s) (fun v s1 => onP (itOf v s1) fun p => Q p s1) E := by
  simp only [iAny, w_bind]
  (try rw [w_bind]); refine pq_in fun v s1 => ?_
  cases itOf v s1 <;> exact pqE Iff.rfl
def onR1 (vs : List PV) (P : Int → Prop) : Prop :=
  match vs with
  | [.int j] => (j < 4000000000000000000 ∧ -4000000000000000000 < j) ∧ P j
  | _ => False
@[simp ↓] theorem onR1_e {j : Int} {P : Int → Prop} : onR1 [.int j] P = ((j < 4000000000000000000 ∧ -4000000000000000000 < j) ∧ P j) := propext Iff.rfl
@[simp ↓] theorem w_ir1 {n : AM} {Q : List PV × Ck → S → Prop} : Pq (iR1 n env s) Q E = Pq (n env s) (fun vs s1 => onR1 vs fun j => Q (ups 0 j.toNat, []) s1) E := by
  simp only [iR1, w_bind]
  (try rw [w_bind]); refine pq_in fun vs s1 => ?_
  unfold onR1
  split
  · split
    · rename_i h; exact pqE ⟨fun q => ⟨h, q⟩, fun q => q.2⟩
    · rename_i h; exact pqE ⟨fun q => q.elim, fun q => h q.1⟩
  · simp
def onR2 (vs : List PV) (P : Int → Int → Prop) : Prop :=
  match vs with
  | [.int i, .int j] => ((j < 4000000000000000000 ∧ -4000000000000000000 < j) ∧ (i < 4000000000000000000 ∧ -4000000000000000000 < i)) ∧ P i j
  | _ => False
@[simp ↓] theorem onR2_e {i j : Int} {P : Int → Int → Prop} : onR2 [.int i, .int j] P = (((j < 4000000000000000000 ∧ -4000000000000000000 < j) ∧ (i < 4000000000000000000 ∧ -4000000000000000000 < i)) ∧ P i j) := propext Iff.rfl
@[simp ↓] theorem w_ir2 {n : AM} {Q : List PV × Ck → S → Prop} : Pq (iR2 n env s) Q E = Pq (n env s) (fun vs s1 => onR2 vs fun i j => Q (ups i (j - i).toNat, []) s1) E := by
  simp only [iR2, w_bind]
  (try rw [w_bind]); refine pq_in fun vs s1 => ?_
  unfold onR2
  split
  · split
    · rename_i h; exact pqE ⟨fun q => ⟨h, q⟩, fun q => q.2⟩
    · rename_i h; exact pqE ⟨fun q => q.elim, fun q => h q.1⟩
  · simp
def onL1 (vs : List PV) (P : PV → Prop) : Prop :=
  match vs with
  | [a] => P a
  | _ => False
@[simp ↓] theorem onL1_e {P : PV → Prop} : onL1 [x] P = P x := propext Iff.rfl
@[simp ↓] theorem w_ien {n : AM} {Q : List PV × Ck → S → Prop} : Pq (iEn n env s) Q E = Pq (n env s) (fun vs s1 => onL1 vs fun v => onP (lsCk s1 v) fun p => Q (nums p.1, p.2) s1) E := by
  simp only [iEn, w_bind]
  (try rw [w_bind]); refine pq_in fun vs s1 => ?_
  unfold onL1
  split
  · rename_i v
    show Pq (liftI ((lsCk s1 v).map fun p => (nums p.1, p.2)) s1) Q E = onP (lsCk s1 v) fun p => Q (nums p.1, p.2) s1
    generalize lsCk s1 v = o
    cases o <;> exact pqE Iff.rfl
  · simp
/-- what a loop's turn ends with -/
noncomputable def forK (c : Ck) (t : GM) (b : SM) (xs : List PV) (fl : Fl) (s : S) : Rs Fl :=
  match fl with
  | .nx e => forL c t b xs e s
  | .cnt e => forL c t b xs e s
  | .brk e => .ok (.nx e) s
  | .ret v => .ok (.ret v) s
@[simp ↓] theorem w_fknx {c : Ck} {t : GM} {b : SM} {xs : List PV} {Q : Fl → S → Prop} : Pq (forK c t b xs (.nx env) s) Q E = Pq (forL c t b xs env s) Q E := pqE ⟨fun q => ⟨q⟩, fun q => q.get⟩
@[simp ↓] theorem w_fkcnt {c : Ck} {t : GM} {b : SM} {xs : List PV} {Q : Fl → S → Prop} : Pq (forK c t b xs (.cnt env) s) Q E = Pq (forL c t b xs env s) Q E := pqE ⟨fun q => ⟨q⟩, fun q => q.get⟩
@[simp ↓] theorem w_fkbrk {c : Ck} {t : GM} {b : SM} {xs : List PV} {Q : Fl → S → Prop} : Pq (forK c t b xs (.brk env) s) Q E = Q (.nx env) s := pqE Iff.rfl
@[simp ↓] theorem w_fkret {c : Ck} {t : GM} {b : SM} {xs : List PV} {Q : Fl → S → Prop} : Pq (forK c t b xs (.ret v) s) Q E = Q (.ret v) s := pqE Iff.rfl
/-- a loop over what stands for ever, its first turn (not by simp of itself) -/
theorem w_forn {t : GM} {b : SM} {xs : List PV} {Q : Fl → S → Prop} : Pq (forL [] t b (x :: xs) env s) Q E = onE (t x env s) fun e => Pq (b e s) (fun fl s1 => Pq (forK [] t b xs fl s1) Q E) E := by
  rw [forL, if_pos (show ckOk [] s from ck0)]
  cases t x env s with
  | none => exact pqE Iff.rfl
  | some e =>
    show Pq (Rs.bind _ _) _ _ = _
    rw [w_bind]; rfl
theorem w_for0 {t : GM} {b : SM} {Q : Fl → S → Prop} : Pq (forL [] t b [] env s) Q E = Q (.nx env) s := by
  rw [forL, if_pos (show ckOk [] s from ck0)]; exact pqE Iff.rfl
/-- a loop by its invariant -/
theorem p_for {c : Ck} {t : GM} {b : SM} {Q : Fl → S → Prop} (I : Nat → En → S → Prop) : ∀ {xs : List PV} {env : En} {s : S} (h0 : I 0 env s) (ck : ∀ i env s, i ≤ xs.length → I i env s → ckOk c s)
    (st : ∀ (i : Nat) x, xs[i]? = some x → ∀ env s, I i env s → onE (t x env s) fun e => Pq (b e s) (fun fl s1 => match fl with
      | .nx e => I (i + 1) e s1
      | .cnt e => I (i + 1) e s1
      | .brk e => Q (.nx e) s1
      | .ret v => Q (.ret v) s1) E)
    (dn : ∀ env s, I xs.length env s → Q (.nx env) s), Pq (forL c t b xs env s) Q E := by
  intro xs
  induction xs generalizing I with
  | nil =>
    intro env s h0 ck st dn
    rw [forL, if_pos (ck 0 _ _ (Nat.le_refl _) h0)]
    exact ⟨dn _ _ h0⟩
  | cons x xs ih =>
    intro env s h0 ck st dn
    rw [forL, if_pos (ck 0 _ _ (Nat.zero_le _) h0)]
    have h := st 0 x rfl env s h0
    cases e : t x env s with
    | none => rw [e] at h; exact h.elim
    | some e1 =>
      rw [e] at h
      show Pq (Rs.bind _ _) _ _
      rw [w_bind]
      have go : ∀ e s', I 1 e s' → Pq (forL c t b xs e s') Q E := fun e s' hi => ih (fun i => I (i + 1)) hi (fun i env s hl q => ck (i + 1) env s (by simp; omega) q) (fun i x hx env s q => st (i + 1) x (by simpa using hx) env s q) (fun env s q => dn env s (by simpa using q))
      refine Pq.mono (h : Pq _ _ _) (fun fl s1 q => ?_) fun _ _ _ z => z
      cases fl with
      | nx e => exact go e s1 q
      | cnt e => exact go e s1 q
      | brk e => exact ⟨q⟩
      | ret v => exact ⟨q⟩
/-! comprehensions -/
def noE : Str → PV → S → Prop := fun _ _ _ => False
theorem post_noX {r : Rs α} {Q : α → S → Prop} : Pq (noX r) Q E = Pq r Q noE := by cases r <;> exact pqE ⟨fun q => ⟨q⟩, fun q => q.get⟩
@[simp ↓] theorem w_lc {mu : Bool} {it : IM} {t : GM} {ts : TM} {m : EM} {vs : List Nat} {Q : PV → S → Prop} : Pq (eLc mu it t ts m vs env s) Q E = Pq (it env s) (fun p s1 => p.1.length ≤ 16000000 ∧ Pq (lcL p.2 t ts m (wipeE env vs) p.1 s1) (fun ys s2 => Pq (lift (newL mu ys s2)) Q E) E) E := by
  simp only [eLc, w_bind]
  (try rw [w_bind]); refine pq_in fun p s1 => ?_
  split
  · rename_i h; simp only [h, true_and, w_bind]
  · rename_i h; simp [h]
theorem p_lc {c : Ck} {t : GM} {ts : TM} {m : EM} (I : Nat → List PV → S → Prop) : ∀ {xs : List PV} {acc : List PV} {s : S} {Q : List PV → S → Prop} (h0 : I 0 acc s) (ck : ∀ i acc s, i ≤ xs.length → I i acc s → ckOk c s)
    (st : ∀ (i : Nat) x, xs[i]? = some x → ∀ acc s, I i acc s → onE (t x env s) fun e => Pq (ts e s) (fun k s1 => if k then Pq (m e s1) (fun y s2 => I (i + 1) (acc ++ [y]) s2) noE else I (i + 1) acc s1) noE)
    (dn : ∀ ys s, I xs.length (acc ++ ys) s → Q ys s), Pq (lcL c t ts m env xs s) Q E := by
  intro xs
  induction xs generalizing I with
  | nil =>
    intro acc s Q h0 ck st dn
    rw [lcL, if_pos (ck 0 _ _ (Nat.le_refl _) h0)]
    exact ⟨dn [] s (by simpa using h0)⟩
  | cons x xs ih =>
    intro acc s Q h0 ck st dn
    rw [lcL, if_pos (ck 0 _ _ (Nat.zero_le _) h0)]
    have h := st 0 x rfl acc s h0
    cases e : t x env s with
    | none => rw [e] at h; exact h.elim
    | some e1 =>
      rw [e] at h
      show Pq (Rs.bind _ _) _ _
      rw [w_bind, post_noX]
      refine Pq.mono (h : Pq _ _ _) (fun k s1 q => ?_) fun _ _ _ z => z.elim
      cases k with
      | false =>
        exact ih (fun i => I (i + 1)) q (fun i env s hl q => ck (i + 1) env s (by simp; omega) q) (fun i x hx env s q => st (i + 1) x (by simpa using hx) env s q) (fun ys s q => dn ys s (by simpa using q))
      | true =>
        have q : Pq (m e1 s1) (fun y s2 => I (0 + 1) (acc ++ [y]) s2) noE := q
        show Pq (Rs.bind _ _) _ _
        rw [w_bind, post_noX]
        refine Pq.mono q (fun y s2 q => ?_) fun _ _ _ z => z.elim
        rw [w_bind]
        exact ih (fun i => I (i + 1)) q (fun i env s hl q => ck (i + 1) env s (by simp; omega) q) (fun i x hx env s q => st (i + 1) x (by simpa using hx) env s q) (fun ys s q => ⟨dn (y :: ys) s (by simpa using q)⟩)
/-- .. that touches nothing: a map of what passes -/
theorem lc_pure {t : GM} {ts : TM} {m : EM} {g : PV → PV} {p : PV → Bool} : ∀ {xs : List PV} (h : ∀ x ∈ xs, onE (t x env s) fun e => ts e s = .ok (p x) s ∧ (p x = true → m e s = .ok (g x) s)), lcL [] t ts m env xs s = .ok ((xs.filter p).map g) s := by
  intro xs
  induction xs with
  | nil => intro _; rw [lcL, if_pos (show ckOk [] s from ck0)]; rfl
  | cons x xs ih =>
    intro h
    rw [lcL, if_pos (show ckOk [] s from ck0)]
    have hx := h x (by simp)
    cases e : t x env s with
    | none => rw [e] at hx; exact hx.elim
    | some e1 =>
      rw [e] at hx
      obtain ⟨h1, h2⟩ := hx
      show Rs.bind (noX (ts e1 s)) _ = _
      rw [h1, show noX (Rs.ok (p x) s) = .ok (p x) s from rfl]
      show (if p x = true then _ else _) = _
      cases q : p x with
      | false => rw [if_neg (by simp), ih fun y hy => h y (by simp [hy])]; simp [q]
      | true =>
        rw [if_pos rfl, h2 q]
        show Rs.bind (lcL [] t ts m env xs s) _ = _
        rw [ih fun y hy => h y (by simp [hy])]
        simp [q]; rfl
theorem post_eq {r : Rs α} {Q : α → S → Prop} (h : r = .ok a s1) (q : Q a s1) : Pq r Q E := by rw [h]; exact ⟨q⟩
theorem post_ite {p q : Rs α} {c : Bool} {Q : α → S → Prop} (ha : c = true → Pq p Q E) (hb : c = false → Pq q Q E) : Pq (if c then p else q) Q E := by
  cases c with
  | true => exact ha rfl
  | false => exact hb rfl
theorem post_iteP {p q : Rs α} {c : Prop} [Decidable c] {Q : α → S → Prop} (ha : c → Pq p Q E) (hb : ¬ c → Pq q Q E) : Pq (if c then p else q) Q E := by
  by_cases h : c
  · rw [if_pos h]; exact ha h
  · rw [if_neg h]; exact hb h
/-! while -/
theorem p_while {t : TM} {b : SM} {Q : Fl → S → Prop} (I : Nat → En → S → Prop) (n0 : Nat) : ∀ {n : Nat} {env : En} {s : S} (h0 : I n0 env s) (hn : n0 < n)
    (st : ∀ k env s, I k env s → Pq (t env s) (fun c s1 => if c then Pq (b env s1) (fun fl s2 => match fl with
      | .nx e => ∃ j, j < k ∧ I j e s2
      | .cnt e => ∃ j, j < k ∧ I j e s2
      | .brk e => Q (.nx e) s2
      | .ret v => Q (.ret v) s2) E else Q (.nx env) s1) E), Pq (sWhile t b n env s) Q E := by
  induction n0 using Nat.strongRecOn with
  | _ n0 ih =>
    intro n env s h0 hn st
    obtain ⟨n, rfl⟩ : ∃ m, n = m + 1 := ⟨n - 1, by omega⟩
    show Pq (Rs.bind _ _) _ _
    rw [w_bind]
    refine Pq.mono (st n0 env s h0) (fun c s1 q => ?_) fun _ _ _ z => z
    cases c with
    | false => exact ⟨q⟩
    | true =>
      have q : Pq (b env s1) _ E := q
      show Pq (Rs.bind _ _) _ _
      rw [w_bind]
      refine Pq.mono q (fun fl s2 q => ?_) fun _ _ _ z => z
      cases fl with
      | nx e => obtain ⟨j, hj, q⟩ := q; exact ih j hj q (by omega) st
      | cnt e => obtain ⟨j, hj, q⟩ := q; exact ih j hj q (by omega) st
      | brk e => exact ⟨q⟩
      | ret v => exact ⟨q⟩
end
end Z

set_option Elab.async false
set_option linter.all false
set_option maxRecDepth 100000
set_option maxHeartbeats 4000000
/-! Q2: the operators by simp; the deck. -/
namespace Z
open PySem PySem.Spec L2

section
variable {s : S} {i j : Int} {mu : Bool} {xs ys : List PV} {x y v : PV} {Q : PV → S → Prop} {E : Str → PV → S → Prop} {env : En} {z u : Str}
def onV (o : Option PV) (P : PV → Prop) (_t : Tg P := ⟨⟩) : Prop :=
  match o with
  | some v => P v
  | none => False
@[simp ↓] theorem onV_some {P : PV → Prop} : onV (some v) P = P v := propext Iff.rfl
theorem post_lift_map {o : Option PV} : Pq (lift (o.map fun v => (v, s))) Q E = onV o fun v => Q v s := by cases o <;> exact pqE Iff.rfl
@[simp] theorem q_add_ii : oAdd mu (.int i) (.int j) s = some (.int (i + j), s) := by unfold oAdd; rfl
@[simp] theorem q_add_ib {b : Bool} : oAdd mu (.int i) (.bl b) s = some (.int (i + b2 b), s) := by unfold oAdd; rfl
@[simp] theorem q_sub_ii : oSub (.int i) (.int j) s = some (.int (i - j), s) := by unfold oSub; rfl
@[simp] theorem q_neg : uNeg (.int i) s = some (.int (-i), s) := by unfold uNeg; rfl
@[simp] theorem q_lt : oRel (fun i j => decide (i < j)) (.int i) (.int j) s = some (.bl (decide (i < j)), s) := by unfold oRel; rfl
@[simp] theorem q_le : oRel (fun i j => decide (i ≤ j)) (.int i) (.int j) s = some (.bl (decide (i ≤ j)), s) := by unfold oRel; rfl
@[simp] theorem q_gt : oRel (fun i j => decide (j < i)) (.int i) (.int j) s = some (.bl (decide (j < i)), s) := by unfold oRel; rfl
@[simp] theorem q_ge : oRel (fun i j => decide (j ≤ i)) (.int i) (.int j) s = some (.bl (decide (j ≤ i)), s) := by unfold oRel; rfl
@[simp] theorem q_int : bInt [.int i] s = some (.int i, s) := by unfold bInt; rfl
@[simp] theorem q_intb {b : Bool} : bInt [.bl b] s = some (.int (b2 b), s) := by unfold bInt; rfl
@[simp] theorem q_max : bMax2 [.int i, .int j] s = some (.int (max i j), s) := by
  unfold bMax2
  show some (PV.int (if j > i then j else i), s) = _
  rw [show (if j > i then j else i) = max i j by rw [Int.max_def]; split <;> split <;> omega]
@[simp] theorem q_min : bMin2 [.int i, .int j] s = some (.int (min i j), s) := by
  unfold bMin2
  show some (PV.int (if j < i then j else i), s) = _
  rw [show (if j < i then j else i) = min i j by rw [Int.min_def]; split <;> split <;> omega]
@[simp] theorem w_mod : Pq (lift (oMod (.int i) (.int j) s)) Q E = (j ≠ 0 ∧ Q (.int (i.fmod j)) s) := by
  show Pq (lift (if j ≠ 0 then some (PV.int (i.fmod j), s) else none)) Q E = _
  split
  · rename_i h; exact pqE ⟨fun q => ⟨h, q⟩, fun q => q.2⟩
  · rename_i h; exact pqE ⟨fun q => q.elim, fun q => h q.1⟩
@[simp] theorem w_fdiv : Pq (lift (oFdiv (.int i) (.int j) s)) Q E = ((j ≠ 0 ∧ (j.natAbs < 1073741824 ∨ (0 < j ∧ j < 2 ^ 64))) ∧ Q (.int (i.fdiv j)) s) := by
  show Pq (lift (if _ then some (PV.int (i.fdiv j), s) else none)) Q E = _
  split
  · rename_i h; exact pqE ⟨fun q => ⟨h, q⟩, fun q => q.2⟩
  · rename_i h; exact pqE ⟨fun q => q.elim, fun q => h q.1⟩
def mulOk (i j : Int) : Prop := (-(2 ^ 64) < i ∧ i < 2 ^ 64) ∨ (-(2 ^ 64) < j ∧ j < 2 ^ 64)
@[simp] theorem w_mul : Pq (lift (oMulI (.int i) (.int j) s)) Q E = (mulOk i j ∧ Q (.int (i * j)) s) := by
  show Pq (lift (if _ then some (PV.int (i * j), s) else none)) Q E = _
  split
  · rename_i h; exact pqE ⟨fun q => ⟨h, q⟩, fun q => q.2⟩
  · rename_i h; exact pqE ⟨fun q => q.elim, fun q => h q.1⟩
@[simp] theorem w_mulG : Pq (lift (oMul mu (.int i) (.int j) s)) Q E = (mulOk i j ∧ Q (.int (i * j)) s) := w_mul
theorem mulOk_l (h : -(2 ^ 64) < i ∧ i < 2 ^ 64) : mulOk i j := .inl h
theorem mulOk_r (h : -(2 ^ 64) < j ∧ j < 2 ^ 64) : mulOk i j := .inr h
@[simp] theorem w_pow : Pq (lift (oPow (.int i) (.int j) s)) Q E = ((0 ≤ j ∧ j ≤ 1000000 ∧ i.natAbs < 2 ^ 64) ∧ Q (.int (i ^ j.toNat)) s) := by
  show Pq (lift (if _ then some (PV.int (i ^ j.toNat), s) else none)) Q E = _
  split
  · rename_i h; exact pqE ⟨fun q => ⟨h, q⟩, fun q => q.2⟩
  · rename_i h; exact pqE ⟨fun q => q.elim, fun q => h q.1⟩
@[simp] theorem w_newT : Pq (lift (newT xs s)) Q E = (xs.length ≤ 16000000 ∧ Q (.tup xs) s) := by
  show Pq (lift (if _ then some (PV.tup xs, s) else none)) Q E = _
  split
  · rename_i h; exact pqE ⟨fun q => ⟨h, q⟩, fun q => q.2⟩
  · rename_i h; exact pqE ⟨fun q => q.elim, fun q => h q.1⟩
@[simp] theorem w_newF : Pq (lift (newL false xs s)) Q E = (xs.length ≤ 16000000 ∧ Q (.lst xs) s) := by
  show Pq (lift (if _ then some (PV.lst xs, s) else none)) Q E = _
  split
  · rename_i h; exact pqE ⟨fun q => ⟨h, q⟩, fun q => q.2⟩
  · rename_i h; exact pqE ⟨fun q => q.elim, fun q => h q.1⟩
@[simp] theorem w_newM : Pq (lift (newL true xs s)) Q E = (xs.length ≤ 16000000 ∧ Q (.obj s.length) (s ++ [MO.lst xs])) := by
  show Pq (lift (if _ then some (PV.obj s.length, s ++ [MO.lst xs]) else none)) Q E = _
  split
  · rename_i h; exact pqE ⟨fun q => ⟨h, q⟩, fun q => q.2⟩
  · rename_i h; exact pqE ⟨fun q => q.elim, fun q => h q.1⟩
@[simp] theorem w_add_ss : Pq (lift (oAdd mu (.str z) (.str u) s)) Q E = (z.length + u.length ≤ 16000000 ∧ Q (.str (z ++ u)) s) := by
  show Pq (lift (if _ then some (PV.str (z ++ u), s) else none)) Q E = _
  split
  · rename_i h; exact pqE ⟨fun q => ⟨h, q⟩, fun q => q.2⟩
  · rename_i h; exact pqE ⟨fun q => q.elim, fun q => h q.1⟩
@[simp] theorem q_add_tt : oAdd mu (.tup xs) (.tup ys) s = newT (xs ++ ys) s := by unfold oAdd; rfl
@[simp] theorem q_add_ll : oAdd mu (.lst xs) (.lst ys) s = newL mu (xs ++ ys) s := by unfold oAdd; rfl
/-! lists of the store -/
def stL (s : S) (n : Nat) : Option (List PV) :=
  match s[n]? with
  | some (.lst xs) => some xs
  | _ => none
def stD (s : S) (n : Nat) : Option (List (Key × PV)) :=
  match s[n]? with
  | some (.dic xs) => some xs
  | _ => none
theorem lsOf_obj {n : Nat} : lsOf s (.obj n) = stL s n := by unfold lsOf stL; rfl
theorem mlst_obj {n : Nat} : mlst s (.obj n) = (stL s n).map fun xs => (n, xs) := by
  show (match s[n]? with | some (.lst xs) => some (n, xs) | _ => none) = _
  unfold stL
  split <;> rfl
theorem mdic_obj {n : Nat} : mdic s (.obj n) = (stD s n).map fun xs => (n, xs) := by
  show (match s[n]? with | some (.dic xs) => some (n, xs) | _ => none) = _
  unfold stD
  split <;> rfl
theorem stL_ne {n : Nat} (h : stL s n = some xs) : s[n]? = some (.lst xs) := by
  unfold stL at h
  split at h
  · rename_i e; cases h; exact e
  · cases h
theorem stD_ne {n : Nat} {kvs : List (Key × PV)} (h : stD s n = some kvs) : s[n]? = some (.dic kvs) := by
  unfold stD at h
  split at h
  · rename_i e; cases h; exact e
  · cases h
def onLs (o : Option (List PV)) (P : List PV → Prop) (_t : Tg P := ⟨⟩) : Prop :=
  match o with
  | some v => P v
  | none => False
@[simp ↓] theorem onLs_some {P : List PV → Prop} : onLs (some xs) P = P xs := propext Iff.rfl
@[simp] theorem w_append {n : Nat} : Pq (lift (mAppend (.obj n) [y] s)) Q E = onLs (stL s n) fun xs => xs.length < 16000000 ∧ Q .non (s.set n (.lst (xs ++ [y]))) := by
  unfold mAppend
  rw [mlst_obj]
  cases h : stL s n with
  | none => exact pqE Iff.rfl
  | some xs =>
    show Pq (lift (if xs.length < 16000000 then some (PV.non, s.set n (.lst (xs ++ [y]))) else none)) Q E = _
    rw [onLs_some]
    split
    · rename_i h; exact pqE ⟨fun q => ⟨h, q⟩, fun q => q.2⟩
    · rename_i h; exact pqE ⟨fun q => q.elim, fun q => h q.1⟩
@[simp] theorem w_pop {n : Nat} : Pq (lift (mPop (.obj n) [] s)) Q E = onLs (stL s n) fun xs => onV xs.getLast? fun y => Q y (s.set n (.lst xs.dropLast)) := by
  unfold mPop
  rw [mlst_obj]
  cases h : stL s n with
  | none => exact pqE Iff.rfl
  | some xs =>
    show Pq (lift (match xs.getLast? with | some y => some (y, s.set n (.lst xs.dropLast)) | none => none)) Q E = _
    rw [onLs_some]
    cases xs.getLast? <;> exact pqE Iff.rfl
@[simp] theorem w_extend {n : Nat} : Pq (lift (mExtend (.obj n) [y] s)) Q E = onLs (stL s n) fun xs => onLs (lsOf s y) fun ys => xs.length + ys.length ≤ 16000000 ∧ Q .non (s.set n (.lst (xs ++ ys))) := by
  unfold mExtend
  rw [mlst_obj]
  cases h : stL s n with
  | none => exact pqE Iff.rfl
  | some xs =>
    show Pq (lift (match lsOf s y with | some zs => if xs.length + zs.length ≤ 16000000 then some (PV.non, s.set n (.lst (xs ++ zs))) else none | none => none)) Q E = _
    rw [onLs_some]
    cases lsOf s y with
    | none => exact pqE Iff.rfl
    | some zs =>
      rw [onLs_some]
      show Pq (lift (if xs.length + zs.length ≤ 16000000 then some (PV.non, s.set n (.lst (xs ++ zs))) else none)) Q E = _
      split
      · rename_i h; exact pqE ⟨fun q => ⟨h, q⟩, fun q => q.2⟩
      · rename_i h; exact pqE ⟨fun q => q.elim, fun q => h q.1⟩
@[simp] theorem w_extG_t {n : Nat} : Pq (lift (mExtG (.obj n) [.tup ys] s)) Q E = onLs (stL s n) fun xs => xs.length + ys.length ≤ 16000000 ∧ Q .non (s.set n (.lst (xs ++ ys))) := by
  show Pq (lift (match mlst s (.obj n) with | some (_, xs) => if xs.length + ys.length ≤ 16000000 then some (PV.non, s.set n (.lst (xs ++ ys))) else none | none => none)) Q E = _
  rw [mlst_obj]
  cases h : stL s n with
  | none => exact pqE Iff.rfl
  | some xs =>
    show Pq (lift (if xs.length + ys.length ≤ 16000000 then some (PV.non, s.set n (.lst (xs ++ ys))) else none)) Q E = _
    rw [onLs_some]
    split
    · rename_i h; exact pqE ⟨fun q => ⟨h, q⟩, fun q => q.2⟩
    · rename_i h; exact pqE ⟨fun q => q.elim, fun q => h q.1⟩
@[simp] theorem q_extG_l {n : Nat} : mExtG (.obj n) [.lst ys] s = mExtend (.obj n) [.lst ys] s := by unfold mExtG; rfl
@[simp] theorem q_extG_o {n m : Nat} : mExtG (.obj n) [.obj m] s = mExtend (.obj n) [.obj m] s := by unfold mExtG; rfl
@[simp] theorem isTy_obj {n : Nat} (h : (stL s n).isSome = true) : isTy .list (.obj n) s = true := by
  obtain ⟨xs, e⟩ := Option.isSome_iff_exists.mp h
  simp only [isTy, kn, stL_ne e]
  rfl
@[simp] theorem isTy_str : isTy .str (.str z) s = true := by unfold isTy; rfl
@[simp] theorem isTy_tup : isTy .tuple (.tup xs) s = true := by unfold isTy; rfl
/-! dicts -/
def onDs (o : Option (List (Key × PV))) (P : List (Key × PV) → Prop) (_t : Tg P := ⟨⟩) : Prop :=
  match o with
  | some v => P v
  | none => False
@[simp ↓] theorem onDs_some {P : List (Key × PV) → Prop} {kvs : List (Key × PV)} : onDs (some kvs) P = P kvs := propext Iff.rfl
@[simp] theorem kP_s : kP (.str z) = some (.inr z) := by unfold kP; rfl
@[simp] theorem kP_i : kP (.int i) = some (.inl i) := by unfold kP; rfl
theorem dcOf_obj {n : Nat} : dcOf s (.obj n) = (match s[n]? with | some (.dic kvs) => some kvs | some (.ldc kvs) => some kvs | _ => none) := by unfold dcOf; rfl
theorem w_dget {k : Key} (hk : kP y = some k) : Pq (lift (oDGet x y s)) Q E = onDs (dcOf s x) fun kvs => onV (valP kvs k) fun v => Q v s := by
  unfold oDGet
  rw [hk]
  cases dcOf s x with
  | none => exact pqE Iff.rfl
  | some kvs =>
    rw [onDs_some]
    show Pq (lift (match valP kvs k with | some v => some (v, s) | none => none)) Q E = _
    cases valP kvs k <;> exact pqE Iff.rfl
@[simp] theorem w_dget_s : Pq (lift (oDGet x (.str z) s)) Q E = onDs (dcOf s x) fun kvs => onV (valP kvs (.inr z)) fun v => Q v s := w_dget kP_s
@[simp] theorem w_dget_i : Pq (lift (oDGet x (.int i) s)) Q E = onDs (dcOf s x) fun kvs => onV (valP kvs (.inl i)) fun v => Q v s := w_dget kP_i
theorem w_dput {mv mo mi : EM} {Q : Fl → S → Prop} : Pq (sDPut mv mo mi env s) Q E = Pq (mv env s) (fun v s1 => Pq (mo env s1) (fun x s2 => Pq (mi env s2) (fun y s3 =>
    Pq (match mdic s3 x, kP y with | some (n, kvs), some k => if kvs.length < 16000000 then .ok (.nx env) (s3.set n (.dic (putP kvs k v))) else .fail | _, _ => .fail) Q E) E) E) E := by
  simp only [sDPut, w_bind]
  refine pq_in fun _ _ => ?_
  rw [w_bind]
  refine pq_in fun _ _ => ?_
  rw [w_bind]
  first | done | rfl
def onDK (o : Option (Nat × List (Key × PV))) (k : Option Key) (P : Nat → List (Key × PV) → Key → Prop) (_t : Tg P := ⟨⟩) : Prop :=
  match o, k with
  | some (n, kvs), some k => P n kvs k
  | _, _ => False
@[simp ↓] theorem onDK_some {P : Nat → List (Key × PV) → Key → Prop} {n : Nat} {kvs : List (Key × PV)} {k : Key} : onDK (some (n, kvs)) (some k) P = P n kvs k := propext Iff.rfl
@[simp ↓] theorem w_dput' {mv mo mi : EM} {Q : Fl → S → Prop} : Pq (sDPut mv mo mi env s) Q E = Pq (mv env s) (fun v s1 => Pq (mo env s1) (fun x s2 => Pq (mi env s2) (fun y s3 =>
    onDK (mdic s3 x) (kP y) fun n kvs k => kvs.length < 16000000 ∧ Q (.nx env) (s3.set n (.dic (putP kvs k v)))) E) E) E := by
  rw [w_dput]
  (try rw [w_bind]); refine pq_in fun v s1 => ?_
  (try rw [w_bind]); refine pq_in fun x s2 => ?_
  (try rw [w_bind]); refine pq_in fun y s3 => ?_
  generalize mdic s3 x = o
  generalize kP y = k
  rcases o with _ | ⟨n, kvs⟩ <;> rcases k with _ | k
  · exact pqE Iff.rfl
  · exact pqE Iff.rfl
  · exact pqE Iff.rfl
  · rw [onDK_some]
    show Pq (if kvs.length < 16000000 then .ok (.nx env) (s3.set n (.dic (putP kvs k v))) else .fail) Q E = _
    split
    · rename_i h; exact pqE ⟨fun q => ⟨h, q⟩, fun q => q.2⟩
    · rename_i h; exact pqE ⟨fun q => q.elim, fun q => h q.1⟩
end
end Z

set_option Elab.async false
set_option linter.all false
set_option maxRecDepth 100000
set_option maxHeartbeats 4000000
/-! Q3: the deck: what is drawn lies in its range, nothing else is touched. -/
namespace Z
open PySem PySem.Spec L2

structure Deck where
  m : Int
  t : Int
  ns : List Int
  le : ns.length ≤ 63
/-- the store: the deck's dict at 0, what is left of the script at 1, R behind -/
def Deck.st (d : Deck) (k : Str) (R : S) : S := MO.dic [(.inr k, .obj 1), (.inr "mixed", .int d.m), (.inr "draws", .int d.t)] :: MO.lst (d.ns.map .int) :: R
section
variable {k : Str} {d : Deck} {R : S} {n : Nat} {xs : List PV} {o : MO}
@[simp] theorem st_len : (d.st k R).length = R.length + 2 := by unfold Deck.st; rfl
@[simp] theorem st_app {R' : S} : d.st k R ++ R' = d.st k (R ++ R') := by unfold Deck.st; rfl
@[simp] theorem st_L : stL (d.st k R) (n + 2) = stL R n := by unfold stL Deck.st; rfl
@[simp] theorem st_D : stD (d.st k R) (n + 2) = stD R n := by unfold stD Deck.st; rfl
@[simp] theorem st_get : (d.st k R)[n + 2]? = R[n]? := by unfold Deck.st; rfl
@[simp] theorem st_set : (d.st k R).set (n + 2) o = d.st k (R.set n o) := by unfold Deck.st; rfl
@[simp] theorem stL_app {J : S} : stL (R ++ .lst xs :: J) R.length = some xs := by unfold stL; rw [List.getElem?_append_right (Nat.le_refl _), Nat.sub_self]; rfl
@[simp] theorem stL_app1 {J : S} {o1 : MO} : stL (R ++ o1 :: .lst xs :: J) (R.length + 1) = some xs := by
  unfold stL; rw [List.getElem?_append_right (by omega), show R.length + 1 - R.length = 1 by omega]; rfl
@[simp] theorem stL_app2 {J : S} {o1 o2 : MO} : stL (R ++ o1 :: o2 :: .lst xs :: J) (R.length + 2) = some xs := by
  unfold stL; rw [List.getElem?_append_right (by omega), show R.length + 2 - R.length = 2 by omega]; rfl
@[simp] theorem stD_app {J : S} {kvs : List (Key × PV)} : stD (R ++ .dic kvs :: J) R.length = some kvs := by unfold stD; rw [List.getElem?_append_right (Nat.le_refl _), Nat.sub_self]; rfl
@[simp] theorem get_app {J : S} : (R ++ o :: J)[R.length]? = some o := by rw [List.getElem?_append_right (Nat.le_refl _), Nat.sub_self]; rfl
@[simp] theorem get_app1 {J : S} {o1 : MO} : (R ++ o1 :: o :: J)[R.length + 1]? = some o := by rw [List.getElem?_append_right (by omega), show R.length + 1 - R.length = 1 by omega]; rfl
@[simp] theorem set_app {J : S} {o1 : MO} : (R ++ o1 :: J).set R.length o = R ++ o :: J := by rw [List.set_append_right _ _ (Nat.le_refl _), Nat.sub_self]; rfl
@[simp] theorem set_app1 {J : S} {o1 o2 : MO} : (R ++ o1 :: o2 :: J).set (R.length + 1) o = R ++ o1 :: o :: J := by rw [List.set_append_right _ _ (by omega), show R.length + 1 - R.length = 1 by omega]; rfl
@[simp] theorem set_app2 {J : S} {o1 o2 o3 : MO} : (R ++ o1 :: o2 :: o3 :: J).set (R.length + 2) o = R ++ o1 :: o2 :: o :: J := by rw [List.set_append_right _ _ (by omega), show R.length + 2 - R.length = 2 by omega]; rfl
end
theorem set_ext {R J : S} {n : Nat} {x : MO} (h : R.length ≤ n) : ∃ J', (R ++ J).set n x = R ++ J' := ⟨J.set (n - R.length) x, by rw [List.set_append_right _ _ h]⟩
theorem fmod_r {i n : Int} (h : 1 ≤ n) : 0 ≤ i.fmod n ∧ i.fmod n < n := ⟨Int.fmod_nonneg_of_pos _ (by omega), Int.fmod_lt_of_pos _ (by omega)⟩

/-! ### the two kinds of draw -/
/-- figure at f, cell at c -/
def drTail (f : Nat) (k1 : EM) (c5 c6 c7 c8 : Int) (last : EM) : SM :=
  (sSeq (sAsg (eOp oMod (eLs bInt (aCons (eOp (oAdd false) (eOp (oAdd false) (eOp oMulI (eV f) (eV f)) (eOp oMulI (eC (.int c5)) (eOp oDGet (eV 0) (eC (.str "draws"))))) (eC (.int c6))) aNil)) (eC (.int c7))) (mName f))
  (sSeq (sAsg (eOp oMod (eLs bInt (aCons last aNil)) (eC (.int c8))) (mName f))
  (sRet (eOp oMod (eLs bInt (aCons (eOp oFdiv (eV f) (eC (.int 64))) aNil)) (eV 1)))))
def drCell (k : Str) (c : Nat) (after : SM) : SM :=
  (sIf (tB (eOp oNeD (eOp oDGet (eV 0) (eC (.str k))) (eLst false aNil))) (sSeq (sAsg (eMt .list mPop (eOp oDGet (eV 0) (eC (.str k))) aNil) (mName c))
  (sSeq (sIf (tB (eOp oGe (eV c) (eOp oPow (eC (.int 10)) (eC (.int 18))))) (sSeq (sExpr (eMt .list mAppend (eOp oDGet (eV 0) (eC (.str k))) (aCons (eOp oFdiv (eV c) (eLs bMax2 (aCons (eC (.int 2)) (aCons (eV 1) aNil)))) aNil)))
  (sRet (eOp oMod (eLs bInt (aCons (eV c) aNil)) (eV 1)))) sNil)
  after)) sNil)
def drawA (k : Str) (c1 c2 c3 c4 c4' c5 c6 c7 c8 c9 : Int) : SM :=
  (sSeq (sDPut (eOp (oAdd false) (eOp oDGet (eV 0) (eC (.str "draws"))) (eC (.int 1))) (eV 0) (eC (.str "draws")))
  (sSeq (sAsg (eOp (oAdd false) (eOp oDGet (eV 0) (eC (.str "mixed"))) (eOp oMulI (eC (.int c1)) (eOp oDGet (eV 0) (eC (.str "draws"))))) (mName 2))
  (sSeq (drCell k 3 (sAsg (eOp (oAdd false) (eV 2) (eOp oMod (eLs bInt (aCons (eV 3) aNil)) (eC (.int c2)))) (mName 2)))
  (sSeq (sAsg (eOp oMod (eLs bInt (aCons (eOp (oAdd false) (eOp oMulI (eV 2) (eC (.int c3))) (eC (.int c4))) aNil)) (eC (.int c4'))) (mName 2))
  (drTail 2 (eV 2) c5 c6 c7 c8 (eOp oMulI (eV 2) (eC (.int c9))))))))
def drawB (k : Str) (c1 c2 c3 c4 c5 c6 c7 c8 c9 c10 c11 c12 : Int) : SM :=
  (sSeq (sDPut (eOp (oAdd false) (eOp oDGet (eV 0) (eC (.str "draws"))) (eC (.int 1))) (eV 0) (eC (.str "draws")))
  (sSeq (drCell k 2 (sDPut (eOp oMod (eLs bInt (aCons (eOp (oAdd false) (eOp (oAdd false) (eOp oMulI (eOp oDGet (eV 0) (eC (.str "mixed"))) (eC (.int c1))) (eOp oMod (eLs bInt (aCons (eV 2) aNil)) (eC (.int c2)))) (eC (.int c3))) aNil)) (eC (.int c4))) (eV 0) (eC (.str "mixed"))))
  (sSeq (sAsg (eOp oMod (eLs bInt (aCons (eOp (oAdd false) (eOp oDGet (eV 0) (eC (.str "mixed"))) (eOp oMulI (eC (.int c5)) (eOp oDGet (eV 0) (eC (.str "draws"))))) aNil)) (eC (.int c6))) (mName 3))
  (drTail 3 (eV 3) c7 c8 c9 c10 (eOp (oAdd false) (eOp oMulI (eV 3) (eC (.int c11))) (eC (.int c12)))))))
/-- a constant that may stand beside * -/
def okC (c : Int) : Prop := -(2 ^ 64) < c ∧ c < 2 ^ 64
structure KeyOk (k : Str) : Prop where
  a : (k = "mixed") = False
  b : (k = "draws") = False
  a' : (("mixed" : Str) = k) = False
  b' : (("draws" : Str) = k) = False
theorem key_left : KeyOk "left" := by constructor <;> (apply eq_false; decide +kernel)
theorem key_cells : KeyOk "cells" := by constructor <;> (apply eq_false; decide +kernel)
theorem md_ne : (("mixed" : Str) = "draws") = False := eq_false (by decide +kernel)
theorem dm_ne : (("draws" : Str) = "mixed") = False := eq_false (by decide +kernel)
section
variable {k : Str} {m t : Int} {ns : List Int} {R : S} {Q : PV → S → Prop} {E : Str → PV → S → Prop} {F : Fl → S → Prop} {env : En} {x y z : PV}
/-- the store unfolded -/
def D0 (k : Str) (m t : Int) (ns : List Int) (R : S) : S := MO.dic [(.inr k, .obj 1), (.inr "mixed", .int m), (.inr "draws", .int t)] :: MO.lst (ns.map .int) :: R
theorem d0_k : dcOf (D0 k m t ns R) (.obj 0) = some [(.inr k, .obj 1), (.inr "mixed", .int m), (.inr "draws", .int t)] := rfl
theorem d0_m : mdic (D0 k m t ns R) (.obj 0) = some (0, [(.inr k, .obj 1), (.inr "mixed", .int m), (.inr "draws", .int t)]) := rfl
theorem d0_put {kvs : List (Key × PV)} : (D0 k m t ns R).set 0 (.dic kvs) = MO.dic kvs :: MO.lst (ns.map .int) :: R := rfl
theorem d0_l : stL (D0 k m t ns R) 1 = some (ns.map .int) := rfl
theorem d0_s {xs : List PV} : (D0 k m t ns R).set 1 (.lst xs) = MO.dic [(.inr k, .obj 1), (.inr "mixed", .int m), (.inr "draws", .int t)] :: MO.lst xs :: R := rfl
theorem v_k (h : KeyOk k) : valP [(.inr k, x), (.inr "mixed", y), (.inr "draws", z)] (.inr k) = some x := by simp [valP]
theorem v_m (h : KeyOk k) : valP [(.inr k, x), (.inr "mixed", y), (.inr "draws", z)] (.inr "mixed") = some y := by simp [valP, h.a]
theorem v_d (h : KeyOk k) : valP [(.inr k, x), (.inr "mixed", y), (.inr "draws", z)] (.inr "draws") = some z := by simp [valP, h.b, md_ne]
theorem p_m (h : KeyOk k) {u : PV} : putP [(.inr k, x), (.inr "mixed", y), (.inr "draws", z)] (.inr "mixed") u = [(.inr k, x), (.inr "mixed", u), (.inr "draws", z)] := by simp [putP, h.a, dm_ne]
theorem p_d (h : KeyOk k) {u : PV} : putP [(.inr k, x), (.inr "mixed", y), (.inr "draws", z)] (.inr "draws") u = [(.inr k, x), (.inr "mixed", y), (.inr "draws", u)] := by simp [putP, h.b, md_ne]
theorem d0_ne : oNeD (.obj 1) (.lst []) (D0 k m t ns R) = some (.bl (!ns.isEmpty), D0 k m t ns R) := by
  have e : top (D0 k m t ns R) (.obj 1) = .lst (ns.map .int) := rfl
  show (if false = true then _ else oNe (.obj 1) (.lst []) (D0 k m t ns R)) = _
  rw [if_neg Bool.false_ne_true]
  unfold oNe oEqB
  rw [e]
  cases ns <;> rfl
theorem drTail_p {f : Nat} (k1 : EM) {c5 c6 c7 c8 n u : Int} {last : EM} {F : Fl → S → Prop} (hk : KeyOk k) (hf : f < env.length) (h1 : env[1]? = some (some (.int n))) (h0 : env[0]? = some (some (.obj 0))) (h2 : 2 ≤ f) (hu : env[f]? = some (some (.int u))) (b : okC u) (k5 : okC c5) (k7 : 1 ≤ c7) (k7' : c7 < 2 ^ 63) (k8 : 1 ≤ c8) (hn : 1 ≤ n)
    (hl : ∀ (i : Int) (G : PV → S → Prop), 0 ≤ i → i < 2 ^ 63 → (∀ j, G (.int j) (D0 k m t ns R)) → Pq (last (env.set f (some (.int i))) (D0 k m t ns R)) G E)
    (q : ∀ r, 0 ≤ r → r < n → F (.ret (.int r)) (D0 k m t ns R)) : Pq (drTail f k1 c5 c6 c7 c8 last env (D0 k m t ns R)) F E := by
  unfold drTail
  simp [atE_of hu, atE_of h0, d0_k, v_d hk]
  refine ⟨.inl b, .inl k5, by omega, ?_⟩
  have r1 := fmod_r (i := u * u + c5 * t + c6) k7
  refine hl _ _ r1.1 (by omega) fun j => ?_
  simp
  refine ⟨by omega, ?_⟩
  have r2 := fmod_r (i := j) k8
  have e1 : (env.set f (some (.int (j.fmod c8))))[f]? = some (some (.int (j.fmod c8))) := by rw [List.getElem?_set_self hf]
  have e2 : (env.set f (some (.int (j.fmod c8))))[1]? = some (some (.int n)) := by rw [List.getElem?_set_ne (by omega)]; exact h1
  simp [atE_of e1, atE_of e2]
  exact ⟨by omega, q _ (fmod_r hn).1 (fmod_r hn).2⟩
theorem st_D0 {d : Deck} : d.st k R = D0 k d.m d.t d.ns R := rfl
/-- the cell: either the draw ends here, or what is left goes on -/
theorem drCell_p {c : Nat} {n : Int} {after : SM} (hk : KeyOk k) (hc : c < env.length) (h1 : env[1]? = some (some (.int n))) (h0 : env[0]? = some (some (.obj 0))) (h2 : 2 ≤ c) (hn : 1 ≤ n) (hb : n < 2 ^ 63) (hl : ns.length ≤ 63)
    (q0 : ns = [] → F (.nx env) (D0 k m t [] R))
    (q1 : ∀ r ks, ks.length ≤ 63 → 0 ≤ r → r < n → F (.ret (.int r)) (D0 k m t ks R))
    (q2 : ∀ x ks, ks.length ≤ 63 → Pq (after (env.set c (some (.int x))) (D0 k m t ks R)) F E) : Pq (drCell k c after env (D0 k m t ns R)) F E := by
  unfold drCell
  simp [atE_of h0, d0_k, v_k hk, d0_ne]
  rcases List.eq_nil_or_concat ns with e | ⟨ks, x, e⟩
  · subst e
    simpa using q0 rfl
  · rw [List.concat_eq_append] at e
    subst e
    have hks : ks.length ≤ 62 := by simp at hl; omega
    have e0 : (env.set c (some (.int x)))[0]? = some (some (.obj 0)) := by rw [List.getElem?_set_ne (by omega)]; exact h0
    have e1 : (env.set c (some (.int x)))[1]? = some (some (.int n)) := by rw [List.getElem?_set_ne (by omega)]; exact h1
    have ec : (env.set c (some (.int x)))[c]? = some (some (.int x)) := by rw [List.getElem?_set_self hc]
    have ds : (D0 k m t (ks ++ [x]) R).set 1 (.lst (ks.map .int)) = D0 k m t ks R := rfl
    have ty : isTy .list (.obj 1) (D0 k m t (ks ++ [x]) R) = true := isTy_obj (by rw [d0_l]; rfl)
    have ty' : isTy .list (.obj 1) (D0 k m t ks R) = true := isTy_obj (by rw [d0_l]; rfl)
    simp [ty, atE_of h0, d0_k, v_k hk, d0_l, ds, atE_of ec]
    refine post_iteP (fun big => ?_) fun small => ?_
    · have ds2 : ∀ y : Int, (D0 k m t ks R).set 1 (.lst (ks.map PV.int ++ [.int y])) = D0 k m t (ks ++ [y]) R := fun y => by
        unfold D0; simp
      simp [atE_of e0, d0_k, v_k hk, ty', atE_of ec, atE_of e1, d0_l, ds2]
      refine ⟨⟨by omega, ?_⟩, by omega, by omega, ?_⟩
      · by_cases h : n ≤ 2
        · left
          rw [Int.max_eq_left h]; decide
        · right
          omega
      · exact q1 _ _ (by simp; omega) (fmod_r hn).1 (fmod_r hn).2
    · simp
      exact q2 x ks (by omega)
theorem drawA_p {c1 c2 c3 c4 c4' c5 c6 c7 c8 c9 : Int} {N : List Str} {n : Int} {d : Deck} (hk : KeyOk k) (hN : N.length = 4) (k1 : okC c1) (k2 : 1 ≤ c2) (k3 : okC c3) (k4 : 1 ≤ c4' ∧ c4' < 2 ^ 62) (k5 : okC c5) (k7 : 1 ≤ c7 ∧ c7 < 2 ^ 62) (k8 : 1 ≤ c8) (k9 : okC c9)
    (hn : 1 ≤ n) (hb : n < 2 ^ 63) (q : ∀ r (d' : Deck), 0 ≤ r → r < n → Q (.int r) (d'.st k R)) : Pq (fnM 2 N (drawA k c1 c2 c3 c4 c4' c5 c6 c7 c8 c9) [.obj 0, .int n] (d.st k R)) Q E := by
  have e : startE N [.obj 0, .int n] = [some (.obj 0), some (.int n), none, none] := by simp [startE, hN]
  rw [st_D0]
  unfold drawA
  have ds : (D0 k d.m d.t d.ns R).set 0 (.dic [(.inr k, .obj 1), (.inr "mixed", .int d.m), (.inr "draws", .int (d.t + 1))]) = D0 k d.m (d.t + 1) d.ns R := rfl
  simp [e, d0_k, v_d hk, d0_m, p_d hk, ds, v_m hk]
  refine ⟨.inl k1, ?_⟩
  have tail : ∀ (u : Int) (c : Option PV) (ks : List Int), ks.length ≤ 63 → Pq ((sSeq (sAsg (eOp oMod (eLs bInt (aCons (eOp (oAdd false) (eOp oMulI (eV 2) (eC (.int c3))) (eC (.int c4))) aNil)) (eC (.int c4'))) (mName 2))
      (drTail 2 (eV 2) c5 c6 c7 c8 (eOp oMulI (eV 2) (eC (.int c9))))) [some (.obj 0), some (.int n), some (.int u), c] (D0 k d.m (d.t + 1) ks R)) (fun fl s1 => Pq (flEnd fl s1) Q E) E := by
    intro u c ks hks
    simp
    refine ⟨.inr k3, by omega, ?_⟩
    have r1 := fmod_r (i := u * c3 + c4) k4.1
    refine drTail_p (n := n) (u := (u * c3 + c4).fmod c4') (eV 2) hk (by simp) rfl rfl (by omega) rfl ⟨by omega, by omega⟩ k5 k7.1 (by omega) k8 hn (fun i G h0 h1 hG => ?_) fun r h0 h1 => ?_
    · simp
      exact ⟨.inr k9, hG _⟩
    · simp
      exact q r ⟨d.m, d.t + 1, ks, hks⟩ h0 h1
  refine drCell_p (n := n) hk (by simp) rfl rfl (by omega) hn hb d.le (fun _ => ?_) (fun r ks h0 h1 h2 => ?_) fun x ks hks => ?_
  · rw [w_knx]; exact tail _ _ _ (by simp)
  · simp; exact q r ⟨d.m, d.t + 1, ks, h0⟩ h1 h2
  · simp
    refine ⟨by omega, ?_⟩
    have := tail (d.m + c1 * (d.t + 1) + x.fmod c2) (some (.int x)) ks hks
    simpa using this
theorem drawB_p {c1 c2 c3 c4 c5 c6 c7 c8 c9 c10 c11 c12 : Int} {N : List Str} {n : Int} {d : Deck} (hk : KeyOk k) (hN : N.length = 4) (k1 : okC c1) (k2 : 1 ≤ c2) (k4 : 1 ≤ c4) (k5 : okC c5) (k6 : 1 ≤ c6 ∧ c6 < 2 ^ 62) (k7 : okC c7) (k9 : 1 ≤ c9 ∧ c9 < 2 ^ 62) (k10 : 1 ≤ c10) (k11 : okC c11)
    (hn : 1 ≤ n) (hb : n < 2 ^ 63) (q : ∀ r (d' : Deck), 0 ≤ r → r < n → Q (.int r) (d'.st k R)) : Pq (fnM 2 N (drawB k c1 c2 c3 c4 c5 c6 c7 c8 c9 c10 c11 c12) [.obj 0, .int n] (d.st k R)) Q E := by
  have e : startE N [.obj 0, .int n] = [some (.obj 0), some (.int n), none, none] := by simp [startE, hN]
  rw [st_D0]
  unfold drawB
  have ds : (D0 k d.m d.t d.ns R).set 0 (.dic [(.inr k, .obj 1), (.inr "mixed", .int d.m), (.inr "draws", .int (d.t + 1))]) = D0 k d.m (d.t + 1) d.ns R := rfl
  simp [e, d0_k, v_d hk, d0_m, p_d hk, ds]
  have tail : ∀ (m1 : Int) (c : Option PV) (ks : List Int), ks.length ≤ 63 → Pq ((sSeq (sAsg (eOp oMod (eLs bInt (aCons (eOp (oAdd false) (eOp oDGet (eV 0) (eC (.str "mixed"))) (eOp oMulI (eC (.int c5)) (eOp oDGet (eV 0) (eC (.str "draws"))))) aNil)) (eC (.int c6))) (mName 3))
      (drTail 3 (eV 3) c7 c8 c9 c10 (eOp (oAdd false) (eOp oMulI (eV 3) (eC (.int c11))) (eC (.int c12))))) [some (.obj 0), some (.int n), c, none] (D0 k m1 (d.t + 1) ks R)) (fun fl s1 => Pq (flEnd fl s1) Q E) E := by
    intro m1 c ks hks
    simp [d0_k, v_m hk, v_d hk]
    refine ⟨.inl k5, by omega, ?_⟩
    have r1 := fmod_r (i := m1 + c5 * (d.t + 1)) k6.1
    refine drTail_p (n := n) (u := (m1 + c5 * (d.t + 1)).fmod c6) (eV 3) hk (by simp) rfl rfl (by omega) rfl ⟨by omega, by omega⟩ k7 k9.1 (by omega) k10 hn (fun i G h0 h1 hG => ?_) fun r h0 h1 => ?_
    · simp
      exact ⟨.inr k11, hG _⟩
    · simp
      exact q r ⟨m1, d.t + 1, ks, hks⟩ h0 h1
  refine drCell_p (n := n) hk (by simp) rfl rfl (by omega) hn hb d.le (fun _ => ?_) (fun r ks h0 h1 h2 => ?_) fun x ks hks => ?_
  · rw [w_knx]; exact tail _ _ _ (by simp)
  · simp; exact q r ⟨d.m, d.t + 1, ks, h0⟩ h1 h2
  · have ds2 : ∀ v : Int, (D0 k d.m (d.t + 1) ks R).set 0 (.dic [(.inr k, .obj 1), (.inr "mixed", .int v), (.inr "draws", .int (d.t + 1))]) = D0 k v (d.t + 1) ks R := fun v => rfl
    simp [d0_k, v_m hk, d0_m, p_m hk, ds2]
    refine ⟨.inr k1, by omega, by omega, ?_⟩
    have := tail ((d.m * c1 + x.fmod c2 + c3).fmod c4) (some (.int x)) ks hks
    simpa [d0_k, v_m hk, v_d hk] using this
end
end Z

set_option Elab.async false
set_option linter.all false
set_option maxRecDepth 100000
set_option maxHeartbeats 4000000
/-! Q4: built-ins, items, slices by simp; the deck made. -/
namespace Z
open PySem PySem.Spec L2

section
variable {s : S} {i j : Int} {mu b c : Bool} {xs ys : List PV} {kvs : List (Key × PV)} {x y v : PV} {Q : PV → S → Prop} {E : Str → PV → S → Prop} {env : En} {z u : Str} {n : Nat}
@[simp] theorem isi_non_int : isi .non .int = false := by decide
@[simp] theorem isi_non_bool : isi .non .bool = false := by decide
@[simp] theorem isi_non_str : isi .non .str = false := by decide
@[simp] theorem isi_non_tuple : isi .non .tuple = false := by decide
@[simp] theorem isi_non_list : isi .non .list = false := by decide
@[simp] theorem isi_non_dict : isi .non .dict = false := by decide
@[simp] theorem q_isi_non {t : Tn} : uIsi t .non s = some (.bl (isi .non t), s) := by unfold uIsi kn; rfl
@[simp] theorem isi_bool_int : isi .bool .int = true := by decide
@[simp] theorem isi_bool_bool : isi .bool .bool = true := by decide
@[simp] theorem isi_bool_str : isi .bool .str = false := by decide
@[simp] theorem isi_bool_tuple : isi .bool .tuple = false := by decide
@[simp] theorem isi_bool_list : isi .bool .list = false := by decide
@[simp] theorem isi_bool_dict : isi .bool .dict = false := by decide
@[simp] theorem q_isi_bool {t : Tn} : uIsi t (.bl b) s = some (.bl (isi .bool t), s) := by unfold uIsi kn; rfl
@[simp] theorem isi_int_int : isi .int .int = true := by decide
@[simp] theorem isi_int_bool : isi .int .bool = false := by decide
@[simp] theorem isi_int_str : isi .int .str = false := by decide
@[simp] theorem isi_int_tuple : isi .int .tuple = false := by decide
@[simp] theorem isi_int_list : isi .int .list = false := by decide
@[simp] theorem isi_int_dict : isi .int .dict = false := by decide
@[simp] theorem q_isi_int {t : Tn} : uIsi t (.int i) s = some (.bl (isi .int t), s) := by unfold uIsi kn; rfl
@[simp] theorem isi_str_int : isi .str .int = false := by decide
@[simp] theorem isi_str_bool : isi .str .bool = false := by decide
@[simp] theorem isi_str_str : isi .str .str = true := by decide
@[simp] theorem isi_str_tuple : isi .str .tuple = false := by decide
@[simp] theorem isi_str_list : isi .str .list = false := by decide
@[simp] theorem isi_str_dict : isi .str .dict = false := by decide
@[simp] theorem q_isi_str {t : Tn} : uIsi t (.str z) s = some (.bl (isi .str t), s) := by unfold uIsi kn; rfl
@[simp] theorem isi_tuple_int : isi .tuple .int = false := by decide
@[simp] theorem isi_tuple_bool : isi .tuple .bool = false := by decide
@[simp] theorem isi_tuple_str : isi .tuple .str = false := by decide
@[simp] theorem isi_tuple_tuple : isi .tuple .tuple = true := by decide
@[simp] theorem isi_tuple_list : isi .tuple .list = false := by decide
@[simp] theorem isi_tuple_dict : isi .tuple .dict = false := by decide
@[simp] theorem q_isi_tuple {t : Tn} : uIsi t (.tup xs) s = some (.bl (isi .tuple t), s) := by unfold uIsi kn; rfl
@[simp] theorem isi_list_int : isi .list .int = false := by decide
@[simp] theorem isi_list_bool : isi .list .bool = false := by decide
@[simp] theorem isi_list_str : isi .list .str = false := by decide
@[simp] theorem isi_list_tuple : isi .list .tuple = false := by decide
@[simp] theorem isi_list_list : isi .list .list = true := by decide
@[simp] theorem isi_list_dict : isi .list .dict = false := by decide
@[simp] theorem q_isi_list {t : Tn} : uIsi t (.lst xs) s = some (.bl (isi .list t), s) := by unfold uIsi kn; rfl
@[simp] theorem isi_dict_int : isi .dict .int = false := by decide
@[simp] theorem isi_dict_bool : isi .dict .bool = false := by decide
@[simp] theorem isi_dict_str : isi .dict .str = false := by decide
@[simp] theorem isi_dict_tuple : isi .dict .tuple = false := by decide
@[simp] theorem isi_dict_list : isi .dict .list = false := by decide
@[simp] theorem isi_dict_dict : isi .dict .dict = true := by decide
@[simp] theorem q_isi_dict {t : Tn} : uIsi t (.dic kvs) s = some (.bl (isi .dict t), s) := by unfold uIsi kn; rfl
@[simp] theorem q_isi_obj {t : Tn} (h : (stL s n).isSome = true) : uIsi t (.obj n) s = some (.bl (isi .list t), s) := by
  obtain ⟨xs, e⟩ := Option.isSome_iff_exists.mp h
  simp only [uIsi, kn, stL_ne e]
/-! sequences -/
@[simp] theorem sq_t : sqOf s (.tup xs) = some xs := by unfold sqOf; rfl
@[simp] theorem sq_l : sqOf s (.lst xs) = some xs := by unfold sqOf rdOf lsOf; rfl
@[simp] theorem sq_s : sqOf s (.scr xs) = some xs := by unfold sqOf rdOf; rfl
@[simp] theorem sq_o : sqOf s (.obj n) = stL s n := by unfold sqOf rdOf; exact lsOf_obj
@[simp] theorem rd_l : rdOf s (.lst xs) = some xs := by unfold rdOf lsOf; rfl
@[simp] theorem rd_s : rdOf s (.scr xs) = some xs := by unfold rdOf; rfl
@[simp] theorem rd_o : rdOf s (.obj n) = stL s n := by unfold rdOf; exact lsOf_obj
@[simp] theorem ls_l : lsOf s (.lst xs) = some xs := by unfold lsOf; rfl
@[simp] theorem ls_o : lsOf s (.obj n) = stL s n := lsOf_obj
@[simp] theorem q_len_t : bLen [.tup xs] s = some (.int xs.length, s) := by unfold bLen; rfl
@[simp] theorem q_len_l : bLen [.lst xs] s = some (.int xs.length, s) := by unfold bLen; rfl
@[simp] theorem w_len_o : Pq (lift (bLen [.obj n] s)) Q E = onLs (stL s n) fun xs => Q (.int xs.length) s := by
  show Pq (lift (match sqOf s (.obj n) with | some ys => some (PV.int ys.length, s) | none => none)) Q E = _
  rw [sq_o]
  cases stL s n <;> first | exact pqE Iff.rfl | exact pqE ⟨fun q => ⟨q⟩, fun q => q.get⟩
@[simp] theorem w_len_s : Pq (lift (bLen [.str z] s)) Q E = (z.length ≤ 16000000 ∧ Q (.int z.length) s) := by
  show Pq (lift (if z.length ≤ 16000000 then some (PV.int z.length, s) else none)) Q E = _
  split
  · rename_i h; exact pqE ⟨fun q => ⟨h, q⟩, fun q => q.2⟩
  · rename_i h; exact pqE ⟨fun q => q.elim, fun q => h q.1⟩
@[simp] theorem w_list : Pq (lift (bList mu [x] s)) Q E = onLs (sqOf s x) fun xs => Pq (lift (newL mu xs s)) Q E := by
  show Pq (lift (match sqOf s x with | some ys => newL mu ys s | none => none)) Q E = _
  cases sqOf s x <;> first | exact pqE Iff.rfl | exact pqE ⟨fun q => ⟨q⟩, fun q => q.get⟩
@[simp] theorem q_tuple_t : bTuple [.tup xs] s = some (.tup xs, s) := by unfold bTuple; rfl
@[simp] theorem q_tuple_l : bTuple [.lst xs] s = newT xs s := by unfold bTuple rdOf lsOf; rfl
@[simp] theorem w_tuple_o : Pq (lift (bTuple [.obj n] s)) Q E = onLs (stL s n) fun xs => Pq (lift (newT xs s)) Q E := by
  show Pq (lift (match rdOf s (.obj n) with | some ys => newT ys s | none => none)) Q E = _
  rw [rd_o]
  cases stL s n <;> first | exact pqE Iff.rfl | exact pqE ⟨fun q => ⟨q⟩, fun q => q.get⟩
theorem bls_mapT {α : Type} {l : List α} {p : α → Bool} : bls (l.map fun x => .bl (p x)) = some (l.map p) := by
  induction l with
  | nil => rfl
  | cons a l ih => simp only [List.map_cons, bls, ih]
theorem q_all {α : Type} {l : List α} {p : α → Bool} : bAll [.lst (l.map fun x => .bl (p x))] s = some (.bl (l.all p), s) := by
  unfold bAll
  simp only [rd_l, bls_mapT, List.all_map]
  rfl
theorem q_any {α : Type} {l : List α} {p : α → Bool} : bAny [.lst (l.map fun x => .bl (p x))] s = some (.bl (l.any p), s) := by
  unfold bAny
  simp only [rd_l, bls_mapT, List.any_map]
  rfl
theorem ints_map {α : Type} {l : List α} {p : α → Int} : intsOf (l.map fun x => .int (p x)) = some (l.map p) := by
  induction l with
  | nil => rfl
  | cons a l ih => simp only [List.map_cons, intsOf, ih]
theorem q_sum {α : Type} {l : List α} {p : α → Int} : bSum [.lst (l.map fun x => .int (p x))] s = some (.int (l.map p).sum, s) := by
  unfold bSum
  simp only [rd_l, ints_map]
theorem strs_map {α : Type} {l : List α} {p : α → Str} : strsOf (l.map fun x => .str (p x)) = some (l.map p) := by
  induction l with
  | nil => rfl
  | cons a l ih => simp only [List.map_cons, strsOf, ih]
/-! items -/
theorem at_nat {α : Type} {l : List α} {k : Nat} : L2.atI l (k : Nat) = l[k]? := by
  unfold L2.atI ixN
  rw [if_pos (by omega)]
  by_cases h : k < l.length
  · rw [if_pos (by omega)]; simp
  · rw [if_neg (by omega), List.getElem?_eq_none (by omega)]; rfl
theorem at_int {α : Type} {l : List α} {k : Int} (h : 0 ≤ k) : L2.atI l k = l[k.toNat]? := by
  have : k = (k.toNat : Nat) := by omega
  rw [this, at_nat, Int.toNat_natCast]
@[simp] theorem at_0 {α : Type} {a : α} {l : List α} : L2.atI (a :: l) 0 = some a := by rw [at_int (by omega)]; rfl
@[simp] theorem at_1 {α : Type} {a a1 : α} {l : List α} : L2.atI (a1 :: a :: l) 1 = some a := by rw [at_int (by omega)]; rfl
@[simp] theorem at_2 {α : Type} {a a1 a2 : α} {l : List α} : L2.atI (a1 :: a2 :: a :: l) 2 = some a := by rw [at_int (by omega)]; rfl
@[simp] theorem at_3 {α : Type} {a a1 a2 a3 : α} {l : List α} : L2.atI (a1 :: a2 :: a3 :: a :: l) 3 = some a := by rw [at_int (by omega)]; rfl
@[simp] theorem at_4 {α : Type} {a a1 a2 a3 a4 : α} {l : List α} : L2.atI (a1 :: a2 :: a3 :: a4 :: a :: l) 4 = some a := by rw [at_int (by omega)]; rfl
theorem at_in {α : Type} {l : List α} {r : Int} (h : 0 ≤ r ∧ r < l.length) : ∃ v, v ∈ l ∧ l[r.toNat]? = some v ∧ L2.atI l r = some v := by
  have hl : r.toNat < l.length := by omega
  exact ⟨l[r.toNat], List.getElem_mem hl, List.getElem?_eq_getElem hl, by rw [at_int h.1]; exact List.getElem?_eq_getElem hl⟩
@[simp] theorem w_ix_t : Pq (lift (oIx (.tup xs) (.int i) s)) Q E = onV (L2.atI xs i) fun v => Q v s := by
  show Pq (lift (match sqOf s (.tup xs) with | some ys => (match L2.atI ys i with | some v => some (v, s) | none => none) | none => none)) Q E = _
  rw [sq_t]
  show Pq (lift (match L2.atI xs i with | some v => some (v, s) | none => none)) Q E = _
  cases L2.atI xs i <;> exact pqE Iff.rfl
@[simp] theorem w_ix_l : Pq (lift (oIx (.lst xs) (.int i) s)) Q E = onV (L2.atI xs i) fun v => Q v s := by
  show Pq (lift (match sqOf s (.lst xs) with | some ys => (match L2.atI ys i with | some v => some (v, s) | none => none) | none => none)) Q E = _
  rw [sq_l]
  show Pq (lift (match L2.atI xs i with | some v => some (v, s) | none => none)) Q E = _
  cases L2.atI xs i <;> exact pqE Iff.rfl
@[simp] theorem w_ix_o : Pq (lift (oIx (.obj n) (.int i) s)) Q E = onLs (stL s n) fun xs => onV (L2.atI xs i) fun v => Q v s := by
  show Pq (lift (match sqOf s (.obj n) with | some ys => (match L2.atI ys i with | some v => some (v, s) | none => none) | none => none)) Q E = _
  rw [sq_o]
  cases stL s n with
  | none => exact pqE Iff.rfl
  | some xs =>
    show Pq (lift (match L2.atI xs i with | some v => some (v, s) | none => none)) Q E = onV (L2.atI xs i) fun v => Q v s
    cases L2.atI xs i <;> exact pqE Iff.rfl
def onN (o : Option Nat) (P : Nat → Prop) (_t : Tg P := ⟨⟩) : Prop :=
  match o with
  | some v => P v
  | none => False
@[simp ↓] theorem onN_some {P : Nat → Prop} : onN (some n) P = P n := propext Iff.rfl
@[simp] theorem w_ix_s : Pq (lift (oIx (.str z) (.int i) s)) Q E = (z.length ≤ 16000000 ∧ onN (L2.atI z.cps.toList i) fun c => Q (.str ⟨#[c]⟩) s) := by
  show Pq (lift (if z.length ≤ 16000000 then (match L2.atI z.cps.toList i with | some c => some (PV.str ⟨#[c]⟩, s) | none => none) else none)) Q E = _
  split
  · rename_i h
    simp only [h, true_and]
    cases L2.atI z.cps.toList i <;> exact pqE Iff.rfl
  · rename_i h; exact pqE ⟨fun q => q.elim, fun q => h q.1⟩
/-! xs[i] = v -/
def onLI (o : Option (Nat × List PV)) (y : PV) (P : Nat → List PV → Int → Prop) (_t : Tg P := ⟨⟩) : Prop :=
  match o, y with
  | some (n, xs), .int k => P n xs k
  | _, _ => False
@[simp ↓] theorem onLI_some {P : Nat → List PV → Int → Prop} : onLI (some (n, xs)) (.int i) P = P n xs i := propext Iff.rfl
@[simp ↓] theorem w_lput {mv mo mi : EM} {Q : Fl → S → Prop} : Pq (sLPut mv mo mi env s) Q E = Pq (mv env s) (fun v s1 => Pq (mo env s1) (fun x s2 => Pq (mi env s2) (fun y s3 =>
    onLI (mlst s3 x) y fun n xs k => onN (ixN xs.length k) fun j => Q (.nx env) (s3.set n (.lst (xs.set j v)))) E) E) E := by
  simp only [sLPut, w_bind]
  (try rw [w_bind]); refine pq_in fun v s1 => ?_
  (try rw [w_bind]); refine pq_in fun x s2 => ?_
  (try rw [w_bind]); refine pq_in fun y s3 => ?_
  generalize mlst s3 x = o
  rcases o with _ | ⟨n, xs⟩ <;> cases y <;> try exact pqE Iff.rfl
  rename_i k
  show Pq (match ixN xs.length k with | some j => _ | none => _) Q E = onN (ixN xs.length k) _
  cases ixN xs.length k <;> exact pqE Iff.rfl
theorem ixN_in {l : Nat} {k : Int} (h : 0 ≤ k ∧ k < l) : ixN l k = some k.toNat := by
  unfold ixN; rw [if_pos h.1, if_pos h.2]
@[simp] theorem mlst_o : mlst s (.obj n) = (stL s n).map fun xs => (n, xs) := mlst_obj
@[simp] theorem mdic_o : mdic s (.obj n) = (stD s n).map fun xs => (n, xs) := mdic_obj
/-! slices -/
@[simp] theorem q_sl_t {lo hi : Option Int} : oSl mu (.tup xs) lo hi s = newT (cut xs lo hi) s := by unfold oSl; rfl
@[simp] theorem q_sl_l {lo hi : Option Int} : oSl mu (.lst xs) lo hi s = newL mu (cut xs lo hi) s := by unfold oSl; rfl
@[simp] theorem q_sl_c {lo hi : Option Int} : oSl mu (.scr xs) lo hi s = newL mu (cut xs lo hi) s := by unfold oSl; rfl
@[simp] theorem w_sl_o {lo hi : Option Int} : Pq (lift (oSl mu (.obj n) lo hi s)) Q E = onLs (stL s n) fun xs => Pq (lift (newL mu (cut xs lo hi) s)) Q E := by
  show Pq (lift (match rdOf s (.obj n) with | some xs => newL mu (cut xs lo hi) s | none => none)) Q E = _
  rw [rd_o]
  cases stL s n <;> first | exact pqE Iff.rfl | exact pqE ⟨fun q => ⟨q⟩, fun q => q.get⟩
@[simp] theorem w_sl_s {lo hi : Option Int} : Pq (lift (oSl mu (.str z) lo hi s)) Q E = (z.length ≤ 16000000 ∧ Q (.str (cutS z lo hi)) s) := by
  show Pq (lift (if z.length ≤ 16000000 then some (PV.str (cutS z lo hi), s) else none)) Q E = _
  split
  · rename_i h; exact pqE ⟨fun q => ⟨h, q⟩, fun q => q.2⟩
  · rename_i h; exact pqE ⟨fun q => q.elim, fun q => h q.1⟩
theorem cut_len {α : Type} (xs : List α) (lo hi : Option Int) : (cut xs lo hi).length ≤ xs.length := by
  unfold cut; rw [List.length_take, List.length_drop]; omega
theorem cut_mem {α : Type} {x : α} {xs : List α} {lo hi : Option Int} (h : x ∈ cut xs lo hi) : x ∈ xs := List.mem_of_mem_drop (List.mem_of_mem_take h)
theorem cut_map {α β : Type} {f : α → β} {l : List α} {lo hi : Option Int} : cut (l.map f) lo hi = (cut l lo hi).map f := by
  unfold cut; rw [List.length_map, List.map_take, List.map_drop]
/-- xs[:k] -/
theorem cut_to {α : Type} {l : List α} {k : Nat} : cut l none (some (k : Int)) = l.take k := by
  unfold cut
  rw [HT.sIx_none, HT.sIx_nat, List.drop_zero, Nat.sub_zero]
  by_cases h : k ≤ l.length
  · rw [Nat.min_eq_left h]
  · rw [Nat.min_eq_right (by omega), List.take_of_length_le (Nat.le_refl _), List.take_of_length_le (by omega)]
/-- xs[k:] -/
theorem cut_from {α : Type} {l : List α} {k : Nat} : cut l (some (k : Int)) none = l.drop k := by
  unfold cut
  rw [HT.sIx_none, HT.sIx_nat]
  by_cases h : k ≤ l.length
  · rw [Nat.min_eq_left h, List.take_of_length_le (by rw [List.length_drop]; omega)]
  · rw [Nat.min_eq_right (by omega), Nat.sub_self, List.take_zero, List.drop_eq_nil_of_le (by omega)]
@[simp] theorem q_backT : uBack mu (.tup xs) s = newT xs.reverse s := by unfold uBack; rfl
@[simp] theorem q_backL : uBack mu (.lst xs) s = newL mu xs.reverse s := by unfold uBack uRevL rdOf lsOf; rfl
/-! equality of ints, texts, truths -/
theorem beq_dec {a b : Str} : (a == b) = decide (a = b) := by
  by_cases h : a = b
  · subst h; simp
  · simp [h]
@[simp] theorem q_eq_ii : oEqD (.int i) (.int j) s = some (.bl (decide (i = j)), s) := by
  show some (PV.bl (i == j), s) = _
  by_cases h : i = j <;> simp [h]
@[simp] theorem q_ne_ii : oNeD (.int i) (.int j) s = some (.bl (!decide (i = j)), s) := by
  show some (PV.bl (!(i == j)), s) = _
  by_cases h : i = j <;> simp [h]
@[simp] theorem q_eq_ss : oEqD (.str z) (.str u) s = some (.bl (decide (z = u)), s) := by
  show some (PV.bl (z == u), s) = _
  rw [beq_dec]
@[simp] theorem q_ne_ss : oNeD (.str z) (.str u) s = some (.bl (!decide (z = u)), s) := by
  show some (PV.bl (!(z == u)), s) = _
  rw [beq_dec]
@[simp] theorem q_eq_bb : oEqD (.bl b) (.bl c) s = some (.bl (decide (b = c)), s) := by
  show some (PV.bl (b == c), s) = _
  cases b <;> cases c <;> rfl
@[simp] theorem q_ne_bb : oNeD (.bl b) (.bl c) s = some (.bl (!decide (b = c)), s) := by
  show some (PV.bl (!(b == c)), s) = _
  cases b <;> cases c <;> rfl
@[simp] theorem q_eq_t0 : oEqD (.tup xs) (.tup []) s = some (.bl xs.isEmpty, s) := by
  show (match oEqB (.tup xs) (.tup []) s with | some b => some (PV.bl b, s) | none => none) = _
  rfl
@[simp] theorem q_ne_t0 : oNeD (.tup xs) (.tup []) s = some (.bl (!xs.isEmpty), s) := by
  show (match oEqB (.tup xs) (.tup []) s with | some b => some (PV.bl (!b), s) | none => none) = _
  rfl
@[simp] theorem q_eq_l0 : oEqD (.lst xs) (.lst []) s = some (.bl xs.isEmpty, s) := by
  show (match oEqB (.lst xs) (.lst []) s with | some b => some (PV.bl b, s) | none => none) = _
  rfl
@[simp] theorem q_ne_l0 : oNeD (.lst xs) (.lst []) s = some (.bl (!xs.isEmpty), s) := by
  show (match oEqB (.lst xs) (.lst []) s with | some b => some (PV.bl (!b), s) | none => none) = _
  rfl
theorem top_o (h : stL s n = some xs) : top s (.obj n) = .lst xs := by unfold top; rw [lsOf_obj, h]
theorem q_eq_o0 (h : stL s n = some xs) : oEqD (.obj n) (.lst []) s = some (.bl xs.isEmpty, s) := by
  show oEq (.obj n) (.lst []) s = _
  unfold oEq oEqB
  rw [top_o h]; rfl
theorem q_ne_o0 (h : stL s n = some xs) : oNeD (.obj n) (.lst []) s = some (.bl (!xs.isEmpty), s) := by
  show oNe (.obj n) (.lst []) s = _
  unfold oNe oEqB
  rw [top_o h]; rfl
@[simp] theorem w_ne_o0 : Pq (lift (oNeD (.obj n) (.lst []) s)) Q E ↔ (∃ xs, stL s n = some xs ∧ Q (.bl (!xs.isEmpty)) s) ∨ (stL s n = none ∧ Pq (lift (oNeD (.obj n) (.lst []) s)) Q E) := by
  cases h : stL s n with
  | none => simp
  | some xs => rw [q_ne_o0 h]; simp
/-! is None -/
@[simp] theorem q_is_nn : oIsN .non .non s = some (.bl true, s) := by unfold oIsN; rfl
@[simp] theorem q_is_tn : oIsN (.tup xs) .non s = some (.bl false, s) := by unfold oIsN; rfl
@[simp] theorem q_is_in : oIsN (.int i) .non s = some (.bl false, s) := by unfold oIsN; rfl
@[simp] theorem q_is_sn : oIsN (.str z) .non s = some (.bl false, s) := by unfold oIsN; rfl
@[simp] theorem q_isnt_nn : oIsNot .non .non s = some (.bl false, s) := by unfold oIsNot; rfl
@[simp] theorem q_isnt_tn : oIsNot (.tup xs) .non s = some (.bl true, s) := by unfold oIsNot; rfl
@[simp] theorem q_isnt_in : oIsNot (.int i) .non s = some (.bl true, s) := by unfold oIsNot; rfl
@[simp] theorem q_isnt_sn : oIsNot (.str z) .non s = some (.bl true, s) := by unfold oIsNot; rfl
/-! what is walked -/
@[simp] theorem it_t : itOf (.tup xs) s = some (xs, []) := by unfold itOf; rfl
@[simp] theorem it_l : itOf (.lst xs) s = some (xs, []) := by unfold itOf; rfl
@[simp] theorem it_c : itOf (.scr xs) s = some (xs, []) := by unfold itOf; rfl
@[simp] theorem it_s : itOf (.str z) s = some (chs z, []) := by unfold itOf; rfl
@[simp] theorem it_o : itOf (.obj n) s = (stL s n).map fun xs => (xs, [(n, .lst xs)]) := by
  show (match s[n]? with | some (.lst xs) => some (xs, [(n, MO.lst xs)]) | _ => none) = _
  unfold stL
  generalize s[n]? = o
  rcases o with _ | (_ | _ | _ | _ | _) <;> rfl
/-! displays of dicts -/
@[simp ↓] theorem w_dic0t : Pq (eDic0 true env s) Q E = Q (.obj s.length) (s ++ [MO.dic []]) := pqE Iff.rfl
@[simp ↓] theorem w_dic0f : Pq (eDic0 false env s) Q E = Q (.dic []) s := pqE Iff.rfl
@[simp ↓] theorem w_dnil {Q : List (PV × PV) → S → Prop} : Pq (dNil env s) Q E = Q [] s := pqE Iff.rfl
@[simp ↓] theorem w_dcons {k m : EM} {r : DM} {Q : List (PV × PV) → S → Prop} : Pq (dCons k m r env s) Q E = Pq (k env s) (fun x s1 => Pq (m env s1) (fun y s2 => Pq (r env s2) (fun ps s3 => Q ((x, y) :: ps) s3) E) E) E := by
  simp only [dCons, w_bind]; refine pq_in fun _ _ => ?_; simp only [w_bind]; refine pq_in fun _ _ => ?_; simp only [w_bind]; refine pq_in fun _ _ => ?_; simp only [w_ok]
def onDisp (o : Option MO) (k : Option (List (Key × PV))) (P : List (Key × PV) → Prop) (_t : Tg P := ⟨⟩) : Prop :=
  match o, k with
  | some (.dic []), some kvs => P kvs
  | _, _ => False
@[simp ↓] theorem onDisp_some {P : List (Key × PV) → Prop} : onDisp (some (.dic [])) (some kvs) P = P kvs := propext Iff.rfl
@[simp ↓] theorem w_disp {d : DM} : Pq (eDisp mu d env s) Q E = Pq (d env (s ++ [MO.dic []])) (fun ps s1 => onDisp s1[s.length]? (keys ps) fun kvs => kvs.length ≤ 15 ∧ Pq (if mu then .ok (.obj s.length) (s1.set s.length (.dic (mergeP [] kvs))) else .ok (.dic (mergeP [] kvs)) (s1.set s.length .dead)) Q E) E := by
  simp only [eDisp, w_bind]
  (try rw [w_bind]); refine pq_in fun ps s1 => ?_
  generalize s1[s.length]? = o
  generalize keys ps = k
  rcases o with _ | (_ | _ | (_ | _) | _ | _) <;> rcases k with _ | kvs <;> try exact pqE Iff.rfl
  rw [onDisp_some]
  show Pq (if kvs.length ≤ 15 then _ else .fail) Q E = _
  split
  · rename_i h; exact pqE ⟨fun q => ⟨h, ⟨q⟩⟩, fun q => q.2.get⟩
  · rename_i h; exact pqE ⟨fun q => q.elim, fun q => h q.1⟩
@[simp] theorem keys_nil : keys [] = some [] := rfl
@[simp] theorem keys_cons_s {r : List (PV × PV)} : keys ((.str z, y) :: r) = (keys r).map fun kvs => (.inr z, y) :: kvs := by
  show (match kP (.str z), keys r with | some k, some kvs => some ((k, y) :: kvs) | _, _ => none) = _
  cases keys r <;> rfl
@[simp] theorem keys_cons_i {r : List (PV × PV)} : keys ((.int i, y) :: r) = (keys r).map fun kvs => (.inl i, y) :: kvs := by
  show (match kP (.int i), keys r with | some k, some kvs => some ((k, y) :: kvs) | _, _ => none) = _
  cases keys r <;> rfl
end
theorem dcOf_D {s : S} {n : Nat} {kvs : List (Key × PV)} (h : stD s n = some kvs) : dcOf s (.obj n) = some kvs := by
  rw [dcOf_obj, stD_ne h]
/-! ### the deck made -/
def deckL (mi ci : Nat) (c1 c2 c3 c4 : Int) : SM := (sAsg (eOp oMod (eLs bInt (aCons (eOp (oAdd false) (eOp (oAdd false) (eOp oMulI (eV mi) (eC (.int c1))) (eOp oMod (eLs bInt (aCons (eV ci) aNil)) (eC (.int c2)))) (eC (.int c3))) aNil)) (eC (.int c4))) (mName mi))
noncomputable def deckF (k : Str) (mi ci : Nat) (init : EM) (c1 c2 c3 c4 : Int) : SM :=
  (sSeq (sAsg init (mName mi))
  (sSeq (sFor (iAny (eSl false (eV 0) pNo (pIs (eC (.int 63))))) (mName ci) (deckL mi ci c1 c2 c3 c4))
  (sRet (eDisp true (dCons (eC (.str k)) (eUn (uBack true) (eLs (bList false) (aCons (eSl false (eV 0) pNo (pIs (eC (.int 63)))) aNil))) (dCons (eC (.str "mixed")) (eV mi) (dCons (eC (.str "draws")) (eC (.int 0)) dNil)))))))
section
variable {k : Str} {ns : List Int} {Q : PV → S → Prop} {E : Str → PV → S → Prop} {c1 c2 c3 c4 c0 : Int} {N : List Str}
theorem deck_end {env : En} {mi : Nat} {m : Int} (hk : KeyOk k) (hl : ns.length ≤ 63) (h0 : env[0]? = some (some (.scr (ns.map .int)))) (h1 : env[mi]? = some (some (.int m))) (q : ∀ d : Deck, Q (.obj 0) (d.st k [])) :
    Pq (sRet (eDisp true (dCons (eC (.str k)) (eUn (uBack true) (eLs (bList false) (aCons (eSl false (eV 0) pNo (pIs (eC (.int 63)))) aNil))) (dCons (eC (.str "mixed")) (eV mi) (dCons (eC (.str "draws")) (eC (.int 0)) dNil)))) env []) (fun fl s1 => Pq (flEnd fl s1) Q E) E := by
  simp [atE_of h0, atE_of h1]
  have e1 : (cut (ns.map PV.int) none (some 63)).length ≤ 63 := Nat.le_trans (cut_len _ _ _) (by simpa using hl)
  refine ⟨by omega, ?_⟩
  have e2 : mergeP [] [(Sum.inr k, PV.obj 1), (Sum.inr "mixed", PV.int m), (Sum.inr "draws", PV.int 0)] = [(Sum.inr k, PV.obj 1), (Sum.inr "mixed", PV.int m), (Sum.inr "draws", PV.int 0)] := by
    simp [mergeP, putP, hk.a', hk.b', hk.a, hk.b, md_ne, dm_ne]
  have e3 : (cut (ns.map PV.int) none (some 63)).reverse = ((cut ns none (some 63)).reverse).map PV.int := by rw [cut_map, List.map_reverse]
  rw [e2, e3]
  exact q ⟨m, 0, (cut ns none (some 63)).reverse, by rw [List.length_reverse]; exact Nat.le_trans (cut_len _ _ _) hl⟩
theorem deck1_p (hk : KeyOk k) (hN : N.length = 3) (k1 : okC c1) (k2 : 1 ≤ c2) (k4 : 1 ≤ c4) (hl : ns.length ≤ 63) (q : ∀ d : Deck, Q (.obj 0) (d.st k [])) : Pq (fnM 1 N (deckF k 1 2 (eC (.int c0)) c1 c2 c3 c4) [.scr (ns.map .int)] []) Q E := by
  have e : startE N [.scr (ns.map .int)] = [some (.scr (ns.map .int)), none, none] := by simp [startE, hN]
  unfold deckF
  simp [e]
  have e1 : (cut (ns.map PV.int) none (some 63)).length ≤ 63 := Nat.le_trans (cut_len _ _ _) (by simpa using hl)
  refine ⟨by omega, ?_⟩
  refine p_for (fun _ env s => s = [] ∧ ∃ m c, env = [some (.scr (ns.map .int)), some (.int m), c]) ⟨rfl, c0, none, rfl⟩ (fun _ _ _ _ _ => ck0) (fun i x hx env s ⟨es, m, c, ee⟩ => ?_) fun env s ⟨es, m, c, ee⟩ => ?_
  · subst es; subst ee
    obtain ⟨y, _, rfl⟩ : ∃ y, y ∈ ns ∧ PV.int y = x := by
      have := cut_mem (List.mem_of_getElem? hx)
      simpa using this
    simp [deckL]
    exact ⟨.inr k1, by omega, by omega⟩
  · subst es; subst ee
    rw [w_knx]
    exact deck_end hk hl rfl rfl q
theorem deck2_p (hk : KeyOk k) (hN : N.length = 4) (k1 : okC c1) (k2 : 1 ≤ c2) (k4 : 1 ≤ c4) (hl : ns.length ≤ 63) (q : ∀ d : Deck, Q (.obj 0) (d.st k [])) : Pq (fnM 2 N (deckF k 2 3 (eV 1) c1 c2 c3 c4) [.scr (ns.map .int), .int c0] []) Q E := by
  have e : startE N [.scr (ns.map .int), .int c0] = [some (.scr (ns.map .int)), some (.int c0), none, none] := by simp [startE, hN]
  unfold deckF
  simp [e]
  have e1 : (cut (ns.map PV.int) none (some 63)).length ≤ 63 := Nat.le_trans (cut_len _ _ _) (by simpa using hl)
  refine ⟨by omega, ?_⟩
  refine p_for (fun _ env s => s = [] ∧ ∃ m c, env = [some (.scr (ns.map .int)), some (.int c0), some (.int m), c]) ⟨rfl, c0, none, rfl⟩ (fun _ _ _ _ _ => ck0) (fun i x hx env s ⟨es, m, c, ee⟩ => ?_) fun env s ⟨es, m, c, ee⟩ => ?_
  · subst es; subst ee
    obtain ⟨y, _, rfl⟩ : ∃ y, y ∈ ns ∧ PV.int y = x := by
      have := cut_mem (List.mem_of_getElem? hx)
      simpa using this
    simp [deckL]
    exact ⟨.inr k1, by omega, by omega⟩
  · subst es; subst ee
    rw [w_knx]
    exact deck_end hk hl rfl rfl q
end
end Z

set_option Elab.async false
set_option linter.all false
set_option maxRecDepth 100000
set_option maxHeartbeats 4000000
/-! Q5: small data: its repr is a text of tame length. -/
namespace Z
open PySem PySem.Spec L2

def okI (i : Int) : Prop := i.natAbs < 10 ^ 60
def okZ (z : Str) : Prop := z.length ≤ 100 ∧ ∀ c ∈ z.cps.toList, c < 1114112
def okK : Key → Prop
  | .inl i => okI i
  | .inr z => okZ z
/-- data of n levels at most -/
def okD : Nat → PV → Prop
  | _, .non => True
  | _, .bl _ => True
  | _, .int i => okI i
  | _, .str z => okZ z
  | n + 1, .tup xs => ∀ x ∈ xs, okD n x
  | n + 1, .lst xs => ∀ x ∈ xs, okD n x
  | n + 1, .dic kvs => ∀ kv ∈ kvs, okK kv.1 ∧ okD n kv.2
  | _, _ => False
mutual
def cnt : PV → Nat
  | .tup xs => 1 + cnts xs
  | .lst xs => 1 + cnts xs
  | .dic kvs => 1 + cntk kvs
  | _ => 1
def cnts : List PV → Nat
  | [] => 0
  | x :: xs => cnt x + cnts xs
def cntk : List (Key × PV) → Nat
  | [] => 0
  | (_, x) :: xs => 1 + cnt x + cntk xs
end
@[simp] theorem cnt_tup {xs : List PV} : cnt (.tup xs) = 1 + cnts xs := by rw [cnt]
@[simp] theorem cnt_lst {xs : List PV} : cnt (.lst xs) = 1 + cnts xs := by rw [cnt]
@[simp] theorem cnt_dic {xs : List (Key × PV)} : cnt (.dic xs) = 1 + cntk xs := by rw [cnt]
@[simp] theorem cnt_int {i : Int} : cnt (.int i) = 1 := by rw [cnt] <;> simp
@[simp] theorem cnt_str {i : Str} : cnt (.str i) = 1 := by rw [cnt] <;> simp
@[simp] theorem cnt_bl {i : Bool} : cnt (.bl i) = 1 := by rw [cnt] <;> simp
@[simp] theorem cnt_non : cnt .non = 1 := by rw [cnt] <;> simp
@[simp] theorem cnts_nil : cnts [] = 0 := by rw [cnts]
@[simp] theorem cnts_cons {x : PV} {xs : List PV} : cnts (x :: xs) = cnt x + cnts xs := by rw [cnts]
@[simp] theorem cntk_nil : cntk [] = 0 := by rw [cntk]
@[simp] theorem cntk_cons {k : Key} {x : PV} {xs : List (Key × PV)} : cntk ((k, x) :: xs) = 1 + cnt x + cntk xs := by rw [cntk]
@[simp] theorem cnts_app {xs ys : List PV} : cnts (xs ++ ys) = cnts xs + cnts ys := by
  induction xs with
  | nil => simp
  | cons x xs ih => simp [ih, Nat.add_assoc]
theorem cnt_pos : ∀ x : PV, 1 ≤ cnt x
  | .tup xs => by simp
  | .lst xs => by simp
  | .dic xs => by simp
  | .int _ => by simp
  | .str _ => by simp
  | .bl _ => by simp
  | .non => by simp
  | .scr _ => by rw [cnt] <;> simp
  | .obj _ => by rw [cnt] <;> simp
  | .wt _ => by rw [cnt] <;> simp
theorem cnts_len (xs : List PV) : xs.length ≤ cnts xs := by
  induction xs with
  | nil => simp
  | cons x xs ih => have := cnt_pos x; simp; omega
theorem cnts_mem {x : PV} {xs : List PV} (h : x ∈ xs) : cnt x ≤ cnts xs := by
  induction xs with
  | nil => cases h
  | cons y ys ih =>
    rcases List.mem_cons.mp h with rfl | h
    · simp
    · have := ih h; simp; omega
theorem cnts_take (xs : List PV) (n : Nat) : cnts (xs.take n) ≤ cnts xs := by
  induction xs generalizing n with
  | nil => simp
  | cons x xs ih => cases n with | zero => simp | succ n => have := ih n; simp; omega
theorem cnts_drop (xs : List PV) (n : Nat) : cnts (xs.drop n) ≤ cnts xs := by
  induction xs generalizing n with
  | nil => simp
  | cons x xs ih => cases n with | zero => simp | succ n => have := ih n; simp; omega
theorem cnts_rev (xs : List PV) : cnts xs.reverse = cnts xs := by
  induction xs with
  | nil => simp
  | cons x xs ih => simp [ih, Nat.add_comm]
theorem cnts_cut (xs : List PV) (lo hi : Option Int) : cnts (cut xs lo hi) ≤ cnts xs := Nat.le_trans (cnts_take _ _) (cnts_drop _ _)
theorem cnts_le {xs : List PV} {c : Nat} (h : ∀ x ∈ xs, cnt x ≤ c) : cnts xs ≤ xs.length * c := by
  induction xs with
  | nil => simp
  | cons x xs ih =>
    have h1 := h x (by simp)
    have h2 := ih fun y hy => h y (by simp [hy])
    simp [Nat.succ_mul]; omega
theorem okD_up : ∀ {n : Nat} {x : PV}, okD n x → ∀ {m : Nat}, n ≤ m → okD m x
  | n, .non, _, m, _ => by unfold okD; trivial
  | n, .bl _, _, m, _ => by unfold okD; trivial
  | n, .int i, h, m, _ => by unfold okD at *; exact h
  | n, .str i, h, m, _ => by unfold okD at *; exact h
  | 0, .tup xs, h, m, _ => by unfold okD at h; exact h.elim
  | 0, .lst xs, h, m, _ => by unfold okD at h; exact h.elim
  | 0, .dic xs, h, m, _ => by unfold okD at h; exact h.elim
  | n, .scr xs, h, m, _ => by unfold okD at h; exact h.elim
  | n, .obj xs, h, m, _ => by unfold okD at h; exact h.elim
  | n, .wt xs, h, m, _ => by unfold okD at h; exact h.elim
  | n + 1, .tup xs, h, m, hm => by
    obtain ⟨m, rfl⟩ : ∃ k, m = k + 1 := ⟨m - 1, by omega⟩
    exact fun x hx => okD_up (h x hx) (by omega)
  | n + 1, .lst xs, h, m, hm => by
    obtain ⟨m, rfl⟩ : ∃ k, m = k + 1 := ⟨m - 1, by omega⟩
    exact fun x hx => okD_up (h x hx) (by omega)
  | n + 1, .dic xs, h, m, hm => by
    obtain ⟨m, rfl⟩ : ∃ k, m = k + 1 := ⟨m - 1, by omega⟩
    exact fun x hx => ⟨(h x hx).1, okD_up (h x hx).2 (by omega)⟩
theorem okD_non {n : Nat} : okD n .non := by unfold okD; trivial
theorem okD_bl {n : Nat} {b : Bool} : okD n (.bl b) := by unfold okD; trivial
theorem okD_int {n : Nat} {i : Int} (h : okI i) : okD n (.int i) := by unfold okD; exact h
theorem okD_str {n : Nat} {z : Str} (h : okZ z) : okD n (.str z) := by unfold okD; exact h
theorem okD_tup {n : Nat} {xs : List PV} (h : ∀ x ∈ xs, okD n x) : okD (n + 1) (.tup xs) := h
theorem okD_lst {n : Nat} {xs : List PV} (h : ∀ x ∈ xs, okD n x) : okD (n + 1) (.lst xs) := h
theorem okD_dic {n : Nat} {xs : List (Key × PV)} (h : ∀ x ∈ xs, okK x.1 ∧ okD n x.2) : okD (n + 1) (.dic xs) := h
theorem okI_of {i : Int} (h : -1000000000000000000000000000000000000000000000000000 ≤ i ∧ i ≤ 1000000000000000000000000000000000000000000000000000) : okI i := by unfold okI; omega
theorem join_le (sep : Str) : ∀ ts : List Str, (Str.join sep ts).length ≤ (ts.map fun t : Str => t.length + sep.length).sum
  | [] => Nat.zero_le _
  | [x] => by show x.length ≤ _; simp
  | x :: y :: r => by
    show (x ++ sep ++ Str.join sep (y :: r)).length ≤ _
    have := join_le sep (y :: r)
    rw [strLen_append, strLen_append]
    simp only [List.map_cons, List.sum_cons] at this ⊢
    omega
theorem textFrom_le : ∀ (ts : List Str) (k : Nat) (z : Str), (textFrom k z ts).length ≤ z.length + (ts.map fun t : Str => t.length + 2).sum
  | [], k, z => by show z.length ≤ _; simp
  | t :: ts, k, z => by
    have h1 := textFrom_le ts (k + 1) (z ++ (if k > 0 then ", " else "" : String) ++ t)
    have h2 : (z ++ (if k > 0 then ", " else "" : String) ++ t).length ≤ z.length + 2 + t.length := by
      rw [strLen_append, strLen_append]
      have e : (Str.ofString (if k > 0 then ", " else "")).length ≤ 2 := by split <;> decide
      omega
    simp only [List.map_cons, List.sum_cons]
    exact Nat.le_trans h1 (by omega)
theorem listText_le (ts : List Str) : (listText ts).length ≤ (ts.map fun t : Str => t.length + 2).sum + 2 := by
  show (textFrom 0 "[" ts ++ "]").length ≤ _
  have := textFrom_le ts 0 "["
  rw [strLen_append]
  have e1 : ("[" : Str).length = 1 := by decide
  have e2 : ("]" : Str).length = 1 := by decide
  omega
theorem tupleText_le (ts : List Str) : (tupleText ts).length ≤ (ts.map fun t : Str => t.length + 2).sum + 3 := by
  unfold tupleText
  rw [strLen_append, strLen_append]
  have := join_le ", " ts
  have e1 : ("(" : Str).length = 1 := by decide
  have e2 : (", " : Str).length = 2 := by decide
  have e3 : (Str.ofString (if ts.length == 1 then ",)" else ")")).length ≤ 2 := by split <;> decide
  rw [e2] at this
  omega
theorem dictText_le (ts : List Str) : (("{" : Str) ++ Str.join ", " ts ++ "}").length ≤ (ts.map fun t : Str => t.length + 2).sum + 2 := by
  rw [strLen_append, strLen_append]
  have := join_le ", " ts
  have e1 : ("{" : Str).length = 1 := by decide
  have e2 : (", " : Str).length = 2 := by decide
  have e3 : ("}" : Str).length = 1 := by decide
  rw [e2] at this
  omega
/-- what is said of a value's data -/
def Told (n c : Nat) (d : PyData) : Prop := d.showable = true ∧ d.depth ≤ n + 1 ∧ d.shown.length + 50 ≤ 1100 * c
theorem toldAll {n : Nat} : ∀ (xs : List PV), (∀ x ∈ xs, ∃ d, toD x = some d ∧ Told n (cnt x) d) → ∃ ds, toDs xs = some ds ∧ PyData.showableAll ds = true ∧ PyData.depthAll ds ≤ n + 1 ∧ ((PyData.shownAll ds).map fun t : Str => t.length + 2).sum ≤ 1100 * cnts xs
  | [], _ => ⟨[], by unfold toDs; rfl, rfl, by simp [PyData.depthAll], by simp [PyData.shownAll]⟩
  | x :: xs, h => by
    obtain ⟨d, e, h1, h2, h3⟩ := h x (by simp)
    obtain ⟨ds, e', g1, g2, g3⟩ := toldAll xs fun y hy => h y (by simp [hy])
    refine ⟨d :: ds, by unfold toDs; rw [e, e'], by simp only [PyData.showableAll, h1, g1, Bool.and_self], by simp only [PyData.depthAll]; omega, ?_⟩
    simp only [PyData.shownAll, List.map_cons, List.sum_cons, cnts_cons]
    omega
theorem told_int {n : Nat} {i : Int} (hi : okI i) : ∃ d, d = PyData.int i ∧ Told n 1 d := by
  have hl : i.natAbs.log2 < 1920 := by
    by_cases z : i.natAbs = 0
    · rw [z]; decide
    · exact (Nat.log2_lt z).mpr (Nat.lt_of_lt_of_le (show i.natAbs < 2 ^ 200 from Nat.lt_of_lt_of_le hi (by decide)) (Nat.pow_le_pow_right (by decide) (by decide)))
  refine ⟨_, rfl, by simp only [PyData.showable, hl, decide_true], by simp [PyData.depth], ?_⟩
  have := int_text_length_le10 (k := 60) (by decide) hi
  simp only [PyData.shown]
  rw [ofString_length]
  omega
theorem told_str {n : Nat} {z : Str} (hz : okZ z) : ∃ d, d = PyData.str z ∧ Told n 1 d := by
  refine ⟨_, rfl, rfl, by simp [PyData.depth], ?_⟩
  have := PySem.StrLaws.reprText_len z fun c hc => Nat.lt_of_lt_of_le (hz.2 c hc) (by decide)
  have := hz.1
  simp only [PyData.shown]
  omega
theorem told_key {n : Nat} {k : Key} (h : okK k) : Told n 1 (keyD k) := by
  cases k with
  | inl i => obtain ⟨d, rfl, t⟩ := told_int (n := n) (show okI i from h); exact t
  | inr z => obtain ⟨d, rfl, t⟩ := told_str (n := n) (show okZ z from h); exact t
theorem toldKv {n : Nat} : ∀ (xs : List (Key × PV)), (∀ kv ∈ xs, okK kv.1 ∧ ∃ d, toD kv.2 = some d ∧ Told n (cnt kv.2) d) → ∃ ds, toDk xs = some ds ∧ PyData.showableKv ds = true ∧ PyData.depthKv ds ≤ n + 1 ∧ ((PyData.shownKv ds).map fun t : Str => t.length + 2).sum ≤ 1100 * cntk xs
  | [], _ => ⟨[], by unfold toDk; rfl, by simp [PyData.showableKv], by simp [PyData.depthKv], by simp [PyData.shownKv]⟩
  | (k, x) :: xs, h => by
    obtain ⟨hk, d, e, h1, h2, h3⟩ := h (k, x) (by simp)
    obtain ⟨k1, k2, k3⟩ := told_key (n := n) (show okK k from hk)
    obtain ⟨ds, e', g1, g2, g3⟩ := toldKv xs fun y hy => h y (by simp [hy])
    have e : toD x = some d := e
    refine ⟨(keyD k, d) :: ds, by unfold toDk; rw [e, e'], by simp only [PyData.showableKv, h1, g1, k1, Bool.and_self], by simp only [PyData.depthKv]; omega, ?_⟩
    rw [PyData.shownKv_cons]
    simp only [List.map_cons, List.sum_cons, cntk_cons]
    rw [strLen_append, strLen_append]
    have e2 : (": " : Str).length = 2 := by decide
    have h3 : d.shown.length + 50 ≤ 1100 * cnt x := h3
    omega
theorem told : ∀ (n : Nat) (x : PV), okD n x → ∃ d, toD x = some d ∧ Told n (cnt x) d := by
  have leaf : ∀ (n : Nat) (x : PV), okD n x → (∀ xs, x ≠ .tup xs) → (∀ xs, x ≠ .lst xs) → (∀ xs, x ≠ .dic xs) → ∃ d, toD x = some d ∧ Told n (cnt x) d := by
    intro n x h h1 h2 h3
    cases x with
    | non => exact ⟨.none, by unfold toD; rfl, rfl, by simp [PyData.depth], by simp [PyData.shown]; decide⟩
    | bl b => exact ⟨.bool b, by unfold toD; rfl, rfl, by simp [PyData.depth], by cases b <;> simp [PyData.shown] <;> decide⟩
    | int i =>
      obtain ⟨d, rfl, t⟩ := told_int (n := n) (show okI i by unfold okD at h; exact h)
      exact ⟨_, by unfold toD; rfl, by rw [cnt_int]; exact t⟩
    | str z =>
      obtain ⟨d, rfl, t⟩ := told_str (n := n) (show okZ z by unfold okD at h; exact h)
      exact ⟨_, by unfold toD; rfl, by rw [cnt_str]; exact t⟩
    | tup xs => exact absurd rfl (h1 xs)
    | lst xs => exact absurd rfl (h2 xs)
    | scr xs => unfold okD at h; exact h.elim
    | dic kvs => exact absurd rfl (h3 kvs)
    | obj k => unfold okD at h; exact h.elim
    | wt k => unfold okD at h; exact h.elim
  intro n
  induction n with
  | zero => exact fun x h => leaf 0 x h (fun xs e => by subst e; unfold okD at h; exact h) (fun xs e => by subst e; unfold okD at h; exact h) fun xs e => by subst e; unfold okD at h; exact h
  | succ n ih =>
    intro x h
    by_cases h1 : ∃ xs, x = .tup xs
    · obtain ⟨xs, rfl⟩ := h1
      obtain ⟨ds, e, g1, g2, g3⟩ := toldAll xs fun y hy => ih y (h y hy)
      refine ⟨.tuple ds, by unfold toD; rw [e]; rfl, by simpa only [PyData.showable] using g1, by simp only [PyData.depth]; omega, ?_⟩
      have := tupleText_le (PyData.shownAll ds)
      simp only [PyData.shown, cnt_tup]
      omega
    · by_cases h2 : ∃ xs, x = .lst xs
      · obtain ⟨xs, rfl⟩ := h2
        obtain ⟨ds, e, g1, g2, g3⟩ := toldAll xs fun y hy => ih y (h y hy)
        refine ⟨.list ds, by unfold toD; rw [e]; rfl, by simpa only [PyData.showable] using g1, by simp only [PyData.depth]; omega, ?_⟩
        have := listText_le (PyData.shownAll ds)
        simp only [PyData.shown, cnt_lst]
        omega
      · by_cases h3 : ∃ xs, x = .dic xs
        · obtain ⟨xs, rfl⟩ := h3
          obtain ⟨ds, e, g1, g2, g3⟩ := toldKv xs fun y hy => ⟨(h y hy).1, ih y.2 (h y hy).2⟩
          refine ⟨.dict ds, by unfold toD; rw [e]; rfl, by simpa only [PyData.showable] using g1, by simp only [PyData.depth]; omega, ?_⟩
          rw [PyData.shown_dict]
          have := dictText_le (PyData.shownKv ds)
          simp only [cnt_dic]
          omega
        · exact leaf (n + 1) x h (fun xs e => h1 ⟨xs, e⟩) (fun xs e => h2 ⟨xs, e⟩) fun xs e => h3 ⟨xs, e⟩
/-- the text of repr -/
noncomputable def reprT (x : PV) : Str := match toD x with
  | some d => d.shown
  | none => ""
theorem okD_top {n : Nat} {x : PV} {s : S} (h : okD n x) : top s x = x := by
  cases x with
  | obj k => unfold okD at h; cases n <;> exact h.elim
  | _ => rfl
theorem q_repr {n : Nat} {x : PV} {s : S} (h : okD n x) (hn : n ≤ 50) (hc : cnt x ≤ 14000) : bRepr [x] s = some (.str (reprT x), s) := by
  obtain ⟨d, e, h1, h2, h3⟩ := told n x h
  unfold bRepr
  simp only [okD_top h, e]
  unfold shows
  rw [if_pos ⟨h1, by omega, by omega⟩]
  unfold reprT
  rw [e]; rfl
end Z

set_option Elab.async false
set_option linter.all false
set_option maxRecDepth 100000
set_option maxHeartbeats 4000000
/-! Q6: draws and picks. -/
namespace Z
open PySem PySem.Spec L2

def DrawOk (k : Str) (f : FM) : Prop := ∀ {n : Int} {d : Deck} {R : S} {Q : PV → S → Prop} {E : Str → PV → S → Prop}, 1 ≤ n → n < 2 ^ 63 → (∀ r (d' : Deck), 0 ≤ r → r < n → Q (.int r) (d'.st k R)) → Pq (f [.obj 0, .int n] (d.st k R)) Q E
def pickF (draw : FM) : SM := (sRet (eOp oIx (eV 1) (eCall draw (aCons (eV 0) (aCons (eLs bLen (aCons (eV 1) aNil)) aNil)))))
section
variable {k : Str} {draw : FM} {d : Deck} {R : S} {Q : PV → S → Prop} {E : Str → PV → S → Prop} {N : List Str} {xs : List PV}
theorem pick_l (D : DrawOk k draw) (hN : N.length = 2) (h1 : xs ≠ []) (h2 : xs.length ≤ 1000000000) (q : ∀ v (d' : Deck), v ∈ xs → Q v (d'.st k R)) : Pq (fnM 2 N (pickF draw) [.obj 0, .lst xs] (d.st k R)) Q E := by
  have e : startE N [.obj 0, .lst xs] = [some (.obj 0), some (.lst xs)] := by simp [startE, hN]
  have hp : 1 ≤ (xs.length : Int) := by
    have : 0 < xs.length := List.length_pos_iff.mpr h1
    omega
  unfold pickF
  simp [e]
  refine D hp (by omega) fun r d' h0 h1 => ?_
  obtain ⟨v, hv, _, ev⟩ := at_in (l := xs) (r := r) ⟨h0, h1⟩
  simp [ev]
  exact q v d' hv
theorem pick_t (D : DrawOk k draw) (hN : N.length = 2) (h1 : xs ≠ []) (h2 : xs.length ≤ 1000000000) (q : ∀ v (d' : Deck), v ∈ xs → Q v (d'.st k R)) : Pq (fnM 2 N (pickF draw) [.obj 0, .tup xs] (d.st k R)) Q E := by
  have e : startE N [.obj 0, .tup xs] = [some (.obj 0), some (.tup xs)] := by simp [startE, hN]
  have hp : 1 ≤ (xs.length : Int) := by
    have : 0 < xs.length := List.length_pos_iff.mpr h1
    omega
  unfold pickF
  simp [e]
  refine D hp (by omega) fun r d' h0 h1 => ?_
  obtain ⟨v, hv, _, ev⟩ := at_in (l := xs) (r := r) ⟨h0, h1⟩
  simp [ev]
  exact q v d' hv
theorem pick_o {n : Nat} (D : DrawOk k draw) (hN : N.length = 2) (hx : stL R n = some xs) (h1 : xs ≠ []) (h2 : xs.length ≤ 1000000000) (q : ∀ v (d' : Deck), v ∈ xs → Q v (d'.st k R)) : Pq (fnM 2 N (pickF draw) [.obj 0, .obj (n + 2)] (d.st k R)) Q E := by
  have e : startE N [.obj 0, .obj (n + 2)] = [some (.obj 0), some (.obj (n + 2))] := by simp [startE, hN]
  have hp : 1 ≤ (xs.length : Int) := by
    have : 0 < xs.length := List.length_pos_iff.mpr h1
    omega
  unfold pickF
  simp [e, hx]
  refine D hp (by omega) fun r d' h0 h1 => ?_
  obtain ⟨v, hv, _, ev⟩ := at_in (l := xs) (r := r) ⟨h0, h1⟩
  simp [ev, hx]
  exact q v d' hv
theorem pick_s {z : Str} (D : DrawOk k draw) (hN : N.length = 2) (h1 : 1 ≤ z.length) (h2 : z.length ≤ 1000000) (q : ∀ c (d' : Deck), c ∈ z.cps.toList → Q (.str ⟨#[c]⟩) (d'.st k R)) : Pq (fnM 2 N (pickF draw) [.obj 0, .str z] (d.st k R)) Q E := by
  have e : startE N [.obj 0, .str z] = [some (.obj 0), some (.str z)] := by simp [startE, hN]
  unfold pickF
  simp [e]
  refine ⟨by omega, D (by omega) (by omega) fun r d' h0 h1 => ?_⟩
  obtain ⟨v, hv, _, ev⟩ := at_in (l := z.cps.toList) (r := r) ⟨h0, h1⟩
  simp [ev]
  exact ⟨by omega, q v d' hv⟩
end
end Z

set_option Elab.async false
set_option linter.all false
set_option maxRecDepth 100000
set_option maxHeartbeats 4000000
/-! T1: trees and their places, in plain Lean. -/
namespace Z
open PySem PySem.Spec L2

/-- a comprehension that touches nothing -/
theorem p_lcmap {t : GM} {m : EM} {env : En} {s : S} {g : PV → PV} {Q : List PV → S → Prop} {E : Str → PV → S → Prop} : ∀ {xs : List PV} (h : ∀ x ∈ xs, onE (t x env s) fun e => ∀ Q' : PV → S → Prop, Q' (g x) s → Pq (m e s) Q' noE) (q : Q (xs.map g) s), Pq (lcL [] t tYesM m env xs s) Q E := by
  intro xs h q
  refine p_lc (fun i acc s' => s' = s ∧ acc = (xs.take i).map g) (acc := []) ⟨rfl, by simp⟩ (fun _ _ _ _ _ => ck0) (fun i x hx acc s' ⟨e1, e2⟩ => ?_) fun ys s' ⟨e1, e2⟩ => ?_
  · subst e1
    have := h x (List.mem_of_getElem? hx)
    cases ht : t x env s' with
    | none => rw [ht] at this; exact this.elim
    | some e =>
      rw [ht] at this
      rw [onE_some, w_tyes, if_pos rfl]
      refine this _ ⟨rfl, ?_⟩
      rw [e2, List.take_add_one, hx]; simp
  · subst e1
    rw [List.nil_append] at e2
    rw [e2, List.take_length]; exact q
theorem p_lcfilt {t : GM} {ts : TM} {m : EM} {env : En} {s : S} {g : PV → PV} {p : PV → Bool} {Q : List PV → S → Prop} {E : Str → PV → S → Prop} : ∀ {xs : List PV} (h : ∀ x ∈ xs, onE (t x env s) fun e => (∀ Q' : Bool → S → Prop, Q' (p x) s → Pq (ts e s) Q' noE) ∧ (p x = true → ∀ Q' : PV → S → Prop, Q' (g x) s → Pq (m e s) Q' noE)) (q : Q ((xs.filter p).map g) s), Pq (lcL [] t ts m env xs s) Q E := by
  intro xs h q
  refine p_lc (fun i acc s' => s' = s ∧ acc = ((xs.take i).filter p).map g) (acc := []) ⟨rfl, by simp⟩ (fun _ _ _ _ _ => ck0) (fun i x hx acc s' ⟨e1, e2⟩ => ?_) fun ys s' ⟨e1, e2⟩ => ?_
  · subst e1
    have := h x (List.mem_of_getElem? hx)
    cases ht : t x env s' with
    | none => rw [ht] at this; exact this.elim
    | some e =>
      rw [ht] at this
      obtain ⟨h1, h2⟩ : (∀ Q' : Bool → S → Prop, Q' (p x) s' → Pq (ts e s') Q' noE) ∧ (p x = true → ∀ Q' : PV → S → Prop, Q' (g x) s' → Pq (m e s') Q' noE) := this
      rw [onE_some]
      refine h1 _ ?_
      cases hp : p x with
      | false =>
        rw [if_neg Bool.false_ne_true]
        refine ⟨rfl, ?_⟩
        rw [e2, List.take_add_one, hx, List.filter_append]; simp [hp]
      | true =>
        rw [if_pos rfl]
        refine h2 hp _ ⟨rfl, ?_⟩
        rw [e2, List.take_add_one, hx, List.filter_append]; simp [hp]
  · subst e1
    rw [List.nil_append] at e2
    rw [e2, List.take_length]; exact q
/-! ### trees -/
inductive Tr where
  | nil
  | node (tag : Str) (l r : Tr)
def Tr.pv : Tr → PV
  | .nil => .non
  | .node t l r => .tup [.str t, l.pv, r.pv]
def Tr.size : Tr → Nat
  | .nil => 0
  | .node _ l r => l.size + r.size + 1
def tagOk (z : Str) : Prop := 1 ≤ z.length ∧ z.length ≤ 8 ∧ ∀ c ∈ z.cps.toList, 97 ≤ c ∧ c ≤ 122
def Tr.ok : Tr → Prop
  | .nil => True
  | .node t l r => tagOk t ∧ l.ok ∧ r.ok
def bch (b : Bool) : Nat := if b then 114 else 108
def pstr (p : List Bool) : Str := ⟨(p.map bch).toArray⟩
abbrev Spt := List Bool × Tr
/-- the places below, each with its part, in order -/
def Tr.walk (p : List Bool) : Tr → List Spt
  | .nil => [(p, .nil)]
  | .node t l r => (p, .node t l r) :: (l.walk (p ++ [false]) ++ r.walk (p ++ [true]))
/-- .. the right ones first -/
def Tr.walk2 (p : List Bool) : Tr → List Spt
  | .nil => [(p, .nil)]
  | .node t l r => (p, .node t l r) :: (r.walk2 (p ++ [true]) ++ l.walk2 (p ++ [false]))
theorem walk_len (t : Tr) : ∀ p, (t.walk p).length = 2 * t.size + 1 := by
  induction t with
  | nil => intro p; rfl
  | node tag l r h1 h2 => intro p; simp only [Tr.walk, List.length_cons, List.length_append, h1, h2, Tr.size]; omega
theorem walk_perm (t : Tr) : ∀ p, (t.walk2 p).Perm (t.walk p) := by
  induction t with
  | nil => intro p; exact List.Perm.refl _
  | node tag l r h1 h2 =>
    intro p
    refine List.Perm.cons _ ?_
    exact ((h2 _).append (h1 _)).trans List.perm_append_comm
def Tr.sub : Tr → List Bool → Tr
  | t, [] => t
  | .nil, _ :: _ => .nil
  | .node _ l r, b :: p => if b then r.sub p else l.sub p
theorem Tr.sub_nil (t : Tr) : t.sub [] = t := by cases t <;> rfl
/-- a place of the tree -/
def Tr.at : Tr → List Bool → Prop
  | _, [] => True
  | .nil, _ :: _ => False
  | .node _ l r, b :: p => if b then r.at p else l.at p
theorem walk_sub (t : Tr) : ∀ p, ∀ e ∈ t.walk p, ∃ q, e.1 = p ++ q ∧ t.at q ∧ t.sub q = e.2 := by
  induction t with
  | nil => intro p e he; simp [Tr.walk] at he; subst he; exact ⟨[], by simp, trivial, rfl⟩
  | node tag l r h1 h2 =>
    intro p e he
    simp only [Tr.walk, List.mem_cons, List.mem_append] at he
    rcases he with rfl | he | he
    · exact ⟨[], by simp, trivial, rfl⟩
    · obtain ⟨q, e1, e2, e3⟩ := h1 _ e he
      exact ⟨false :: q, by simp [e1], by simp only [Tr.at]; exact e2, by simp only [Tr.sub]; exact e3⟩
    · obtain ⟨q, e1, e2, e3⟩ := h2 _ e he
      exact ⟨true :: q, by simp [e1], by simp only [Tr.at]; exact e2, by simp only [Tr.sub]; exact e3⟩
theorem walk_depth (t : Tr) : ∀ p, ∀ e ∈ t.walk p, e.1.length ≤ p.length + t.size := by
  induction t with
  | nil => intro p e he; simp [Tr.walk] at he; subst he; simp
  | node tag l r h1 h2 =>
    intro p e he
    simp only [Tr.walk, List.mem_cons, List.mem_append, Tr.size] at he ⊢
    rcases he with rfl | he | he
    · simp
    · have := h1 _ e he; simp at this; omega
    · have := h2 _ e he; simp at this; omega
theorem pstr_len (p : List Bool) : (pstr p).length = p.length := by
  show (p.map bch).toArray.size = p.length
  simp
theorem pstr_app (p : List Bool) (b : Bool) : pstr p ++ (⟨#[bch b]⟩ : Str) = pstr (p ++ [b]) := by
  show (⟨(p.map bch).toArray ++ #[bch b]⟩ : Str) = _
  unfold pstr
  simp
theorem pstr_r (p : List Bool) : pstr p ++ ("r" : Str) = pstr (p ++ [true]) := pstr_app p true
theorem pstr_l (p : List Bool) : pstr p ++ ("l" : Str) = pstr (p ++ [false]) := pstr_app p false
theorem pstr_nil : pstr [] = ("" : Str) := rfl
theorem chs_pstr (p : List Bool) : chs (pstr p) = p.map fun b => .str (if b then ("r" : Str) else "l") := by
  unfold chs
  show ((p.map bch).toArray.toList).map _ = _
  simp only [List.map_map]
  refine List.map_congr_left fun b _ => ?_
  cases b <;> rfl
theorem bch_inj : ∀ {p q : List Bool}, p.map bch = q.map bch → p = q
  | [], [], _ => rfl
  | [], _ :: _, h => by simp at h
  | _ :: _, [], h => by simp at h
  | a :: p, b :: q, h => by
    simp only [List.map_cons, List.cons.injEq] at h
    have e : a = b := by
      have := h.1
      cases a <;> cases b <;> simp [bch] at this <;> rfl
    rw [e, bch_inj h.2]
theorem pstr_inj {p q : List Bool} (h : pstr p = pstr q) : p = q := by
  have h : (p.map bch).toArray = (q.map bch).toArray := congrArg Str.cps h
  exact bch_inj (congrArg Array.toList h)
/-- the order of places -/
def ltP (p q : List Bool) : Prop := leS (pstr p) (pstr q) = true ∧ p ≠ q
theorem le_pre (p q : List Bool) : leS (pstr p) (pstr (p ++ q)) = true := by
  unfold leS
  show (!ltCps (((p ++ q).map bch).toArray.toList) ((p.map bch).toArray.toList)) = true
  simp only [List.map_append]
  induction p with
  | nil => cases q <;> rfl
  | cons a p ih => simp only [List.map_cons, List.cons_append, ltCps]; simpa using ih
theorem le_lr (p q r : List Bool) : leS (pstr (p ++ false :: q)) (pstr (p ++ true :: r)) = true := by
  unfold leS
  show (!ltCps (((p ++ true :: r).map bch).toArray.toList) (((p ++ false :: q).map bch).toArray.toList)) = true
  simp only [List.map_append]
  induction p with
  | nil => simp [ltCps, bch]
  | cons a p ih => simp only [List.map_cons, List.cons_append, ltCps]; simpa using ih
theorem walk_pre (t : Tr) (p : List Bool) : ∀ e ∈ t.walk p, ∃ q, e.1 = p ++ q := fun e he => let ⟨q, h, _⟩ := walk_sub t p e he; ⟨q, h⟩
theorem walk_sorted (t : Tr) : ∀ p, (t.walk p).Pairwise fun a b => leS (pstr a.1) (pstr b.1) = true ∧ a.1 ≠ b.1 := by
  induction t with
  | nil => intro p; exact List.pairwise_singleton _ _
  | node tag l r h1 h2 =>
    intro p
    simp only [Tr.walk]
    refine List.pairwise_cons.mpr ⟨fun e he => ?_, List.pairwise_append.mpr ⟨h1 _, h2 _, fun a ha b hb => ?_⟩⟩
    · rcases List.mem_append.mp he with he | he
      · obtain ⟨q, hq⟩ := walk_pre _ _ e he
        rw [hq, List.append_assoc]
        exact ⟨le_pre _ _, fun z => by have := congrArg List.length z; simp at this⟩
      · obtain ⟨q, hq⟩ := walk_pre _ _ e he
        rw [hq, List.append_assoc]
        exact ⟨le_pre _ _, fun z => by have := congrArg List.length z; simp at this⟩
    · obtain ⟨q, hq⟩ := walk_pre _ _ a ha
      obtain ⟨q', hq'⟩ := walk_pre _ _ b hb
      rw [hq, hq', List.append_assoc, List.append_assoc]
      refine ⟨le_lr _ _ _, fun z => ?_⟩
      have := List.append_cancel_left z
      simp at this
def Tr.places (t : Tr) : List Str := (t.walk []).map fun e => pstr e.1
theorem places_sorted (t : Tr) {ks : List Str} (h : ks.Perm t.places) : sortS ks = t.places := by
  refine (sortS_uniq h.symm ?_).symm
  unfold Tr.places
  rw [List.pairwise_map]
  exact (walk_sorted t []).imp fun h => h.1
theorem walk_nd (t : Tr) (p : List Bool) : ((t.walk p).map fun e => pstr e.1).Nodup := by
  unfold List.Nodup
  rw [List.pairwise_map]
  exact (walk_sorted t p).imp fun h z => h.2 (pstr_inj z)
theorem places_len (t : Tr) : t.places.length = 2 * t.size + 1 := by unfold Tr.places; rw [List.length_map, walk_len]
end Z

set_option Elab.async false
set_option linter.all false
set_option maxRecDepth 100000
set_option maxHeartbeats 4000000
/-! T2: signs in texts, sets of texts, puts of new keys. -/
namespace Z
open PySem PySem.Spec L2
section
variable {s : S} {z u : Str} {c : Nat} {Q : PV → S → Prop} {E : Str → PV → S → Prop}
@[simp] theorem q_in_c : oIn (.str ⟨#[c]⟩) (.str z) s = some (.bl (decide (c ∈ z.cps.toList)), s) := by
  unfold oIn inB
  rfl
@[simp] theorem q_nin_c : oNotIn (.str ⟨#[c]⟩) (.str z) s = some (.bl (!decide (c ∈ z.cps.toList)), s) := by
  unfold oNotIn inB
  rfl
theorem small_mem : c ∈ ("abcdefghijklmnopqrstuvwxyz" : Str).cps.toList ↔ 97 ≤ c ∧ c ≤ 122 := by
  have e : ("abcdefghijklmnopqrstuvwxyz" : Str).cps.toList = (List.range 26).map (· + 97) := by decide +kernel
  rw [e, List.mem_map]
  constructor
  · rintro ⟨i, hi, rfl⟩
    have := List.mem_range.mp hi
    omega
  · intro h
    exact ⟨c - 97, List.mem_range.mpr (by omega), by omega⟩
/-- x in a tuple of texts -/
theorem strs_pflat {ts : List Str} : (ts.map PV.str).all pflat = true := by
  rw [List.all_map, List.all_eq_true]; intro t _; rfl
theorem in_strs {ts : List Str} : ((ts.map PV.str).any fun y => feq y (.str z)) = decide (z ∈ ts) := by
  induction ts with
  | nil => simp
  | cons t ts ih =>
    simp only [List.map_cons, List.any_cons, ih, List.mem_cons]
    have : feq (.str t) (.str z) = decide (z = t) := by
      show (some (t == z)).getD false = _
      rw [Option.getD_some, beq_dec]
      by_cases h : t = z
      · subst h; simp
      · simp [h, Ne.symm h]
    rw [this]
    by_cases h : z = t <;> simp [h]
@[simp] theorem q_in_ts {ts : List Str} : oIn (.str z) (.tup (ts.map .str)) s = some (.bl (decide (z ∈ ts)), s) := by
  unfold oIn
  have : inB (.str z) (.tup (ts.map .str)) s = some (decide (z ∈ ts)) := by
    show (match sqOf s (.tup (ts.map .str)) with | some ys => if pflat (.str z) && ys.all pflat then some (ys.any fun y => feq y (.str z)) else none | none => none) = _
    rw [sq_t]
    show (if pflat (.str z) && (ts.map PV.str).all pflat then some ((ts.map PV.str).any fun y => feq y (.str z)) else none) = _
    rw [strs_pflat, in_strs]; rfl
  rw [this]
theorem in_o {n : Nat} {ts : List Str} (h : stL s n = some (ts.map .str)) : inB (.str z) (.obj n) s = some (decide (z ∈ ts)) := by
  show (match sqOf s (.obj n) with | some ys => if pflat (.str z) && ys.all pflat then some (ys.any fun y => feq y (.str z)) else none | none => none) = _
  rw [sq_o, h]
  show (if pflat (.str z) && (ts.map PV.str).all pflat then some ((ts.map PV.str).any fun y => feq y (.str z)) else none) = _
  rw [strs_pflat, in_strs]; rfl
theorem q_nin_o {n : Nat} {ts : List Str} (h : stL s n = some (ts.map .str)) : oNotIn (.str z) (.obj n) s = some (.bl (!decide (z ∈ ts)), s) := by
  unfold oNotIn; rw [in_o h]
theorem keysOf_strs : ∀ ts : List Str, keysOf (ts.map .str) = some (ts.map Sum.inr)
  | [] => rfl
  | t :: ts => by
    show (match kP (.str t), keysOf (ts.map .str) with | some k, some ks => some (k :: ks) | _, _ => none) = _
    rw [keysOf_strs ts]; rfl
theorem once_nd : ∀ (ks : List Key) (acc : List Key), (acc ++ ks).Nodup → (once acc ks) = acc ++ ks
  | [], acc, _ => by simp [once]
  | k :: ks, acc, h => by
    unfold once
    have hk : k ∉ acc := fun hm => by
      have := (List.nodup_append.mp h).2.2 k hm k (by simp)
      exact this rfl
    rw [if_neg hk, once_nd ks _ (by simpa using h)]
    simp
theorem q_lenset {ts : List Str} (h : ts.Nodup) (hl : ts.length < 4000) : uLenSet (.tup (ts.map .str)) s = some (.int ts.length, s) := by
  unfold uLenSet
  rw [sq_t]
  show (if (ts.map PV.str).length < 4000 then _ else none) = _
  rw [if_pos (by rw [List.length_map]; exact hl), keysOf_strs, Option.map_some, once_nd _ _ (by
    rw [List.nil_append]
    exact List.Pairwise.map _ (fun a b hab e => hab (Sum.inr.inj e)) h)]
  simp
/-! dicts -/
theorem put_new {kvs : List (Key × PV)} {k : Key} {v : PV} (h : k ∉ kvs.map (·.1)) : putP kvs k v = kvs ++ [(k, v)] := by
  unfold putP
  rw [if_neg]
  intro e
  rw [List.any_eq_true] at e
  obtain ⟨kv, h1, h2⟩ := e
  exact h (List.mem_map.mpr ⟨kv, h1, of_decide_eq_true h2⟩)
theorem val_of {kvs : List (Key × PV)} {k : Key} {v : PV} (h : (kvs.map (·.1)).Nodup) (hm : (k, v) ∈ kvs) : valP kvs k = some v := by
  unfold valP
  induction kvs with
  | nil => cases hm
  | cons kv kvs ih =>
    simp only [List.map_cons, List.nodup_cons] at h
    rw [List.find?_cons]
    by_cases e : kv.1 = k
    · simp only [e, decide_true]
      rcases List.mem_cons.mp hm with rfl | hm
      · rfl
      · exact absurd (List.mem_map.mpr ⟨_, hm, e.symm⟩) h.1
    · simp only [e, decide_false]
      rcases List.mem_cons.mp hm with rfl | hm
      · exact absurd rfl e
      · exact ih h.2 hm
theorem strKs_map {α : Type} {l : List α} {f : α → Str} {g : α → PV} : strKs (l.map fun a => (.inr (f a), g a)) = some (l.map f) := by
  induction l with
  | nil => rfl
  | cons a l ih =>
    show (match strKs (l.map fun a => (Sum.inr (f a), g a)) with | some bs => some (f a :: bs) | none => none) = _
    rw [ih]; rfl
end
end Z

set_option Elab.async false
set_option linter.all false
set_option maxRecDepth 100000
set_option maxHeartbeats 4000000
/-! T2e: the next place; parts as data. -/
namespace Z
open PySem PySem.Spec L2
/-- of a place turned round: the next one that does not lie below -/
def upR : List Bool → Option (List Bool)
  | [] => none
  | true :: q => upR q
  | false :: q => some (q.reverse ++ [true])
def nxt (e : Spt) : Option (List Bool) :=
  match e.2 with
  | .nil => upR e.1.reverse
  | .node _ _ _ => some (e.1 ++ [false])
def lk : List Spt → Option (List Bool) → Prop
  | [], _ => True
  | [e], o => nxt e = o
  | e :: e' :: r, o => nxt e = some e'.1 ∧ lk (e' :: r) o
theorem lk_app {b : Spt} {B : List Spt} {o : Option (List Bool)} (hb : lk (b :: B) o) : ∀ {A : List Spt}, A ≠ [] → lk A (some b.1) → lk (A ++ b :: B) o
  | [], h, _ => absurd rfl h
  | [e], _, h => ⟨h, hb⟩
  | e :: e' :: A, _, h => ⟨h.1, lk_app hb (A := e' :: A) (by simp) h.2⟩
theorem walk_head (t : Tr) (p : List Bool) : ∃ r, t.walk p = (p, t) :: r := by cases t <;> exact ⟨_, rfl⟩
theorem lk_walk (t : Tr) : ∀ p, lk (t.walk p) (upR p.reverse) := by
  induction t with
  | nil => intro p; rfl
  | node tag l r h1 h2 =>
    intro p
    obtain ⟨A, eA⟩ := walk_head l (p ++ [false])
    obtain ⟨B, eB⟩ := walk_head r (p ++ [true])
    have a := h1 (p ++ [false])
    have b := h2 (p ++ [true])
    have ea : upR (p ++ [false]).reverse = some (p ++ [true]) := by simp [upR]
    have eb : upR (p ++ [true]).reverse = upR p.reverse := by simp [upR]
    rw [ea, eA] at a
    rw [eb, eB] at b
    simp only [Tr.walk, eA, eB]
    exact ⟨rfl, lk_app b (A := (p ++ [false], l) :: A) (by simp) a⟩
theorem lk_ix : ∀ {W : List Spt}, lk W none → ∀ {i : Nat} {e : Spt}, W[i]? = some e → nxt e = (W[i + 1]?).map (·.1)
  | [], _, i, e, h => by simp at h
  | [e0], h0, i, e, h => by
    cases i with
    | zero => cases h; exact (show nxt e0 = none from h0)
    | succ i => simp at h
  | e0 :: e1 :: W, h0, i, e, h => by
    cases i with
    | zero => cases h; simpa using h0.1
    | succ i =>
      have := lk_ix (W := e1 :: W) h0.2 (i := i) (e := e) (by simpa using h)
      simpa using this
theorem next_ix {t : Tr} {i : Nat} {e : Spt} (h : (t.walk [])[i]? = some e) : nxt e = ((t.walk [])[i + 1]?).map (·.1) := lk_ix (lk_walk t []) h
/-- texts of places -/
theorem pstr_cut (p : List Bool) : cutS (pstr p) none (some (-1)) = pstr p.dropLast := by
  unfold cutS
  have e0 : (pstr p).cps.toList = p.map bch := by unfold pstr; simp
  have e : HT.sIx (pstr p).length (pstr p).length (some (-1)) = p.length - 1 := by
    rw [pstr_len]
    show (if (-1 : Int) < 0 then (-1 + (p.length : Int)).toNat else min (-1 : Int).toNat p.length) = _
    rw [if_pos (by decide)]; omega
  rw [HT.sIx_none, e, e0]
  unfold pstr
  rw [List.drop_zero, Nat.sub_zero, ← List.map_take, List.dropLast_eq_take]
theorem pstr_cutTo (p : List Bool) (n : Nat) : cutS (pstr p) none (some (n : Int)) = pstr (p.take n) := by
  unfold cutS
  have e0 : (pstr p).cps.toList = p.map bch := by unfold pstr; simp
  rw [HT.sIx_none, HT.sIx_nat, e0, pstr_len]
  unfold pstr
  rw [List.drop_zero, Nat.sub_zero, ← List.map_take]
  by_cases h : n ≤ p.length
  · rw [Nat.min_eq_left h]
  · rw [Nat.min_eq_right (by omega), List.take_of_length_le (Nat.le_refl _), List.take_of_length_le (by omega)]
theorem pstr_ends (p : List Bool) (b : Bool) : Txt.endswith (pstr (p ++ [b])) "r" = b := by
  unfold Txt.endswith
  have h1 : ("r" : Str).length = 1 := rfl
  rw [pstr_len, h1, List.length_append, List.length_singleton]
  have : (p.length + 1 - 1) = p.length := by omega
  rw [this]
  have e : (pstr (p ++ [b])).cps.extract p.length (p.length + 1) = #[bch b] := by
    unfold pstr
    simp [List.extract_eq_take_drop]
  unfold Builtin.Str.subAt
  rw [h1, e]
  cases b <;> rfl
theorem pstr_ends0 : Txt.endswith (pstr []) "r" = false := by decide +kernel
theorem in_ts {z : Str} {ts : List Str} {s : S} : inB (.str z) (.tup (ts.map .str)) s = some (decide (z ∈ ts)) := by
  have h := q_in_ts (z := z) (ts := ts) (s := s)
  unfold oIn at h
  cases e : inB (.str z) (.tup (ts.map .str)) s with
  | none => rw [e] at h; cases h
  | some b => rw [e] at h; simpa using h
theorem q_nin_ts {z : Str} {ts : List Str} {s : S} : oNotIn (.str z) (.tup (ts.map .str)) s = some (.bl (!decide (z ∈ ts)), s) := by
  unfold oNotIn; rw [in_ts]
theorem nin_lr {b : Bool} {s : S} : oNotIn (.str (if b then ("r" : Str) else "l")) (.tup [.str "l", .str "r"]) s = some (.bl false, s) := by
  have h := q_nin_ts (z := if b then ("r" : Str) else "l") (ts := ["l", "r"]) (s := s)
  rw [show PV.tup [.str "l", .str "r"] = .tup ((["l", "r"] : List Str).map .str) from rfl, h]
  have e : decide ((if b then ("r" : Str) else "l") ∈ (["l", "r"] : List Str)) = true := by cases b <;> decide +kernel
  rw [e]; rfl
@[simp] theorem w_ends {a b : Str} {s : S} : mEndswith (.str a) [.str b] s = some (.bl (Txt.endswith a b), s) := by unfold mEndswith; rfl
theorem pstr_pre {p q : List Bool} : pstr p ++ pstr q = pstr (p ++ q) := by
  show (⟨(p.map bch).toArray ++ (q.map bch).toArray⟩ : Str) = _
  unfold pstr
  simp
theorem pstr_eq {p q : List Bool} : (pstr p = pstr q) ↔ p = q := ⟨pstr_inj, fun h => by rw [h]⟩
end Z

set_option Elab.async false
set_option linter.all false
set_option maxRecDepth 100000
set_option maxHeartbeats 4000000
/-! T2b: comprehensions over a list of the store; tape machines in plain Lean. -/
namespace Z
open PySem PySem.Spec L2
theorem p_lcmapC {c : Ck} {t : GM} {m : EM} {env : En} {s : S} {g : PV → PV} {Q : List PV → S → Prop} {E : Str → PV → S → Prop} : ∀ {xs : List PV} (hc : ckOk c s) (h : ∀ x ∈ xs, onE (t x env s) fun e => ∀ Q' : PV → S → Prop, Q' (g x) s → Pq (m e s) Q' noE) (q : Q (xs.map g) s), Pq (lcL c t tYesM m env xs s) Q E := by
  intro xs hc h q
  refine p_lc (fun i acc s' => s' = s ∧ acc = (xs.take i).map g) (acc := []) ⟨rfl, by simp⟩ (fun _ _ s' _ ⟨e1, _⟩ => by rw [e1]; exact hc) (fun i x hx acc s' ⟨e1, e2⟩ => ?_) fun ys s' ⟨e1, e2⟩ => ?_
  · subst e1
    have := h x (List.mem_of_getElem? hx)
    cases ht : t x env s' with
    | none => rw [ht] at this; exact this.elim
    | some e =>
      rw [ht] at this
      rw [onE_some, w_tyes, if_pos rfl]
      refine this _ ⟨rfl, ?_⟩
      rw [e2, List.take_add_one, hx]; simp
  · subst e1
    rw [List.nil_append] at e2
    rw [e2, List.take_length]; exact q
section
variable {s : S} {mu : Bool} {xs : List PV} {k : Int} {Q : PV → S → Prop} {E : Str → PV → S → Prop}
@[simp] theorem w_rep : Pq (lift (oMul mu (.lst xs) (.int k) s)) Q E = ((-(2 ^ 63) ≤ k ∧ k < 2 ^ 63) ∧ Pq (lift (newL mu (List.replicate k.toNat xs).flatten s)) Q E) := by
  show Pq (lift (if -(2 ^ 63) ≤ k ∧ k < 2 ^ 63 then newL mu (List.replicate k.toNat xs).flatten s else none)) Q E = _
  split
  · rename_i h; exact pqE ⟨fun q => ⟨h, ⟨q⟩⟩, fun q => q.2.get⟩
  · rename_i h; exact pqE ⟨fun q => q.elim, fun q => h q.1⟩
end
/-! ### tape machines -/
structure Rl where
  to : Nat
  sg : Nat
  mv : Int
def Rl.pv (r : Rl) : PV := .tup [.int r.to, .int r.sg, .int r.mv]
structure Tape where
  tags : List Str
  signs : Nat
  sts : List (List Rl)
def stPV (st : List Rl) : PV := .tup (st.map Rl.pv)
def Tape.pv (m : Tape) : PV := .tup [.str "tape", .tup (m.tags.map .str), .int m.signs, .tup (m.sts.map stPV)]
def Rl.ok (r : Rl) (n signs : Nat) : Prop := r.to ≤ n + 1 ∧ r.sg < signs ∧ (r.mv = -1 ∨ r.mv = 0 ∨ r.mv = 1)
structure Tape.Ok (m : Tape) : Prop where
  tags : ∀ t ∈ m.tags, tagOk t
  nd : m.tags.Nodup
  few : m.tags.length ≤ 3
  sg : m.tags.length + 2 ≤ m.signs
  sg5 : m.signs ≤ 5
  one : 1 ≤ m.sts.length
  four : m.sts.length ≤ 4
  sts : ∀ st ∈ m.sts, st.length = m.signs ∧ ∀ r ∈ st, r.ok m.sts.length m.signs
/-- the sign of a part -/
def sgn (tags : List Str) : Tr → Nat
  | .nil => 0
  | .node t _ _ => match tags.findIdx? (fun u => decide (u = t)) with
    | some j => j + 1
    | none => tags.length + 1
theorem sgn_lt (tags : List Str) (t : Tr) : sgn tags t < tags.length + 2 := by
  cases t with
  | nil => simp [sgn]
  | node g l r =>
    simp only [sgn]
    split
    · rename_i j e
      have := (List.findIdx?_eq_some_iff_getElem.mp e).1
      omega
    · omega
theorem idx_mem {tags : List Str} {t : Str} : t ∈ tags ↔ ∃ j, tags.findIdx? (fun u => decide (u = t)) = some j := by
  constructor
  · intro h
    cases e : tags.findIdx? (fun u => decide (u = t)) with
    | some j => exact ⟨j, rfl⟩
    | none =>
      have := List.findIdx?_eq_none_iff.mp e t h
      simp at this
  · rintro ⟨j, e⟩
    obtain ⟨h, h1, _⟩ := List.findIdx?_eq_some_iff_getElem.mp e
    have : tags[j] = t := by simpa using h1
    rw [← this]; exact List.getElem_mem h
def Tape.cells (m : Tape) (t : Tr) (c : Nat) : List Nat := (t.walk []).map (fun e => sgn m.tags e.2) ++ List.replicate ((2 * t.size + 1) ^ c - (2 * t.size + 1)) 0
abbrev Stg := Nat × Nat × List Nat
def Tape.step (m : Tape) (x : Stg) : Stg :=
  match m.sts[x.1]? with
  | none => x
  | some st => match x.2.2[x.2.1]? with
    | none => x
    | some c => match st[c]? with
      | none => x
      | some r => (r.to, (min (max ((x.2.1 : Int) + r.mv) 0) ((x.2.2.length : Int) - 1)).toNat, x.2.2.set x.2.1 r.sg)
def Tape.iter (m : Tape) : Nat → Stg → Stg
  | 0, x => x
  | n + 1, x => m.step (m.iter n x)
structure Tape.Good (m : Tape) (L : Nat) (x : Stg) : Prop where
  q : x.1 ≤ m.sts.length + 1
  h : x.2.1 < L
  l : x.2.2.length = L
  c : ∀ c ∈ x.2.2, c < m.signs
theorem Tape.Ok.step {m : Tape} (ok : m.Ok) {L : Nat} {x : Stg} (g : m.Good L x) (hq : x.1 < m.sts.length) : ∃ st c r, m.sts[x.1]? = some st ∧ x.2.2[x.2.1]? = some c ∧ st[c]? = some r ∧ r.ok m.sts.length m.signs ∧
    m.step x = (r.to, (min (max ((x.2.1 : Int) + r.mv) 0) ((L : Int) - 1)).toNat, x.2.2.set x.2.1 r.sg) ∧ m.Good L (m.step x) := by
  obtain ⟨q, h, cs⟩ := x
  have h1 : m.sts[q]? = some (m.sts[q]'hq) := List.getElem?_eq_getElem hq
  have hst := ok.sts _ (List.getElem_mem hq)
  have hl : cs.length = L := g.l
  have hh : h < cs.length := by rw [hl]; exact g.h
  have h2 : cs[h]? = some cs[h] := List.getElem?_eq_getElem hh
  have hc : cs[h] < (m.sts[q]'hq).length := by rw [hst.1]; exact g.c _ (List.getElem_mem hh)
  have h3 : (m.sts[q]'hq)[cs[h]]? = some (m.sts[q]'hq)[cs[h]] := List.getElem?_eq_getElem hc
  have hr := hst.2 _ (List.getElem_mem hc)
  have e : m.step (q, h, cs) = (((m.sts[q]'hq)[cs[h]]).to, (min (max ((h : Int) + ((m.sts[q]'hq)[cs[h]]).mv) 0) ((L : Int) - 1)).toNat, cs.set h ((m.sts[q]'hq)[cs[h]]).sg) := by
    simp only [Tape.step, h1, h2, h3, hl]
  refine ⟨_, _, _, h1, h2, h3, hr, e, ?_⟩
  rw [e]
  refine ⟨hr.1, ?_, by simp [hl], fun c hm => ?_⟩
  · show (min (max ((h : Int) + _) 0) ((L : Int) - 1)).toNat < L
    have := g.h
    omega
  · rcases List.mem_or_eq_of_mem_set hm with hm | hm
    · exact g.c c hm
    · rw [hm]; exact hr.2.1
theorem Tape.step_end {m : Tape} {x : Stg} (h : m.sts.length ≤ x.1) : m.step x = x := by
  unfold Tape.step
  rw [List.getElem?_eq_none h]
theorem Tape.Ok.good {m : Tape} (ok : m.Ok) {L : Nat} {x : Stg} (g : m.Good L x) : ∀ n, m.Good L (m.iter n x)
  | 0 => g
  | n + 1 => by
    have ih := ok.good g n
    show m.Good L (m.step _)
    by_cases h : (m.iter n x).1 < m.sts.length
    · obtain ⟨_, _, _, _, _, _, _, _, q⟩ := ok.step ih h; exact q
    · rw [Tape.step_end (by omega)]; exact ih
theorem Tape.iter_end {m : Tape} {x : Stg} {i : Nat} (h : m.sts.length ≤ (m.iter i x).1) : ∀ j, m.iter (i + j) x = m.iter i x
  | 0 => rfl
  | j + 1 => by
    show m.step (m.iter (i + j) x) = _
    rw [Tape.iter_end h j, Tape.step_end h]
def cellsPV (cs : List Nat) : List PV := cs.map fun c => .int (c : Nat)
def stgPV (x : Stg) : PV := .tup [.int x.1, .int x.2.1, .tup (cellsPV x.2.2)]
def Tape.result (m : Tape) (cs : List Nat) (n : Nat) : PV := stgPV (m.iter n (0, 0, cs))
theorem cells_len (m : Tape) (t : Tr) {c : Nat} (hc : 1 ≤ c) : (m.cells t c).length = (2 * t.size + 1) ^ c := by
  unfold Tape.cells
  rw [List.length_append, List.length_map, walk_len, List.length_replicate]
  have : 2 * t.size + 1 ≤ (2 * t.size + 1) ^ c := by
    calc 2 * t.size + 1 = (2 * t.size + 1) ^ 1 := by simp
      _ ≤ _ := Nat.pow_le_pow_right (by omega) hc
  omega
theorem Tape.Ok.start {m : Tape} (ok : m.Ok) (t : Tr) {c : Nat} (hc : 1 ≤ c) : m.Good ((2 * t.size + 1) ^ c) (0, 0, m.cells t c) := by
  refine ⟨Nat.zero_le _, Nat.pow_pos (by omega), cells_len m t hc, fun x hx => ?_⟩
  have := ok.sg
  rcases List.mem_append.mp hx with hx | hx
  · obtain ⟨e, _, rfl⟩ := List.mem_map.mp hx
    have := sgn_lt m.tags e.2
    omega
  · have := List.eq_of_mem_replicate hx
    omega
end Z

set_option Elab.async false
set_option linter.all false
set_option maxRecDepth 100000
set_option maxHeartbeats 4000000
/-! T2c: texts joined, ranges, fresh tags. -/
namespace Z
open PySem PySem.Spec L2
theorem txt_join (ts : List Str) : Txt.join "" ts = Str.join "" ts := eq_of_beq (PyProof.Rows.join_plain_closes "" ts)
theorem join_chars : ∀ cs : List Nat, Str.join "" (cs.map fun c => (⟨#[c]⟩ : Str)) = ⟨cs.toArray⟩
  | [] => rfl
  | [c] => rfl
  | c :: c' :: cs => by
    show (⟨#[c]⟩ : Str) ++ "" ++ Str.join "" ((c' :: cs).map fun c => (⟨#[c]⟩ : Str)) = _
    rw [join_chars (c' :: cs)]
    show (⟨#[c] ++ #[] ++ (c' :: cs).toArray⟩ : Str) = _
    simp
section
variable {s : S} {a : Str} {ts : List Str} {Q : PV → S → Prop} {E : Str → PV → S → Prop}
@[simp] theorem w_join : Pq (lift (mJoin (.str a) [.lst (ts.map .str)] s)) Q E = ((ts.map (·.length)).sum + ts.length * a.length ≤ 16000000 ∧ Q (.str (Txt.join a ts)) s) := by
  have e : strsOf (ts.map PV.str) = some ts := by simpa using strs_map (p := fun x => x) (l := ts)
  show Pq (lift (match sqOf s (.lst (ts.map .str)) with | some zs => (match strsOf zs with | some ts => if (ts.map (·.length)).sum + ts.length * a.length ≤ 16000000 then some (PV.str (Txt.join a ts), s) else none | none => none) | none => none)) Q E = _
  rw [sq_l]
  show Pq (lift (match strsOf (ts.map PV.str) with | some ts => if (ts.map (·.length)).sum + ts.length * a.length ≤ 16000000 then some (PV.str (Txt.join a ts), s) else none | none => none)) Q E = _
  rw [e]
  show Pq (lift (if (ts.map (·.length)).sum + ts.length * a.length ≤ 16000000 then some (PV.str (Txt.join a ts), s) else none)) Q E = _
  split
  · rename_i h; exact pqE ⟨fun q => ⟨h, q⟩, fun q => q.2⟩
  · rename_i h; exact pqE ⟨fun q => q.elim, fun q => h q.1⟩
end
theorem sum_chars : ∀ cs : List Nat, ((cs.map fun c => (⟨#[c]⟩ : Str)).map (·.length)).sum = cs.length
  | [] => rfl
  | c :: cs => by
    have ih := sum_chars cs
    rw [List.map_cons, List.map_cons, List.sum_cons, ih, List.length_cons]
    show 1 + cs.length = _
    omega
theorem ups_len {lo : Int} {n : Nat} : (ups lo n).length = n := by simp [ups]
theorem ups_ix {lo : Int} {n i : Nat} {x : PV} (h : (ups lo n)[i]? = some x) : i < n ∧ x = .int (lo + (i : Nat)) := by
  unfold ups at h
  rw [List.getElem?_map] at h
  by_cases hi : i < n
  · rw [List.getElem?_range hi] at h
    simp at h
    exact ⟨hi, h.symm⟩
  · rw [List.getElem?_eq_none (by simpa using hi)] at h
    cases h
/-- the first of these that is not taken -/
theorem fresh_tag {fs : List Str} (h : fs.length ≤ 2) (z : Str) : ∃ u us, [z, "yes", "top", "fun", "zz"].filter (fun y => !decide (y ∈ fs)) = u :: us ∧ u ∉ fs ∧ (u = z ∨ u = "yes" ∨ u = "top" ∨ u = "fun" ∨ u = "zz") := by
  cases e : [z, "yes", "top", "fun", "zz"].filter (fun y => !decide (y ∈ fs)) with
  | cons u us =>
    have hm : u ∈ [z, "yes", "top", "fun", "zz"].filter (fun y => !decide (y ∈ fs)) := by rw [e]; simp
    rw [List.mem_filter] at hm
    exact ⟨u, us, rfl, by simpa using hm.2, by simpa using hm.1⟩
  | nil =>
    exfalso
    have key : ∀ y : Str, y ∈ [z, "yes", "top", "fun", "zz"] → y ∈ fs := fun y hy => by
      have := List.filter_eq_nil_iff.mp e y hy
      simpa using this
    have a := key "yes" (by simp)
    have b := key "top" (by simp)
    have c := key "fun" (by simp)
    have d1 : ("yes" : Str) ≠ "top" := by decide
    have d2 : ("yes" : Str) ≠ "fun" := by decide
    have d3 : ("top" : Str) ≠ "fun" := by decide
    match fs, h with
    | [], _ => cases a
    | [p], _ =>
      simp at a b
      exact d1 (a.trans b.symm)
    | [p, q], _ =>
      simp only [List.mem_cons, List.not_mem_nil, or_false] at a b c
      rcases a with a | a <;> rcases b with b | b <;> rcases c with c | c <;> first | exact d1 (a.trans b.symm) | exact d2 (a.trans c.symm) | exact d3 (b.trans c.symm)
theorem tag_yes : tagOk "yes" := ⟨by decide, by decide, by decide⟩
theorem tag_top : tagOk "top" := ⟨by decide, by decide, by decide⟩
theorem tag_fun : tagOk "fun" := ⟨by decide, by decide, by decide⟩
theorem tag_zz : tagOk "zz" := ⟨by decide, by decide, by decide⟩
end Z

set_option Elab.async false
set_option linter.all false
set_option maxRecDepth 100000
set_option maxHeartbeats 4000000
/-! T2f: the places below a place; trees as data. -/
namespace Z
open PySem PySem.Spec L2
theorem walk_shift (u : Tr) : ∀ p, u.walk p = (u.walk []).map fun f => (p ++ f.1, f.2) := by
  induction u with
  | nil => intro p; simp [Tr.walk]
  | node tag l r h1 h2 =>
    intro p
    simp only [Tr.walk, List.map_cons, List.map_append, List.append_nil, List.nil_append]
    rw [h1 (p ++ [false]), h2 (p ++ [true]), h1 [false], h2 [true]]
    simp [List.map_map, Function.comp_def]
theorem filter_below : ∀ (p : List Bool) (t : Tr) (pre : List Bool), t.at p → ((t.walk pre).map (·.1)).filter (fun q => decide (q.take (pre.length + p.length) = pre ++ p)) = ((t.sub p).walk (pre ++ p)).map (·.1)
  | [], t, pre, _ => by
    rw [Tr.sub_nil, List.append_nil]
    refine List.filter_eq_self.mpr fun q hq => ?_
    obtain ⟨e, he, rfl⟩ := List.mem_map.mp hq
    obtain ⟨r, hr⟩ := walk_pre t pre e he
    rw [hr]; simp
  | b :: p, .nil, pre, h => h.elim
  | b :: p, .node tag l r, pre, h => by
    have key : ∀ (c : Bool) (v : Tr), c ≠ b → ((v.walk (pre ++ [c])).map (·.1)).filter (fun q => decide (q.take (pre.length + (b :: p).length) = pre ++ b :: p)) = [] := fun c v hc => by
      refine List.filter_eq_nil_iff.mpr fun q hq => ?_
      obtain ⟨e, he, rfl⟩ := List.mem_map.mp hq
      obtain ⟨r, hr⟩ := walk_pre v _ e he
      rw [hr]
      intro hz
      have hz := of_decide_eq_true hz
      have := congrArg (fun l => l[pre.length]?) hz
      simp [List.getElem?_take, List.append_assoc] at this
      exact hc this
    have hd : decide (pre.take (pre.length + (b :: p).length) = pre ++ b :: p) = false := decide_eq_false fun z => by
      have := congrArg List.length z
      simp at this
    simp only [Tr.walk, List.map_cons, List.map_append, List.filter_cons, hd, List.filter_append]
    cases b with
    | false =>
      rw [key true r (by simp), List.append_nil]
      have ih := filter_below p l (pre ++ [false]) h
      simp only [List.length_append, List.length_cons, List.length_nil, List.append_assoc, List.cons_append, List.nil_append] at ih
      rw [show pre.length + (false :: p).length = pre.length + (0 + 1) + p.length by simp; omega]
      simpa [Tr.sub] using ih
    | true =>
      rw [key false l (by simp), List.nil_append]
      have ih := filter_below p r (pre ++ [true]) h
      simp only [List.length_append, List.length_cons, List.length_nil, List.append_assoc, List.cons_append, List.nil_append] at ih
      rw [show pre.length + (true :: p).length = pre.length + (0 + 1) + p.length by simp; omega]
      simpa [Tr.sub] using ih
theorem below {t : Tr} {p : List Bool} (h : t.at p) : ((t.walk []).map (·.1)).filter (fun q => decide (q.take p.length = p)) = ((t.sub p).walk []).map fun f => p ++ f.1 := by
  have := filter_below p t [] h
  simp only [List.length_nil, Nat.zero_add, List.nil_append] at this
  rw [this, walk_shift (t.sub p) p, List.map_map]; rfl
theorem sub_size : ∀ (p : List Bool) (t : Tr), (t.sub p).size ≤ t.size
  | [], t => by rw [Tr.sub_nil]; exact Nat.le_refl _
  | _ :: _, .nil => by simp [Tr.sub]
  | b :: p, .node tag l r => by
    have h1 := sub_size p l
    have h2 := sub_size p r
    simp only [Tr.sub, Tr.size]
    cases b <;> simp <;> omega
theorem sub_ok : ∀ (p : List Bool) (t : Tr), t.ok → (t.sub p).ok
  | [], t, h => by rw [Tr.sub_nil]; exact h
  | _ :: _, .nil, h => by simp only [Tr.sub]; exact h
  | b :: p, .node tag l r, h => by
    simp only [Tr.sub]
    cases b
    · exact sub_ok p l h.2.1
    · exact sub_ok p r h.2.2
theorem tree_okD : ∀ (t : Tr) (n : Nat), t.ok → t.size ≤ n → okD n t.pv
  | .nil, n, _, _ => by cases n <;> simp [Tr.pv, okD]
  | .node z l r, n, h, hs => by
    simp only [Tr.size] at hs
    obtain ⟨m, rfl⟩ : ∃ m, n = m + 1 := ⟨n - 1, by omega⟩
    have h1 := tree_okD l m h.2.1 (by omega)
    have h2 := tree_okD r m h.2.2 (by omega)
    show ∀ x ∈ [.str z, l.pv, r.pv], okD m x
    intro x hx
    simp at hx
    rcases hx with rfl | rfl | rfl
    · have ho : okZ z := ⟨Nat.le_trans h.1.2.1 (by decide), fun c hc => by have := h.1.2.2 c hc; omega⟩
      cases m <;> exact ho
    · exact h1
    · exact h2
theorem tree_cnt : ∀ (t : Tr), cnt t.pv ≤ 3 * t.size + 1
  | .nil => by simp [Tr.pv]
  | .node z l r => by
    have h1 := tree_cnt l
    have h2 := tree_cnt r
    simp [Tr.pv, Tr.size]
    omega
theorem okZ_pstr {p : List Bool} (h : p.length ≤ 100) : okZ (pstr p) := by
  refine ⟨by rw [pstr_len]; exact h, fun c hc => ?_⟩
  have : (pstr p).cps.toList = p.map bch := by unfold pstr; simp
  rw [this] at hc
  obtain ⟨b, _, rfl⟩ := List.mem_map.mp hc
  cases b <;> decide
theorem cnts_strs (ts : List Str) : cnts (ts.map .str) = ts.length := by
  induction ts with
  | nil => rfl
  | cons t ts ih => simp [ih]; omega
theorem r_strsT {ts : List Str} {s : S} (h : ∀ z ∈ ts, okZ z) (hl : ts.length ≤ 1000) : bRepr [.tup (ts.map .str)] s = some (.str (reprT (.tup (ts.map .str))), s) :=
  q_repr (n := 1) (fun x hx => by obtain ⟨z, hz, rfl⟩ := List.mem_map.mp hx; exact h z hz) (by decide) (by simp [cnts_strs]; omega)
theorem r_strsL {ts : List Str} {s : S} (h : ∀ z ∈ ts, okZ z) (hl : ts.length ≤ 1000) : bRepr [.lst (ts.map .str)] s = some (.str (reprT (.lst (ts.map .str))), s) :=
  q_repr (n := 1) (fun x hx => by obtain ⟨z, hz, rfl⟩ := List.mem_map.mp hx; exact h z hz) (by decide) (by simp [cnts_strs]; omega)
theorem r_tree2 {u : Tr} {s : S} (h : u.ok) (hs : u.size ≤ 45) : bRepr [.tup [u.pv, u.pv]] s = some (.str (reprT (.tup [u.pv, u.pv])), s) := by
  have hc := tree_cnt u
  refine q_repr (n := 46) (fun x hx => ?_) (by decide) (by simp; omega)
  simp at hx
  subst hx
  exact tree_okD u 45 h hs
theorem r_str2 {z : Str} {s : S} (h : okZ z) : bRepr [.tup [.str z, .str z]] s = some (.str (reprT (.tup [.str z, .str z])), s) := by
  refine q_repr (n := 1) (fun x hx => ?_) (by decide) (by simp)
  simp at hx
  subst hx
  exact h
end Z

set_option Elab.async false
set_option linter.all false
set_option maxRecDepth 100000
set_option maxHeartbeats 4000000
/-! T2g: whether any value is a tree. -/
namespace Z
open PySem PySem.Spec L2
noncomputable section
open Classical
def isTr (x : PV) : Prop := ∃ t : Tr, t.ok ∧ x = t.pv
def isTag (x : PV) : Prop := ∃ z, x = .str z ∧ tagOk z
theorem isTr_pv {t : Tr} (h : t.ok) : isTr t.pv := ⟨t, h, rfl⟩
theorem isTr_non : isTr .non := ⟨.nil, trivial, rfl⟩
theorem isTr_tup {a l r : PV} : isTr (.tup [a, l, r]) ↔ isTag a ∧ isTr l ∧ isTr r := by
  constructor
  · rintro ⟨t, h, e⟩
    cases t with
    | nil => cases e
    | node z l' r' =>
      simp only [Tr.pv, PV.tup.injEq, List.cons.injEq, and_true] at e
      obtain ⟨rfl, rfl, rfl⟩ := e
      exact ⟨⟨z, rfl, h.1⟩, ⟨l', h.2.1, rfl⟩, ⟨r', h.2.2, rfl⟩⟩
  · rintro ⟨⟨z, rfl, hz⟩, ⟨l', h1, rfl⟩, ⟨r', h2, rfl⟩⟩
    exact ⟨.node z l' r', ⟨hz, h1, h2⟩, rfl⟩
theorem isTr_tupn {xs : List PV} (h : xs.length ≠ 3) : ¬ isTr (.tup xs) := by
  rintro ⟨t, _, e⟩
  cases t with
  | nil => cases e
  | node z l' r' => simp only [Tr.pv, PV.tup.injEq] at e; rw [e] at h; exact h rfl
theorem isTr_bl {b : Bool} : ¬ isTr (.bl b) := by rintro ⟨t, _, e⟩; cases t <;> cases e
theorem isTr_int {b : Int} : ¬ isTr (.int b) := by rintro ⟨t, _, e⟩; cases t <;> cases e
theorem isTr_str {b : Str} : ¬ isTr (.str b) := by rintro ⟨t, _, e⟩; cases t <;> cases e
theorem isTr_lst {b : List PV} : ¬ isTr (.lst b) := by rintro ⟨t, _, e⟩; cases t <;> cases e
theorem isTr_dic {b : List (Key × PV)} : ¬ isTr (.dic b) := by rintro ⟨t, _, e⟩; cases t <;> cases e
theorem isTag_str {z : Str} : isTag (.str z) ↔ tagOk z := ⟨fun ⟨_, e, h⟩ => by cases e; exact h, fun h => ⟨z, rfl, h⟩⟩
theorem isTag_no {x : PV} (h : ∀ z, x ≠ .str z) : ¬ isTag x := fun ⟨z, e, _⟩ => h z e
/-- the kinds that data has -/
theorem okD_cases {n : Nat} {x : PV} (h : okD n x) : x = .non ∨ (∃ b, x = .bl b) ∨ (∃ i, x = .int i) ∨ (∃ z, x = .str z) ∨ (∃ xs, x = .tup xs ∧ ∃ m, n = m + 1 ∧ ∀ y ∈ xs, okD m y) ∨ (∃ xs, x = .lst xs ∧ ∃ m, n = m + 1 ∧ ∀ y ∈ xs, okD m y) ∨ (∃ kvs, x = .dic kvs) := by
  cases x with
  | non => exact .inl rfl
  | bl b => exact .inr (.inl ⟨b, rfl⟩)
  | int b => exact .inr (.inr (.inl ⟨b, rfl⟩))
  | str b => exact .inr (.inr (.inr (.inl ⟨b, rfl⟩)))
  | tup xs =>
    cases n with
    | zero => simp [okD] at h
    | succ m => exact .inr (.inr (.inr (.inr (.inl ⟨xs, rfl, m, rfl, h⟩))))
  | lst xs =>
    cases n with
    | zero => simp [okD] at h
    | succ m => exact .inr (.inr (.inr (.inr (.inr (.inl ⟨xs, rfl, m, rfl, h⟩)))))
  | dic kvs => exact .inr (.inr (.inr (.inr (.inr (.inr ⟨kvs, rfl⟩)))))
  | scr xs => cases n <;> simp [okD] at h
  | obj m => cases n <;> simp [okD] at h
  | wt xs => cases n <;> simp [okD] at h
@[simp] theorem q_is_bn {b : Bool} {s : S} : oIsN (.bl b) .non s = some (.bl false, s) := by unfold oIsN; rfl
@[simp] theorem q_is_ln {xs : List PV} {s : S} : oIsN (.lst xs) .non s = some (.bl false, s) := by unfold oIsN; rfl
@[simp] theorem q_is_dn {xs : List (Key × PV)} {s : S} : oIsN (.dic xs) .non s = some (.bl false, s) := by unfold oIsN; rfl
@[simp] theorem q_isnt_bb {b c : Bool} {s : S} : oIsNot (.bl b) (.bl c) s = some (.bl (!(b == c)), s) := by unfold oIsNot; rfl
theorem dis_ix {d : Deck} {k : Str} {R : S} {o : MO} (h : R.length + 2 < (d.st k (R ++ [o])).length) : (d.st k (R ++ [o]))[R.length + 2] = o := by
  have e : (d.st k (R ++ [o]))[R.length + 2]? = some o := by
    show (R ++ [o])[R.length]? = _
    simp
  rw [List.getElem?_eq_getElem h] at e
  exact Option.some.inj e
theorem dis_st {d : Deck} {k : Str} {R : S} {o o' : MO} : (d.st k (R ++ [o])).set (R.length + 2) o' = d.st k (R ++ [o']) := by
  have e : (R ++ [o]).set R.length o' = R ++ [o'] := by simp
  show _ :: _ :: (R ++ [o]).set R.length o' = _
  rw [e]; rfl
theorem len3 {zs : List PV} (h : zs.length = 3) : ∃ a l r, zs = [a, l, r] := by
  match zs, h with
  | [a, l, r], _ => exact ⟨a, l, r, rfl⟩
theorem len_cnts (xs : List PV) : xs.length ≤ cnts xs := by
  induction xs with
  | nil => simp
  | cons x xs ih => have := cnt_pos x; simp; omega
end
end Z

set_option Elab.async false
set_option linter.all false
set_option maxRecDepth 100000
set_option maxHeartbeats 4000000
/-! T2h: any value compared with a text. -/
namespace Z
open PySem PySem.Spec L2
theorem depths_le {n : Nat} : ∀ {xs : List PV}, (∀ x ∈ xs, x.depth ≤ n) → depths xs ≤ n
  | [], _ => by simp [depths]
  | x :: xs, h => by
    have a := h x (by simp)
    have b := depths_le (n := n) (xs := xs) fun y hy => h y (by simp [hy])
    simp only [depths]
    omega
theorem okD_deep : ∀ (n : Nat) (x : PV), okD n x → x.depth ≤ n := by
  intro n
  induction n with
  | zero =>
    intro x h
    rcases okD_cases h with rfl | ⟨c, rfl⟩ | ⟨c, rfl⟩ | ⟨z, rfl⟩ | ⟨xs, rfl, m, e, _⟩ | ⟨xs, rfl, m, e, _⟩ | ⟨kvs, rfl⟩
    all_goals first | (simp [PV.depth]; done) | (cases e; done)
  | succ n ih =>
    intro x h
    rcases okD_cases h with rfl | ⟨c, rfl⟩ | ⟨c, rfl⟩ | ⟨z, rfl⟩ | ⟨xs, rfl, m, e, hm⟩ | ⟨xs, rfl, m, e, hm⟩ | ⟨kvs, rfl⟩
    · simp [PV.depth]
    · simp [PV.depth]
    · simp [PV.depth]
    · simp [PV.depth]
    · cases e
      have := depths_le (n := n) fun x hx => ih x (hm x hx)
      simp only [PV.depth]; omega
    · cases e
      have := depths_le (n := n) fun x hx => ih x (hm x hx)
      simp only [PV.depth]; omega
    · simp [PV.depth]
theorem q_eq_any {n : Nat} {x : PV} {w : Str} {s : S} (h : okD n x) (hn : n ≤ 50) (hx : ∀ z, x ≠ .str z) : oEqD x (.str w) s = some (.bl false, s) := by
  have ht : top s x = x := okD_top h
  have ht2 : top s (.str w) = .str w := rfl
  rcases okD_cases h with rfl | ⟨c, rfl⟩ | ⟨c, rfl⟩ | ⟨z, rfl⟩ | ⟨xs, rfl, _⟩ | ⟨xs, rfl, _⟩ | ⟨kvs, rfl⟩
  · rfl
  · rfl
  · rfl
  · exact absurd rfl (hx z)
  · have hd := okD_deep _ _ h
    show (match oEqB (PV.tup xs) (.str w) s with | some b => some (PV.bl b, s) | none => none) = _
    have e : oEqB (PV.tup xs) (.str w) s = some false := by
      show (match top s (PV.tup xs), top s (.str w) with | .tup xs, .tup [] => some xs.isEmpty | .lst xs, .lst [] => some xs.isEmpty | x, y => if x.depth ≤ 60 then peq x y else none) = _
      rw [ht, ht2]
      show (if (PV.tup xs).depth ≤ 60 then peq (PV.tup xs) (.str w) else none) = _
      rw [if_pos (by omega)]
      simp [peq]
    rw [e]
  · have hd := okD_deep _ _ h
    show (match oEqB (PV.lst xs) (.str w) s with | some b => some (PV.bl b, s) | none => none) = _
    have e : oEqB (PV.lst xs) (.str w) s = some false := by
      show (match top s (PV.lst xs), top s (.str w) with | .tup xs, .tup [] => some xs.isEmpty | .lst xs, .lst [] => some xs.isEmpty | x, y => if x.depth ≤ 60 then peq x y else none) = _
      rw [ht, ht2]
      show (if (PV.lst xs).depth ≤ 60 then peq (PV.lst xs) (.str w) else none) = _
      rw [if_pos (by omega)]
      simp [peq]
    rw [e]
  · rfl
theorem q_eq_not {n : Nat} {x : PV} {w : Str} {s : S} (h : okD n x) (hn : n ≤ 50) (hx : x ≠ .str w) : oEqD x (.str w) s = some (.bl false, s) := by
  by_cases hs : ∃ z, x = .str z
  · obtain ⟨z, rfl⟩ := hs
    rw [q_eq_ss, decide_eq_false (fun e => hx (by rw [e]))]
  · exact q_eq_any h hn fun z e => hs ⟨z, e⟩
theorem ne_of_eq {x y : PV} {s : S} {b : Bool} (h : oEqD x y s = some (.bl b, s)) : oNeD x y s = some (.bl (!b), s) := by
  unfold oEqD at h
  unfold oNeD
  split at h
  · rename_i hd
    rw [if_pos hd]
    cases h; rfl
  · rename_i hd
    rw [if_neg hd]
    unfold oEq at h
    unfold oNe
    cases e : oEqB x y s with
    | none => rw [e] at h; cases h
    | some c => rw [e] at h; cases h; rfl
theorem isi_tup_ok {n : Nat} {x : PV} {s : S} (h : okD n x) (hx : ∀ xs, x ≠ .tup xs) : uIsi .tuple x s = some (.bl false, s) := by
  rcases okD_cases h with rfl | ⟨c, rfl⟩ | ⟨c, rfl⟩ | ⟨z, rfl⟩ | ⟨xs, rfl, _⟩ | ⟨xs, rfl, _⟩ | ⟨kvs, rfl⟩
  case inr.inr.inr.inr.inl => exact absurd rfl (hx xs)
  all_goals simp
theorem isi_str_ok {n : Nat} {x : PV} {s : S} (h : okD n x) (hx : ∀ z, x ≠ .str z) : uIsi .str x s = some (.bl false, s) := by
  rcases okD_cases h with rfl | ⟨c, rfl⟩ | ⟨c, rfl⟩ | ⟨z, rfl⟩ | ⟨xs, rfl, _⟩ | ⟨xs, rfl, _⟩ | ⟨kvs, rfl⟩
  case inr.inr.inr.inl => exact absurd rfl (hx z)
  all_goals simp
theorem bool_of (P : Prop) : ∃ b : Bool, b = true ↔ P := by
  by_cases h : P
  · exact ⟨true, by simp [h]⟩
  · exact ⟨false, by simp [h]⟩
end Z

set_option Elab.async false
set_option linter.all false
set_option maxRecDepth 100000
set_option maxHeartbeats 4000000
/-! T2i: enumerate over a tuple; a list's item taken out at an index; sums of lists. -/
namespace Z
open PySem PySem.Spec L2
def enCk (s : S) (v : PV) : Option (List PV × Ck) :=
  match v with
  | .tup xs => some (xs, [])
  | v => lsCk s v
@[simp] theorem enCk_t {s : S} {xs : List PV} : enCk s (.tup xs) = some (xs, []) := rfl
section
variable {s : S} {env : En} {Q : PV → S → Prop} {E : Str → PV → S → Prop}
@[simp ↓] theorem w_ieng {n : AM} {Q : List PV × Ck → S → Prop} : Pq (iEnG n env s) Q E = Pq (n env s) (fun vs s1 => onL1 vs fun v => onP (enCk s1 v) fun p => Q (nums p.1, p.2) s1) E := by
  simp only [iEnG, w_bind]
  (try rw [w_bind]); refine pq_in fun vs s1 => ?_
  unfold onL1
  cases vs with
  | nil => simp
  | cons v r => cases r with
    | cons y r => cases v <;> simp
    | nil =>
      have e : ∀ v, (∀ xs, v ≠ .tup xs) → Pq (liftI ((lsCk s1 v).map fun p => (nums p.1, p.2)) s1) Q E = onP (lsCk s1 v) fun p => Q (nums p.1, p.2) s1 := fun v _ => by
        generalize lsCk s1 v = o
        cases o <;> exact pqE Iff.rfl
      cases v with
      | tup xs => exact pqE Iff.rfl
      | _ => exact e _ (by intro xs; simp)
@[simp ↓] theorem g_wt {u : GMs} {xs : List PV} : mTup u (.wt xs) env s = u xs env s := by unfold mTup; rfl
theorem popAt_p {n i : Nat} {xs : List PV} {y : PV} (h : stL s n = some xs) (hy : xs[i]? = some y) (hi : i < 1000) (q : Q y (s.set n (.lst (xs.eraseIdx i)))) : Pq (lift (mPopAt (.obj n) [.int (i : Int)] s)) Q E := by
  have hl := (List.getElem?_eq_some_iff.mp hy).1
  have e : mPopAt (.obj n) [.int (i : Int)] s = some (y, s.set n (.lst (xs.eraseIdx i))) := by
    have c4 : -(2 ^ 63) ≤ (i : Int) ∧ (i : Int) < 2 ^ 63 := by omega
    have e1 : seqIndex? (i : Int) xs.length = some i := by
      unfold seqIndex?
      have c1 : ¬ ((i : Int) < 0) := by omega
      have c2 : (i : Int) < (xs.length : Int) := by omega
      have c3 : (0 : Int) ≤ (i : Int) := by omega
      simp [c1, c2, c3]
    unfold mPopAt
    rw [mlst_obj, h]
    simp only [Option.map_some]
    rw [if_pos c4]
    simp only [e1, hy]
  rw [e]
  exact ⟨q⟩
theorem q_add_lo {mu : Bool} {xs : List PV} {n : Nat} : oAdd mu (.lst xs) (.obj n) s = (stL s n).bind fun ys => newL mu (xs ++ ys) s := by
  show (match lsOf s (.lst xs), lsOf s (.obj n) with | some xs, some ys => newL mu (xs ++ ys) s | _, _ => none) = _
  rw [lsOf_obj, show lsOf s (.lst xs) = some xs by unfold lsOf; rfl]
  cases stL s n <;> rfl
theorem q_add_ol {mu : Bool} {ys : List PV} {n : Nat} : oAdd mu (.obj n) (.lst ys) s = (stL s n).bind fun xs => newL mu (xs ++ ys) s := by
  show (match lsOf s (.obj n), lsOf s (.lst ys) with | some xs, some ys => newL mu (xs ++ ys) s | _, _ => none) = _
  rw [lsOf_obj, show lsOf s (.lst ys) = some ys by unfold lsOf; rfl]
  cases stL s n <;> rfl
theorem stL_ext {R : S} {i : Nat} {xs : List PV} (h : stL R i = some xs) (J : S) : stL (R ++ J) i = some xs := by
  unfold stL at h ⊢
  cases e : R[i]? with
  | none => rw [e] at h; cases h
  | some o => rw [List.getElem?_append_left (List.getElem?_eq_some_iff.mp e).1, e]; rw [e] at h; exact h
theorem nums_get {xs : List PV} {i : Nat} {x : PV} (h : (nums xs)[i]? = some x) : ∃ y, xs[i]? = some y ∧ x = .wt [.int (i : Nat), y] := by
  unfold nums at h
  rw [List.getElem?_mapIdx] at h
  cases e : xs[i]? with
  | none => rw [e] at h; cases h
  | some y => rw [e] at h; exact ⟨y, rfl, (Option.some.inj h).symm⟩
theorem nums_len {xs : List PV} : (nums xs).length = xs.length := by simp [nums]
end
end Z

set_option Elab.async false
set_option linter.all false
set_option maxRecDepth 100000
set_option maxHeartbeats 4000000
/-! T2j: comprehensions over two, dict comprehensions, counted keys. -/
namespace Z
open PySem PySem.Spec L2
section
variable {s : S} {env : En} {Q : PV → S → Prop} {E : Str → PV → S → Prop}
@[simp ↓] theorem w_lc2 {mu : Bool} {it it1 : IM} {t t1 : GM} {ts ts1 : TM} {m : EM} {vs vs1 : List Nat} {Q : PV → S → Prop} : Pq (eLc2 mu it t ts it1 t1 ts1 m vs vs1 env s) Q E = Pq (it env s) (fun p s1 => p.1.length ≤ 10000 ∧ Pq (lcL2 p.2 t ts it1 t1 ts1 m vs1 (wipeE env vs) p.1 s1) (fun ys s2 => Pq (lift (newL mu ys s2)) Q E) E) E := by
  simp only [eLc2, w_bind]
  (try rw [w_bind]); refine pq_in fun p s1 => ?_
  split
  · rename_i h; simp only [h, true_and, w_bind]
  · rename_i h; simp [h]
theorem p_lc2map {it1 : IM} {t t1 : GM} {m : EM} {vs1 : List Nat} {ysf : PV → List PV} {g : PV → PV} : ∀ {xs : List PV} {Q : List PV → S → Prop}
    (h : ∀ x ∈ xs, onE (t x env s) fun e1 => (∀ Q' : List PV × Ck → S → Prop, Q' (ysf x, []) s → Pq (it1 e1 s) Q' noE) ∧ (ysf x).length ≤ 1000 ∧ ∀ y ∈ ysf x, onE (t1 y (wipeE e1 vs1) s) fun e2 => ∀ Q' : PV → S → Prop, Q' (g y) s → Pq (m e2 s) Q' noE)
    (q : Q (xs.flatMap fun x => (ysf x).map g) s), Pq (lcL2 [] t tYesM it1 t1 tYesM m vs1 env xs s) Q E
  | [], Q, h, q => by
    rw [lcL2, if_pos ck0]
    exact ⟨q⟩
  | x :: xs, Q, h, q => by
    rw [lcL2, if_pos ck0]
    have hx := h x (by simp)
    cases e : t x env s with
    | none => rw [e] at hx; exact hx.elim
    | some e1 =>
      rw [e] at hx
      obtain ⟨h1, h2, h3⟩ : (∀ Q' : List PV × Ck → S → Prop, Q' (ysf x, []) s → Pq (it1 e1 s) Q' noE) ∧ (ysf x).length ≤ 1000 ∧ ∀ y ∈ ysf x, onE (t1 y (wipeE e1 vs1) s) fun e2 => ∀ Q' : PV → S → Prop, Q' (g y) s → Pq (m e2 s) Q' noE := hx
      show Pq (Rs.bind _ _) _ _
      rw [w_bind, post_noX, w_tyes]
      show Pq (if true = true then _ else _) _ _
      rw [if_pos rfl, w_bind, post_noX]
      refine Pq.mono (h1 (fun p s2 => p = (ysf x, []) ∧ s2 = s) ⟨rfl, rfl⟩) (fun p s2 hh => ?_) fun _ _ _ z => z.elim
      rw [hh.1, hh.2, if_pos h2, w_bind]
      refine p_lcmap (g := g) h3 ?_
      rw [w_bind]
      refine p_lc2map (fun y hy => h y (by simp [hy])) ?_
      exact ⟨by rw [List.flatMap_cons] at q; exact q⟩
@[simp ↓] theorem w_dc {it : IM} {t : GM} {ts : TM} {mk mv : EM} {vs : List Nat} {Q : PV → S → Prop} : Pq (eDc false it t ts mk mv vs env s) Q E = Pq (it env s) (fun p s1 => p.1.length ≤ 16000000 ∧ Pq (dcL p.2 t ts mk mv (wipeE env vs) p.1 [] s1) (fun kvs s2 => Q (.dic kvs) s2) E) E := by
  simp only [eDc, w_bind]
  (try rw [w_bind]); refine pq_in fun p s1 => ?_
  split
  · rename_i h
    simp only [h, true_and, w_bind]
    refine pq_in fun kvs s2 => ?_
    exact w_ok
  · rename_i h; simp [h]
/-- the keys put one after the other -/
def dk (v : PV) (acc : List (Key × PV)) (zs : List Str) : List (Key × PV) := zs.foldl (fun acc z => putP acc (.inr z) v) acc
theorem p_dcmap {t : GM} {mk mv : EM} {kf : PV → Str} {v : PV} : ∀ {xs : List PV} {acc : List (Key × PV)} {Q : List (Key × PV) → S → Prop}
    (h : ∀ x ∈ xs, onE (t x env s) fun e => (∀ Q' : PV → S → Prop, Q' (.str (kf x)) s → Pq (mk e s) Q' noE) ∧ ∀ Q' : PV → S → Prop, Q' v s → Pq (mv e s) Q' noE)
    (q : Q (dk v acc (xs.map kf)) s), Pq (dcL [] t tYesM mk mv env xs acc s) Q E
  | [], acc, Q, h, q => by
    rw [dcL, if_pos ck0]
    exact ⟨q⟩
  | x :: xs, acc, Q, h, q => by
    rw [dcL, if_pos ck0]
    have hx := h x (by simp)
    cases e : t x env s with
    | none => rw [e] at hx; exact hx.elim
    | some e1 =>
      rw [e] at hx
      obtain ⟨h1, h2⟩ : (∀ Q' : PV → S → Prop, Q' (.str (kf x)) s → Pq (mk e1 s) Q' noE) ∧ ∀ Q' : PV → S → Prop, Q' v s → Pq (mv e1 s) Q' noE := hx
      show Pq (Rs.bind _ _) _ _
      rw [w_bind, post_noX, w_tyes]
      show Pq (if true = true then _ else _) _ _
      rw [if_pos rfl, w_bind, post_noX]
      refine Pq.mono (h1 (fun y s2 => y = .str (kf x) ∧ s2 = s) ⟨rfl, rfl⟩) (fun y s2 hh => ?_) fun _ _ _ z => z.elim
      rw [hh.1, hh.2, w_bind, post_noX]
      refine Pq.mono (h2 (fun y s3 => y = v ∧ s3 = s) ⟨rfl, rfl⟩) (fun y s3 hh => ?_) fun _ _ _ z => z.elim
      rw [hh.1, hh.2, kP_s]
      exact p_dcmap (fun y hy => h y (by simp [hy])) q
theorem putP_keys {kvs : List (Key × PV)} {k : Key} {v : PV} : (putP kvs k v).map (·.1) = if k ∈ kvs.map (·.1) then kvs.map (·.1) else kvs.map (·.1) ++ [k] := by
  by_cases h : k ∈ kvs.map (·.1)
  · rw [if_pos h]
    unfold putP
    rw [if_pos (by rw [List.any_eq_true]; obtain ⟨kv, h1, h2⟩ := List.mem_map.mp h; exact ⟨kv, h1, decide_eq_true h2⟩), List.map_map]
    refine List.map_congr_left fun kv _ => ?_
    show (if kv.1 = k then (kv.1, v) else kv).1 = kv.1
    split <;> rfl
  · rw [if_neg h, put_new h, List.map_append]
    rfl
theorem dk_keys {v : PV} : ∀ {zs : List Str} {acc : List (Key × PV)}, (dk v acc zs).length ≤ acc.length + zs.length ∧ ((dk v acc zs).length = acc.length + zs.length ↔ zs.Nodup ∧ ∀ z ∈ zs, Sum.inr z ∉ acc.map (·.1)) ∧ ∀ k : Key, k ∈ (dk v acc zs).map (·.1) ↔ k ∈ acc.map (·.1) ∨ ∃ z ∈ zs, k = .inr z
  | [], acc => by simp [dk]
  | z :: zs, acc => by
    obtain ⟨i1, i2, i3⟩ := dk_keys (v := v) (zs := zs) (acc := putP acc (.inr z) v)
    have e : dk v acc (z :: zs) = dk v (putP acc (.inr z) v) zs := rfl
    have hk := putP_keys (kvs := acc) (k := .inr z) (v := v)
    have hl := congrArg List.length hk
    rw [List.length_map] at hl
    rw [e]
    by_cases h : (Sum.inr z : Key) ∈ acc.map (·.1)
    · rw [if_pos h] at hk hl
      rw [List.length_map] at hl
      refine ⟨by simp; omega, ?_, fun k => ?_⟩
      · constructor
        · intro q; simp at q; omega
        · intro q; exact absurd h (q.2 z (by simp))
      · rw [i3 k, hk]
        constructor
        · rintro (h1 | ⟨y, h1, h2⟩)
          · exact .inl h1
          · exact .inr ⟨y, by simp [h1], h2⟩
        · rintro (h1 | ⟨y, h1, h2⟩)
          · exact .inl h1
          · rcases List.mem_cons.mp h1 with rfl | h1
            · exact .inl (by rw [h2]; exact h)
            · exact .inr ⟨y, h1, h2⟩
    · rw [if_neg h] at hk hl
      rw [List.length_append, List.length_map] at hl
      have hl : (putP acc (.inr z) v).length = acc.length + 1 := hl
      refine ⟨by simp; omega, ?_, fun k => ?_⟩
      · rw [show (acc.length + (z :: zs).length) = (putP acc (.inr z) v).length + zs.length by simp; omega, i2, List.nodup_cons, hk]
        constructor
        · rintro ⟨h1, h2⟩
          refine ⟨⟨fun hz => h2 z hz (by simp), h1⟩, fun y hy => ?_⟩
          rcases List.mem_cons.mp hy with rfl | hy
          · exact h
          · exact fun hm => h2 y hy (by simp [hm])
        · rintro ⟨⟨h1, h2⟩, h3⟩
          refine ⟨h2, fun y hy hm => ?_⟩
          rcases List.mem_append.mp hm with hm | hm
          · exact h3 y (by simp [hy]) hm
          · have := List.mem_singleton.mp hm
            cases this
            exact h1 hy
      · rw [i3 k, hk, List.mem_append, List.mem_singleton]
        constructor
        · rintro ((h1 | h1) | ⟨y, h1, h2⟩)
          · exact .inl h1
          · exact .inr ⟨z, by simp, h1⟩
          · exact .inr ⟨y, by simp [h1], h2⟩
        · rintro (h1 | ⟨y, h1, h2⟩)
          · exact .inl (.inl h1)
          · rcases List.mem_cons.mp h1 with rfl | h1
            · exact .inl (.inr h2)
            · exact .inr ⟨y, h1, h2⟩
theorem val_some {kvs : List (Key × PV)} {k : Key} : (valP kvs k).isSome = true ↔ k ∈ kvs.map (·.1) := by
  unfold valP
  rw [Option.isSome_map, List.find?_isSome]
  simp
theorem q_lenD {kvs : List (Key × PV)} {s : S} : bLenD [.dic kvs] s = some (.int kvs.length, s) := by unfold bLenD; rfl
theorem q_dinD {kvs : List (Key × PV)} {z : Str} {s : S} : oDIn (.str z) (.dic kvs) s = some (.bl (valP kvs (.inr z)).isSome, s) := by unfold oDIn; rfl
theorem once_iff : ∀ (ks : List Key) (acc : List Key), (once acc ks).length = acc.length + ks.length ↔ ks.Nodup ∧ ∀ k ∈ ks, k ∉ acc
  | [], acc => by simp [once]
  | k :: ks, acc => by
    unfold once
    by_cases h : k ∈ acc
    · rw [if_pos h]
      have := once_len acc ks
      constructor
      · intro q; simp at q; omega
      · intro q; exact absurd h (q.2 k (by simp))
    · rw [if_neg h, show acc.length + (k :: ks).length = (acc ++ [k]).length + ks.length by simp; omega, once_iff ks (acc ++ [k]), List.nodup_cons]
      constructor
      · rintro ⟨h1, h2⟩
        refine ⟨⟨fun hk => h2 k hk (by simp), h1⟩, fun y hy => ?_⟩
        rcases List.mem_cons.mp hy with rfl | hy
        · exact h
        · exact fun hm => h2 y hy (by simp [hm])
      · rintro ⟨⟨h1, h2⟩, h3⟩
        refine ⟨h2, fun y hy hm => ?_⟩
        rcases List.mem_append.mp hm with hm | hm
        · exact h3 y (by simp [hy]) hm
        · rw [List.mem_singleton.mp hm] at hy; exact h1 hy
theorem nodup_inr {zs : List Str} : (zs.map (Sum.inr : Str → Key)).Nodup ↔ zs.Nodup := by
  induction zs with
  | nil => simp
  | cons z zs ih => rw [List.map_cons, List.nodup_cons, List.nodup_cons, ih]; simp
theorem q_lenset_any {zs : List Str} (hl : zs.length < 4000) : ∃ m : Nat, (m = zs.length ↔ zs.Nodup) ∧ ∀ s : S, uLenSet (.lst (zs.map .str)) s = some (.int m, s) := by
  have h1 := once_iff (zs.map Sum.inr) []
  rw [nodup_inr, List.length_nil, List.length_map, Nat.zero_add] at h1
  refine ⟨(once [] (zs.map Sum.inr)).length, by rw [h1]; simp, fun s => ?_⟩
  unfold uLenSet
  rw [sq_l]
  show (if (zs.map PV.str).length < 4000 then _ else none) = _
  rw [if_pos (by rw [List.length_map]; exact hl), keysOf_strs]
  rfl
end
end Z

set_option Elab.async false
set_option linter.all false
set_option maxRecDepth 100000
set_option maxHeartbeats 4000000
/-! T2k: the text of repr inside a tuple. -/
namespace Z
open PySem PySem.Spec L2
def lowZ (z : Str) : Prop := ∀ c ∈ z.cps.toList, c < 16 ^ 8
theorem low_char (c : Char) : c.toNat < 16 ^ 8 := c.val.toBitVec.isLt
theorem low_lit (z : String) : lowZ (Str.ofString z) := fun c hc => by
  rw [PyProof.Rows.signs_ofString] at hc
  obtain ⟨d, _, rfl⟩ := List.mem_map.mp hc
  exact low_char d
theorem low_app {a b : Str} (ha : lowZ a) (hb : lowZ b) : lowZ (a ++ b) := fun c hc => (PyProof.Rows.mem_cps_append.mp hc).elim (ha c) (hb c)
theorem low_join {sep : Str} {ts : List Str} (hs : lowZ sep) (h : ∀ t ∈ ts, lowZ t) : lowZ (Str.join sep ts) := fun c hc => by
  rcases (PyProof.Rows.mem_join sep c ts).mp hc with ⟨t, ht, hc⟩ | ⟨_, hc⟩
  · exact h t ht c hc
  · exact hs c hc
theorem low_reprChar {q c : Nat} (hc : c < 16 ^ 8) : ∀ x ∈ Builtin.Str.reprChar q c, x < 16 ^ 8 := by
  have hh : ∀ w : Nat, ∀ x ∈ (List.replicate (w - ((Nat.toDigits 16 c).map Char.toNat).length) 48 ++ (Nat.toDigits 16 c).map Char.toNat), x < 16 ^ 8 := fun w x hx => by
    rcases List.mem_append.mp hx with hx | hx
    · rw [(List.mem_replicate.mp hx).2]; decide
    · obtain ⟨d, _, rfl⟩ := List.mem_map.mp hx
      exact low_char d
  have h2 := hh 2
  have h4 := hh 4
  have h8 := hh 8
  intro x hx
  unfold Builtin.Str.reprChar at hx
  dsimp only at hx
  have two : ∀ a b : Nat, a < 16 ^ 8 → b < 16 ^ 8 → x ∈ [a, b] → x < 16 ^ 8 := fun a b ha hb hx => by
    rcases List.mem_cons.mp hx with rfl | hx
    · exact ha
    · rw [List.mem_singleton.mp hx]; exact hb
  split at hx
  · exact two _ _ (by decide) hc hx
  split at hx
  · exact two _ _ (by decide) (by decide) hx
  split at hx
  · exact two _ _ (by decide) (by decide) hx
  split at hx
  · exact two _ _ (by decide) (by decide) hx
  split at hx
  · rw [List.mem_singleton.mp hx]; exact hc
  split at hx
  · exact (List.mem_append.mp hx).elim (two _ _ (by decide) (by decide)) (h2 x)
  split at hx
  · exact (List.mem_append.mp hx).elim (two _ _ (by decide) (by decide)) (h4 x)
  · exact (List.mem_append.mp hx).elim (two _ _ (by decide) (by decide)) (h8 x)
theorem low_fold (q : Nat) : ∀ (l : List Nat) (acc : Array Nat), (∀ c ∈ l, c < 16 ^ 8) → (∀ c ∈ acc.toList, c < 16 ^ 8) → ∀ c ∈ (l.foldl (fun out c => out ++ (Builtin.Str.reprChar q c).toArray) acc).toList, c < 16 ^ 8
  | [], acc, _, h2 => h2
  | c :: r, acc, h1, h2 => by
    rw [List.foldl_cons]
    refine low_fold q r _ (fun d hd => h1 d (List.mem_cons_of_mem _ hd)) fun x hx => ?_
    rw [Array.toList_append, List.mem_append] at hx
    exact hx.elim (h2 x) (low_reprChar (h1 c (List.mem_cons_self ..)) x)
theorem low_reprText {z : Str} (h : lowZ z) : lowZ (reprText z) := fun c hc => by
  have hq : reprQuote z < 16 ^ 8 := by unfold reprQuote; split <;> decide
  unfold reprText at hc
  rw [Array.toList_push, List.mem_append] at hc
  rcases hc with hc | hc
  · rw [← Array.foldl_toList] at hc
    refine low_fold _ _ _ (fun d hd => h d hd) (fun d hd => ?_) c hc
    rw [show (#[reprQuote z] : Array Nat).toList = [reprQuote z] from rfl] at hd
    rw [List.mem_singleton.mp hd]; exact hq
  · rw [List.mem_singleton.mp hc]; exact hq
theorem low_okZ {z : Str} (h : okZ z) : lowZ z := fun c hc => Nat.lt_of_lt_of_le (h.2 c hc) (by decide)
theorem low_key {k : Key} (h : okK k) : lowZ (keyD k).shown := by
  cases k with
  | inl i => show lowZ (PyData.int i).shown; rw [PyData.shown_int]; exact low_lit _
  | inr z => show lowZ (PyData.str z).shown; rw [PyData.shown_str]; exact low_reprText (low_okZ h)
theorem lowAll : ∀ (xs : List PV), (∀ x ∈ xs, ∃ d, toD x = some d ∧ lowZ d.shown) → ∃ ds, toDs xs = some ds ∧ ∀ t ∈ PyData.shownAll ds, lowZ t
  | [], _ => ⟨[], by unfold toDs; rfl, by simp [PyData.shownAll]⟩
  | x :: xs, h => by
    obtain ⟨d, e, h1⟩ := h x (by simp)
    obtain ⟨ds, e', g1⟩ := lowAll xs fun y hy => h y (by simp [hy])
    refine ⟨d :: ds, by unfold toDs; rw [e, e'], fun t ht => ?_⟩
    rw [PyData.shownAll_cons] at ht
    rcases List.mem_cons.mp ht with rfl | ht
    · exact h1
    · exact g1 t ht
theorem lowKv : ∀ (xs : List (Key × PV)), (∀ kv ∈ xs, okK kv.1 ∧ ∃ d, toD kv.2 = some d ∧ lowZ d.shown) → ∃ ds, toDk xs = some ds ∧ ∀ t ∈ PyData.shownKv ds, lowZ t
  | [], _ => ⟨[], by unfold toDk; rfl, by simp [PyData.shownKv]⟩
  | (k, x) :: xs, h => by
    obtain ⟨hk, d, e, h1⟩ := h (k, x) (by simp)
    obtain ⟨ds, e', g1⟩ := lowKv xs fun y hy => h y (by simp [hy])
    have e : toD x = some d := e
    refine ⟨(keyD k, d) :: ds, by unfold toDk; rw [e, e'], fun t ht => ?_⟩
    rw [PyData.shownKv_cons] at ht
    rcases List.mem_cons.mp ht with rfl | ht
    · exact low_app (low_app (low_key hk) (low_lit _)) h1
    · exact g1 t ht
theorem low_shown : ∀ (n : Nat) (x : PV), okD n x → ∃ d, toD x = some d ∧ lowZ d.shown := by
  have leaf : ∀ (n : Nat) (x : PV), okD n x → (∀ xs, x ≠ .tup xs) → (∀ xs, x ≠ .lst xs) → (∀ xs, x ≠ .dic xs) → ∃ d, toD x = some d ∧ lowZ d.shown := by
    intro n x h h1 h2 h3
    cases x with
    | non => exact ⟨.none, by unfold toD; rfl, by rw [PyData.shown_none]; exact low_lit _⟩
    | bl b => exact ⟨.bool b, by unfold toD; rfl, by rw [PyData.shown_bool]; split <;> exact low_lit _⟩
    | int i => exact ⟨.int i, by unfold toD; rfl, by rw [PyData.shown_int]; exact low_lit _⟩
    | str z => exact ⟨.str z, by unfold toD; rfl, by rw [PyData.shown_str]; exact low_reprText (low_okZ (by unfold okD at h; exact h))⟩
    | tup xs => exact absurd rfl (h1 xs)
    | lst xs => exact absurd rfl (h2 xs)
    | scr xs => unfold okD at h; exact h.elim
    | dic kvs => exact absurd rfl (h3 kvs)
    | obj k => unfold okD at h; exact h.elim
    | wt k => unfold okD at h; exact h.elim
  intro n
  induction n with
  | zero => exact fun x h => leaf 0 x h (fun xs e => by subst e; unfold okD at h; exact h) (fun xs e => by subst e; unfold okD at h; exact h) fun xs e => by subst e; unfold okD at h; exact h
  | succ n ih =>
    intro x h
    by_cases h1 : ∃ xs, x = .tup xs
    · obtain ⟨xs, rfl⟩ := h1
      obtain ⟨ds, e, g1⟩ := lowAll xs fun y hy => ih y (h y hy)
      refine ⟨.tuple ds, by unfold toD; rw [e]; rfl, ?_⟩
      rw [PyData.shown_tuple]
      exact low_app (low_app (low_lit _) (low_join (low_lit _) g1)) (low_lit _)
    · by_cases h2 : ∃ xs, x = .lst xs
      · obtain ⟨xs, rfl⟩ := h2
        obtain ⟨ds, e, g1⟩ := lowAll xs fun y hy => ih y (h y hy)
        refine ⟨.list ds, by unfold toD; rw [e]; rfl, ?_⟩
        rw [PyData.shown_list]
        exact low_app (low_app (low_lit _) (low_join (low_lit _) g1)) (low_lit _)
      · by_cases h3 : ∃ xs, x = .dic xs
        · obtain ⟨xs, rfl⟩ := h3
          obtain ⟨ds, e, g1⟩ := lowKv xs fun y hy => ⟨(h y hy).1, ih y.2 (h y hy).2⟩
          refine ⟨.dict ds, by unfold toD; rw [e]; rfl, ?_⟩
          rw [PyData.shown_dict]
          exact low_app (low_app (low_lit _) (low_join (low_lit _) g1)) (low_lit _)
        · exact leaf (n + 1) x h (fun xs e => h1 ⟨xs, e⟩) (fun xs e => h2 ⟨xs, e⟩) fun xs e => h3 ⟨xs, e⟩
/-- the text of repr: short and readable -/
theorem rt_ok {n : Nat} {x : PV} (h : okD n x) : lowZ (reprT x) ∧ (reprT x).length + 50 ≤ 1100 * cnt x := by
  obtain ⟨d, e, h1⟩ := low_shown n x h
  obtain ⟨d', e', _, _, h3⟩ := told n x h
  rw [e] at e'; cases e'
  unfold reprT
  rw [e]
  exact ⟨h1, h3⟩
/-- two bools and a text, told -/
theorem q_repr_bbz {b c : Bool} {z : Str} {s : S} (h : lowZ z) (hl : z.length ≤ 1500000) : bRepr [.tup [.bl b, .bl c, .str z]] s = some (.str (reprT (.tup [.bl b, .bl c, .str z])), s) := by
  have e : toD (.tup [.bl b, .bl c, .str z]) = some (.tuple [.bool b, .bool c, .str z]) := by
    simp [toD, toDs]
  have et : top s (.tup [.bl b, .bl c, .str z]) = .tup [.bl b, .bl c, .str z] := rfl
  unfold bRepr
  simp only [et, e]
  unfold shows
  have h0 := PySem.StrLaws.reprText_len z h
  have hb : ∀ b : Bool, (PyData.bool b).shown.length ≤ 5 := fun b => by cases b <;> simp [PyData.shown] <;> decide
  have hlen : (PyData.tuple [.bool b, .bool c, .str z]).shown.length ≤ 16000000 := by
    have := tupleText_le (PyData.shownAll [.bool b, .bool c, .str z])
    have e2 : (PyData.tuple [.bool b, .bool c, .str z]).shown = tupleText (PyData.shownAll [.bool b, .bool c, .str z]) := by simp only [PyData.shown]
    rw [e2]
    have b1 := hb b
    have b2 := hb c
    have e3 : (PyData.str z).shown = reprText z := PyData.shown_str z
    simp only [PyData.shownAll_cons, PyData.shownAll_nil, List.map_cons, List.map_nil, List.sum_cons, List.sum_nil, e3] at this ⊢
    omega
  rw [if_pos ⟨rfl, by simp [PyData.depth, PyData.depthAll], hlen⟩]
  unfold reprT
  rw [e]; rfl
end Z

set_option Elab.async false
set_option linter.all false
set_option maxRecDepth 100000
set_option maxHeartbeats 4000000
/-! T2u: repr of what can be told, by depth and length; raise, try in Q-style; list(d). -/
namespace Z
open PySem PySem.Spec L2
/-- it can be told: a depth, a length -/
structure Shw (n L : Nat) (x : PV) : Prop where
  get : ∃ d, toD x = some d ∧ d.showable = true ∧ d.depth ≤ n ∧ d.shown.length ≤ L ∧ lowZ d.shown
section
variable {n L m M : Nat} {x : PV} {xs : List PV} {s : S}
theorem Shw.up (h : Shw n L x) (a : n ≤ m) (b : L ≤ M) : Shw m M x := by
  obtain ⟨d, e, h1, h2, h3, h4⟩ := h.get
  exact ⟨d, e, h1, by omega, by omega, h4⟩
theorem Shw.of (h : okD n x) : Shw (n + 1) (1100 * cnt x) x := by
  obtain ⟨d, e, h1⟩ := low_shown n x h
  obtain ⟨d', e', g1, g2, g3⟩ := told n x h
  rw [e] at e'; cases e'
  exact ⟨d, e, g1, g2, by omega, h1⟩
theorem Shw.str {z : Str} (h : lowZ z) (hl : z.length ≤ m) : Shw 1 (10 * m + 2) (.str z) := by
  refine ⟨.str z, by unfold toD; rfl, rfl, by simp [PyData.depth], ?_, ?_⟩
  · have := PySem.StrLaws.reprText_len z h
    rw [PyData.shown_str]
    omega
  · rw [PyData.shown_str]; exact low_reprText h
theorem shwAll : ∀ {xs : List PV}, (∀ x ∈ xs, Shw n L x) → ∃ ds, toDs xs = some ds ∧ ds.length = xs.length ∧ PyData.showableAll ds = true ∧ PyData.depthAll ds ≤ n ∧ ((PyData.shownAll ds).map fun t : Str => t.length + 2).sum ≤ xs.length * (L + 2) ∧ ∀ t ∈ PyData.shownAll ds, lowZ t
  | [], _ => ⟨[], by unfold toDs; rfl, rfl, rfl, by simp [PyData.depthAll], by simp [PyData.shownAll], by simp [PyData.shownAll]⟩
  | x :: xs, h => by
    obtain ⟨d, e, h1, h2, h3, h4⟩ := (h x (by simp)).get
    obtain ⟨ds, e', g0, g1, g2, g3, g4⟩ := shwAll (xs := xs) fun y hy => h y (by simp [hy])
    refine ⟨d :: ds, by unfold toDs; rw [e, e'], by simp [g0], by simp only [PyData.showableAll, h1, g1, Bool.and_self], by simp only [PyData.depthAll]; omega, ?_, fun t ht => ?_⟩
    · simp only [PyData.shownAll, List.map_cons, List.sum_cons, List.length_cons, Nat.succ_mul]
      omega
    · rw [PyData.shownAll_cons] at ht
      rcases List.mem_cons.mp ht with rfl | ht
      · exact h4
      · exact g4 t ht
theorem Shw.tup (h : ∀ x ∈ xs, Shw n L x) : Shw (n + 1) (xs.length * (L + 2) + 3) (.tup xs) := by
  obtain ⟨ds, e, g0, g1, g2, g3, g4⟩ := shwAll h
  refine ⟨.tuple ds, by unfold toD; rw [e]; rfl, by simpa only [PyData.showable] using g1, by simp only [PyData.depth]; omega, ?_, ?_⟩
  · have := tupleText_le (PyData.shownAll ds)
    simp only [PyData.shown]
    omega
  · rw [PyData.shown_tuple]
    exact low_app (low_app (low_lit _) (low_join (low_lit _) g4)) (low_lit _)
theorem Shw.lst (h : ∀ x ∈ xs, Shw n L x) : Shw (n + 1) (xs.length * (L + 2) + 3) (.lst xs) := by
  obtain ⟨ds, e, g0, g1, g2, g3, g4⟩ := shwAll h
  refine ⟨.list ds, by unfold toD; rw [e]; rfl, by simpa only [PyData.showable] using g1, by simp only [PyData.depth]; omega, ?_, ?_⟩
  · have := listText_le (PyData.shownAll ds)
    simp only [PyData.shown]
    omega
  · rw [PyData.shown_list]
    exact low_app (low_app (low_lit _) (low_join (low_lit _) g4)) (low_lit _)
theorem Shw.tupK (k : Nat) (h : ∀ x ∈ xs, Shw n L x) (hk : xs.length = k := by rfl) (hL : k * (L + 2) + 3 ≤ M := by omega) : Shw (n + 1) M (.tup xs) := (Shw.tup h).up (Nat.le_refl _) (by rw [hk]; exact hL)
theorem Shw.lstK (k : Nat) (h : ∀ x ∈ xs, Shw n L x) (hk : xs.length = k := by rfl) (hL : k * (L + 2) + 3 ≤ M := by omega) : Shw (n + 1) M (.lst xs) := (Shw.lst h).up (Nat.le_refl _) (by rw [hk]; exact hL)
theorem Shw.bl {b : Bool} : Shw 1 1100 (.bl b) := by
  have := Shw.of (n := 0) (x := .bl b) okD_bl
  rwa [cnt_bl] at this
theorem Shw.non : Shw 1 1100 .non := by
  have := Shw.of (n := 0) (x := .non) okD_non
  rwa [cnt_non] at this
theorem shw_top (h : Shw n L x) : top s x = x := by
  obtain ⟨d, e, _⟩ := h.get
  cases x with
  | obj k => simp [toD] at e
  | _ => rfl
theorem shows_S (h : Shw n L x) (hn : n ≤ 60) (hL : L ≤ 16000000) : ∃ d, toD x = some d ∧ shows d = some (reprT x) := by
  obtain ⟨d, e, h1, h2, h3, _⟩ := h.get
  refine ⟨d, e, ?_⟩
  unfold shows
  rw [if_pos ⟨h1, by omega, by omega⟩]
  unfold reprT
  rw [e]
theorem q_reprS (h : Shw n L x) (hn : n ≤ 60) (hL : L ≤ 16000000) : bRepr [x] s = some (.str (reprT x), s) := by
  obtain ⟨d, e, h1⟩ := shows_S h hn hL
  unfold bRepr
  simp only [shw_top h, e, h1]
  rfl
theorem top_obj {k : Nat} (e : stL s k = some xs) : top s (.obj k) = .lst xs := by
  show (match lsOf s (PV.obj k) with | some xs => PV.lst xs | none => PV.obj k) = _
  rw [lsOf_obj, e]
theorem q_reprO {k : Nat} (e : stL s k = some xs) (h : Shw n L (.lst xs)) (hn : n ≤ 60) (hL : L ≤ 16000000) : bRepr [.obj k] s = some (.str (reprT (.lst xs)), s) := by
  obtain ⟨d, e1, h1⟩ := shows_S h hn hL
  unfold bRepr
  simp only [top_obj e, e1, h1]
  rfl
theorem shw_reprT (h : Shw n L x) : lowZ (reprT x) ∧ (reprT x).length ≤ L := by
  obtain ⟨d, e, h1, h2, h3, h4⟩ := h.get
  unfold reprT
  rw [e]
  exact ⟨h4, h3⟩
end
/-! raise, try -/
section
variable {s : S} {env : En} {E : Str → PV → S → Prop} {Q : PV → S → Prop} {c r : Str} {m : EM} {x v : PV} {hd : Str → Option Bool} {h : Str → PV → EM} {n : Nat}
@[simp ↓] theorem w_raise {Q : Fl → S → Prop} : Pq (sRaise c m env s) Q E = Pq (m env s) (fun x s1 => E c x s1) E := by
  simp only [sRaise, w_bind]
  refine pq_in fun x s1 => ?_
  rw [w_exc]
@[simp ↓] theorem w_ek : Pq (eK x env s) Q E = Q x s := pqE Iff.rfl
/-- what a caught error answers -/
def caught (hd : Str → Option Bool) (h : Str → PV → EM) (n : Nat) (Q : PV → S → Prop) (c : Str) (x : PV) (s : S) (_t : Tg Q := ⟨⟩) : Prop := hd c = some true ∧ Pq (h c x (List.replicate n none) s) Q noE
theorem p_tried (k : Pq (m env s) (fun v s1 => Q (.tup [.str r, v]) s1) (fun c x s1 => caught hd h n Q c x s1)) : Pq (eTried hd h n r m env s) Q E := by
  have k := k.get
  refine ⟨?_⟩
  unfold eTried triedM
  simp only
  cases e : m env s with
  | ok v s1 => rw [e] at k; exact k
  | fail => rw [e] at k; exact k.elim
  | exc c x s1 =>
    rw [e] at k
    obtain ⟨k1, k2⟩ := k
    have k2 := k2.get
    simp only [k1]
    cases e2 : h c x (List.replicate n none) s1 with
    | ok v s2 => rw [e2] at k2; exact k2
    | fail => rw [e2] at k2; exact k2.elim
    | exc _ _ _ => rw [e2] at k2; exact k2.elim
@[simp ↓] theorem w_listD {mu : Bool} : Pq (lift (bListD mu [x] s)) Q E = onDs (dcOf s x) fun kvs => Pq (lift (newL mu (kvs.map fun kv => keyPV kv.1) s)) Q E := by
  unfold bListD
  simp only
  cases dcOf s x with
  | none => exact pqE Iff.rfl
  | some kvs => rfl
end
end Z

set_option Elab.async false
set_option linter.all false
set_option maxRecDepth 100000
set_option maxHeartbeats 4000000
/-! T2v: data of a depth, a size (printed by mkT2v.py). -/
namespace Z
open PySem PySem.Spec L2
/-! data of a size: integers, texts, widths -/
mutual
def gk (M W : Nat) : PV → Prop
  | .int i => i.natAbs ≤ M
  | .str z => z.length ≤ W + 60 ∧ ∀ c ∈ z.cps.toList, c < 128
  | .tup xs => xs.length ≤ W ∧ gks M W xs
  | _ => True
def gks (M W : Nat) : List PV → Prop
  | [] => True
  | x :: xs => gk M W x ∧ gks M W xs
end
section
variable {M W M' W' : Nat}
theorem gk_int {i : Int} : gk M W (.int i) ↔ i.natAbs ≤ M := by rw [gk]
theorem gk_str {z : Str} : gk M W (.str z) ↔ z.length ≤ W + 60 ∧ ∀ c ∈ z.cps.toList, c < 128 := by rw [gk]
theorem gks_iff : ∀ {xs : List PV}, gks M W xs ↔ ∀ x ∈ xs, gk M W x
  | [] => by simp [gks]
  | x :: xs => by rw [gks, gks_iff]; simp
theorem gk_tup {xs : List PV} : gk M W (.tup xs) ↔ xs.length ≤ W ∧ ∀ x ∈ xs, gk M W x := by rw [gk, gks_iff]
theorem gk_lst {xs : List PV} : gk M W (.lst xs) := by rw [gk] <;> first | trivial | simp
theorem gk_dic {xs : List (Key × PV)} : gk M W (.dic xs) := by rw [gk] <;> first | trivial | simp
theorem gk_bl {b : Bool} : gk M W (.bl b) := by rw [gk] <;> first | trivial | simp
theorem gk_non : gk M W .non := by rw [gk] <;> first | trivial | simp
mutual
theorem gk_up (hM : M ≤ M') (hW : W ≤ W') : ∀ {x : PV}, gk M W x → gk M' W' x
  | .int i, h => by rw [gk_int] at h ⊢; omega
  | .str z, h => by rw [gk_str] at h ⊢; exact ⟨by omega, h.2⟩
  | .tup xs, h => by
    rw [gk] at h ⊢
    exact ⟨by omega, gks_up hM hW h.2⟩
  | .lst xs, _ => gk_lst
  | .dic xs, _ => gk_dic
  | .bl b, _ => gk_bl
  | .non, _ => gk_non
  | .scr _, _ => by rw [gk] <;> first | trivial | simp
  | .obj _, _ => by rw [gk] <;> first | trivial | simp
  | .wt _, _ => by rw [gk] <;> first | trivial | simp
theorem gks_up (hM : M ≤ M') (hW : W ≤ W') : ∀ {xs : List PV}, gks M W xs → gks M' W' xs
  | [], _ => by rw [gks]; trivial
  | x :: xs, h => by
    rw [gks] at h ⊢
    exact ⟨gk_up hM hW h.1, gks_up hM hW h.2⟩
end
/-- data of a depth, a size -/
def gm (n c M W : Nat) (v : PV) : Prop := okD n v ∧ cnt v ≤ c ∧ gk M W v
theorem gm_up {n c n' c' : Nat} {v : PV} (h : gm n c M W v) (a : n ≤ n' := by omega) (b : c ≤ c' := by omega) (e : M ≤ M' := by omega) (f : W ≤ W' := by omega) : gm n' c' M' W' v := ⟨okD_up h.1 a, Nat.le_trans h.2.1 b, gk_up e f h.2.2⟩
theorem okI_big {i : Int} (h : i.natAbs ≤ M) (hM : M ≤ 10000000000000000000000000000000000000000000) : okI i := okI_of (by omega)
theorem gm_int {i : Int} (h : i.natAbs ≤ M) (hM : M ≤ 10000000000000000000000000000000000000000000) : gm 0 1 M W (.int i) := ⟨okD_int (okI_big h hM), by simp, gk_int.mpr h⟩
theorem gm_str {z : Str} (h : gk M W (.str z)) (hW : W ≤ 40) : gm 0 1 M W (.str z) := by
  refine ⟨okD_str ?_, by simp, h⟩
  rw [gk_str] at h
  exact ⟨by omega, fun c hc => by have := h.2 c hc; omega⟩
theorem gm_bl {b : Bool} : gm 0 1 M W (.bl b) := ⟨okD_bl, by simp, gk_bl⟩
theorem gm_non : gm 0 1 M W .non := ⟨okD_non, by simp, gk_non⟩
theorem gm_tup {n c : Nat} {xs : List PV} (h : ∀ x ∈ xs, okD n x) (hc : cnts xs ≤ c) (hm : ∀ x ∈ xs, gk M W x) (hl : xs.length ≤ W) : gm (n + 1) (c + 1) M W (.tup xs) := ⟨okD_tup h, by rw [cnt_tup]; omega, gk_tup.mpr ⟨hl, hm⟩⟩
theorem gm_lst {n c : Nat} {xs : List PV} (h : ∀ x ∈ xs, okD n x) (hc : cnts xs ≤ c) : gm (n + 1) (c + 1) M W (.lst xs) := ⟨okD_lst h, by rw [cnt_lst]; omega, gk_lst⟩
instance {z : Str} : Decidable (okZ z) := by unfold okZ; exact inferInstance
end
theorem at_last {α : Type} {xs : List α} (h : xs ≠ []) : ∃ y, y ∈ xs ∧ L2.atI xs (-1) = some y := by
  have hl : 0 < xs.length := List.length_pos_iff.mpr h
  refine ⟨xs[xs.length - 1]'(by omega), List.getElem_mem _, ?_⟩
  have e : ixN xs.length (-1) = some (xs.length - 1) := by
    unfold ixN
    rw [if_neg (by omega), if_pos (by omega)]
    congr 1
    omega
  unfold L2.atI
  rw [e]
  exact List.getElem?_eq_getElem (by omega)
theorem upper_gk {M W : Nat} {z : Str} (h : gk M W (.str z)) : gk M W (.str (Txt.upper z)) := by
  have key : ∀ l : List Nat, (∀ c ∈ l, c < 128) → ∃ l' : List Nat, Txt.upper ⟨l.toArray⟩ = ⟨l'.toArray⟩ ∧ l'.length = l.length ∧ ∀ c ∈ l', c < 128 := by
    intro l
    induction l with
    | nil => exact fun _ => ⟨[], rfl, rfl, by simp⟩
    | cons c l ih =>
      intro hc
      obtain ⟨l', e, hl, hs⟩ := ih fun d hd => hc d (by simp [hd])
      have h0 := hc c (by simp)
      refine ⟨(if 97 ≤ c ∧ c ≤ 122 then c - 32 else c) :: l', ?_, by simp [hl], ?_⟩
      · have e1 : (⟨(c :: l).toArray⟩ : Str) = ⟨#[c]⟩ ++ ⟨l.toArray⟩ := by
          show _ = (⟨#[c] ++ l.toArray⟩ : Str)
          simp
        rw [e1, PySem.W.KOpn.upper_app, PySem.W.KOpn.upper_one h0, e]
        show (⟨_ ++ _⟩ : Str) = _
        simp
      · intro d hd
        rcases List.mem_cons.mp hd with rfl | hd
        · split <;> omega
        · exact hs d hd
  rw [gk_str] at h ⊢
  obtain ⟨⟨l⟩⟩ := z
  obtain ⟨l', e, hl, hs⟩ := key l h.2
  rw [show (⟨{ toList := l }⟩ : Str) = ⟨l.toArray⟩ from rfl, e]
  exact ⟨by show l'.length ≤ W + 60; rw [hl]; exact h.1, hs⟩
theorem app_list (a b : Str) : (a ++ b : Str).cps.toList = a.cps.toList ++ b.cps.toList := by
  show (a.cps ++ b.cps).toList = _
  simp
theorem app_len (a b : Str) : (a ++ b : Str).length = a.length + b.length := by
  show (a.cps ++ b.cps).size = _
  rw [Array.size_append]; rfl
theorem cut_gk {M W : Nat} {z : Str} {lo hi : Option Int} (h : gk M W (.str z)) : gk M W (.str (cutS z lo hi)) := by
  rw [gk_str] at h ⊢
  refine ⟨Nat.le_trans (cutS_length z lo hi) h.1, fun c hc => h.2 c ?_⟩
  have : (cutS z lo hi).cps.toList = (z.cps.toList.drop (HT.sIx z.length 0 lo)).take (HT.sIx z.length z.length hi - HT.sIx z.length 0 lo) := by unfold cutS; simp
  rw [this] at hc
  exact List.mem_of_mem_drop (List.mem_of_mem_take hc)
theorem app_gk {M W : Nat} {z : Str} (h : gk M W (.str z)) : gk M (W + 1) (.str (z ++ "a")) := by
  rw [gk_str] at h ⊢
  refine ⟨by rw [app_len]; have : ("a" : Str).length = 1 := rfl; omega, fun c hc => ?_⟩
  rw [app_list] at hc
  rcases List.mem_append.mp hc with hc | hc
  · exact h.2 c hc
  · have : ∀ c ∈ ("a" : Str).cps.toList, c < 128 := by decide +kernel
    exact this c hc
theorem int_gk {M W : Nat} {i : Int} (h : i.natAbs ≤ M) (hM : M ≤ 10000000000000000000000000000000000000000000) : gk M W (.str (toString i : String)) := by
  have ho : i.natAbs < 10 ^ 44 := by omega
  have hl := int_text_length_le10 (k := 44) (by decide) ho
  rw [gk_str]
  refine ⟨by rw [ofString_length]; omega, fun c hc => ?_⟩
  rw [Str.ofString_eq_toList] at hc
  simp at hc
  obtain ⟨ch, hch, rfl⟩ := hc
  rcases PyProof.Rows.int_sign i ch hch with e | e
  · have := (PyProof.Rows.digit_range e).2
    omega
  · rw [e]; decide
section
variable {s : S} {Q : PV → S → Prop} {E : Str → PV → S → Prop} {mu : Bool}
@[simp] theorem q_addB_ii {i j : Int} : oAddB mu (.int i) (.int j) s = some (.int (i + j), s) := by unfold oAddB; exact q_add_ii
@[simp] theorem q_addB_bi {b : Bool} {j : Int} : oAddB mu (.bl b) (.int j) s = some (.int (b2 b + j), s) := by unfold oAddB; rfl
@[simp] theorem q_addB_tt {xs ys : List PV} : oAddB mu (.tup xs) (.tup ys) s = newT (xs ++ ys) s := by unfold oAddB; exact q_add_tt
@[simp] theorem q_addB_ll {xs ys : List PV} : oAddB mu (.lst xs) (.lst ys) s = newL mu (xs ++ ys) s := by unfold oAddB; exact q_add_ll
theorem q_addB_ss {a b : Str} : oAddB mu (.str a) (.str b) s = oAdd mu (.str a) (.str b) s := by unfold oAddB; rfl
@[simp] theorem q_subB_ii {i j : Int} : oSubB (.int i) (.int j) s = some (.int (i - j), s) := by unfold oSubB; exact q_sub_ii
@[simp] theorem q_subB_bi {b : Bool} {j : Int} : oSubB (.bl b) (.int j) s = some (.int (b2 b - j), s) := by unfold oSubB; rfl
theorem q_eq_bi {b : Bool} {i : Int} : oEqD (.bl b) (.int i) s = some (.bl ((if b then 1 else 0) == i), s) := by
  have e : oEqB (.bl b) (.int i) s = some ((if b then 1 else 0) == i) := by
    show (if (PV.bl b).depth ≤ 60 then peq (.bl b) (.int i) else none) = _
    rw [if_pos (by simp [PV.depth])]
    rw [peq]
  show (match oEqB (.bl b) (.int i) s with | some b => some (PV.bl b, s) | none => none) = _
  rw [e]
theorem q_strG_b {b : Bool} : bStrG [.bl b] s = some (.str (if b then ("True" : Str) else "False"), s) := by unfold bStrG; rfl
theorem q_strG_i {i : Int} (h : okI i) : bStrG [.int i] s = some (.str (toString i), s) := by
  have hl : i.natAbs.log2 < 1920 := by
    by_cases z : i.natAbs = 0
    · rw [z]; decide
    · exact (Nat.log2_lt z).mpr (Nat.lt_of_lt_of_le (show i.natAbs < 2 ^ 200 from Nat.lt_of_lt_of_le h (by decide)) (Nat.pow_le_pow_right (by decide) (by decide)))
  show (if i.natAbs.log2 < 1920 then some (PV.str (toString i), s) else none) = _
  rw [if_pos hl]
theorem w_upper {z : Str} (h : z.length ≤ 1000) : Pq (lift (mUpper (.str z) [] s)) Q E = Q (.str (Txt.upper z)) s := by
  show Pq (lift (if z.length ≤ 5592405 then some (PV.str (Txt.upper z), s) else none)) Q E = _
  rw [if_pos (by omega)]
  simp
end
def inst (xs : List PV) (i : Nat) (v : PV) : PV := .tup (xs.take i ++ [v] ++ xs.drop (i + 1))
theorem inst_cnt {xs : List PV} {i : Nat} {v x : PV} (hx : xs[i]? = some x) : cnt (inst xs i v) + cnt x = 1 + cnts xs + cnt v := by
  have hi := (List.getElem?_eq_some_iff.mp hx).1
  have e : xs = xs.take i ++ x :: xs.drop (i + 1) := by
    rw [← (List.getElem?_eq_some_iff.mp hx).2, ← List.drop_eq_getElem_cons hi, List.take_append_drop]
  have e2 : cnts xs = cnts (xs.take i) + cnt x + cnts (xs.drop (i + 1)) := by
    have := congrArg cnts e
    rw [cnts_app, cnts_cons] at this
    omega
  unfold inst
  rw [cnt_tup, cnts_app, cnts_app, cnts_cons, cnts_nil]
  omega
section
variable {M W M' W' : Nat} {s : S}
theorem lit_gk {z : Str} (h : z.length ≤ 30 ∧ ∀ c ∈ z.cps.toList, c < 128) : gk M W (.str z) := gk_str.mpr ⟨by omega, h.2⟩
theorem lit_gm {z : Str} (h : z.length ≤ 30 ∧ ∀ c ∈ z.cps.toList, c < 128) (hW : W ≤ 40) : gm 0 1 M W (.str z) := gm_str (lit_gk h) hW
theorem appS_gk {z u : Str} (h : gk M W (.str z)) (hu : u.length ≤ 1 ∧ ∀ c ∈ u.cps.toList, c < 128) : gk M (W + 1) (.str (z ++ u)) := by
  rw [gk_str] at h ⊢
  refine ⟨by rw [app_len]; omega, fun c hc => ?_⟩
  rw [app_list] at hc
  rcases List.mem_append.mp hc with hc | hc
  · exact h.2 c hc
  · exact hu.2 c hc
/-- a part put in place -/
theorem inst_gm' {xs : List PV} {i n m c c' : Nat} {v x : PV} (hx : xs[i]? = some x) (h : gm (n + 1) c M W (.tup xs)) (hv : gm m c' M' W' v) (hn : n ≤ m) (hM : M ≤ M') (hW : W ≤ W') : gm (m + 1) (c + c') M' W' (inst xs i v) := by
  obtain ⟨h1, h2, h3⟩ := h
  have h1 : ∀ y ∈ xs, okD n y := h1
  rw [gk_tup] at h3
  obtain ⟨v1, v2, v3⟩ := hv
  have hi := (List.getElem?_eq_some_iff.mp hx).1
  refine ⟨okD_tup (n := m) fun y hy => ?_, ?_, gk_tup.mpr ⟨by simp; omega, fun y hy => ?_⟩⟩
  · rcases List.mem_append.mp hy with hy | hy
    · rcases List.mem_append.mp hy with hy | hy
      · exact okD_up (h1 y (List.mem_of_mem_take hy)) hn
      · rw [List.mem_singleton.mp hy]; exact v1
    · exact okD_up (h1 y (List.mem_of_mem_drop hy)) hn
  · have := inst_cnt (v := v) hx
    have hyc := cnts_mem (List.mem_of_getElem? hx)
    rw [cnt_tup] at h2
    omega
  · rcases List.mem_append.mp hy with hy | hy
    · rcases List.mem_append.mp hy with hy | hy
      · exact gk_up hM hW (h3.2 y (List.mem_of_mem_take hy))
      · rw [List.mem_singleton.mp hy]; exact v3
    · exact gk_up hM hW (h3.2 y (List.mem_of_mem_drop hy))
theorem q_strI {i : Int} (h : okI i) : bStr [.int i] s = some (.str (toString i), s) := by
  have hl : i.natAbs.log2 < 1920 := by
    by_cases z : i.natAbs = 0
    · rw [z]; decide
    · exact (Nat.log2_lt z).mpr (Nat.lt_of_lt_of_le (show i.natAbs < 2 ^ 200 from Nat.lt_of_lt_of_le h (by decide)) (Nat.pow_le_pow_right (by decide) (by decide)))
  show (if i.natAbs.log2 < 1920 then some (PV.str (toString i), s) else none) = _
  rw [if_pos hl]
theorem cut_one {α : Type} {l : List α} {i : Nat} : (cut l (some (i : Int)) (some ((i : Int) + 1))).length ≤ 1 := by
  unfold cut
  rw [show (i : Int) + 1 = ((i + 1 : Nat) : Int) by omega, HT.sIx_nat, HT.sIx_nat, List.length_take]
  omega
theorem inst_dbl {xs : List PV} {i n m c k : Nat} {v x : PV} (hx : xs[i]? = some x) (h : gm (n + 1) c M W (.tup xs)) (hv : gm m (2 * cnt x + k) M' W' v) (hn : n ≤ m) (hM : M ≤ M') (hW : W ≤ W') : gm (m + 1) (2 * c + k) M' W' (inst xs i v) := by
  have h0 := inst_gm' hx h hv hn hM hW
  refine ⟨h0.1, ?_, h0.2.2⟩
  have := inst_cnt (v := v) hx
  have hyc := cnts_mem (List.mem_of_getElem? hx)
  have h2 := h.2.1
  have h4 := hv.2.1
  rw [cnt_tup] at h2
  omega
/-- a comprehension over what a list stands for -/
theorem p_lcM {α : Type} {c : Ck} {l : List α} {f h : α → PV} {t : GM} {m : EM} {env : En} {Q : List PV → S → Prop} {E : Str → PV → S → Prop} (hh : ∀ a ∈ l, onE (t (f a) env s) fun e => ∀ Q' : PV → S → Prop, Q' (h a) s → Pq (m e s) Q' noE) (q : Q (l.map h) s) (hc : ckOk c s := by exact ck0) : Pq (lcL c t tYesM m env (l.map f) s) Q E := by
  refine p_lc (fun i acc s' => s' = s ∧ acc = (l.take i).map h) (acc := []) ⟨rfl, by simp⟩ (fun _ _ s' _ h => by rw [h.1]; exact hc) (fun i x hx acc s' ⟨e1, e2⟩ => ?_) fun ys s' ⟨e1, e2⟩ => ?_
  · subst e1
    rw [List.getElem?_map] at hx
    cases ha : l[i]? with
    | none => rw [ha] at hx; cases hx
    | some a =>
      rw [ha] at hx
      cases hx
      have := hh a (List.mem_of_getElem? ha)
      cases ht : t (f a) env s' with
      | none => rw [ht] at this; exact this.elim
      | some e =>
        rw [ht, onE_some] at this
        rw [onE_some]
        rw [w_tyes, if_pos rfl]
        refine this _ ⟨rfl, ?_⟩
        rw [e2, List.take_add_one, ha, List.map_append]; rfl
  · subst e1
    rw [List.nil_append, List.length_map, List.take_length] at e2
    rw [e2]; exact q
/-- .. with a test -/
theorem p_lcFM {α : Type} {c : Ck} {l : List α} {f h : α → PV} {p : α → Bool} {t : GM} {ts : TM} {m : EM} {env : En} {Q : List PV → S → Prop} {E : Str → PV → S → Prop} (hh : ∀ a ∈ l, onE (t (f a) env s) fun e => (∀ Q' : Bool → S → Prop, Q' (p a) s → Pq (ts e s) Q' noE) ∧ (p a = true → ∀ Q' : PV → S → Prop, Q' (h a) s → Pq (m e s) Q' noE)) (q : Q ((l.filter p).map h) s) (hc : ckOk c s := by exact ck0) : Pq (lcL c t ts m env (l.map f) s) Q E := by
  refine p_lc (fun i acc s' => s' = s ∧ acc = ((l.take i).filter p).map h) (acc := []) ⟨rfl, by simp⟩ (fun _ _ s' _ h => by rw [h.1]; exact hc) (fun i x hx acc s' ⟨e1, e2⟩ => ?_) fun ys s' ⟨e1, e2⟩ => ?_
  · subst e1
    rw [List.getElem?_map] at hx
    cases ha : l[i]? with
    | none => rw [ha] at hx; cases hx
    | some a =>
      rw [ha] at hx
      cases hx
      have := hh a (List.mem_of_getElem? ha)
      cases ht : t (f a) env s' with
      | none => rw [ht] at this; exact this.elim
      | some e =>
        rw [ht, onE_some] at this
        rw [onE_some]
        refine this.1 _ ?_
        cases hp : p a with
        | false =>
          rw [if_neg (by simp)]
          refine ⟨rfl, ?_⟩
          rw [e2, List.take_add_one, ha, List.filter_append]
          simp [hp]
        | true =>
          rw [if_pos rfl]
          refine this.2 hp _ ⟨rfl, ?_⟩
          rw [e2, List.take_add_one, ha, List.filter_append]
          simp [hp]
  · subst e1
    rw [List.nil_append, List.length_map, List.take_length] at e2
    rw [e2]; exact q
/-- try: what the suite answers -/
@[simp ↓] theorem unE_nx {env : En} {i : Nat} : unE i (.nx env) = .nx (env.set i none) := rfl
@[simp ↓] theorem unE_ret {v : PV} {i : Nat} : unE i (.ret v) = .ret v := rfl
theorem w_noX {α : Type} {r : Rs α} {Q : α → S → Prop} {E : Str → PV → S → Prop} : Pq (noX r) Q E = Pq r Q noE := post_noX
/-- what is caught -/
def caughtG (i n : Nat) (hd : Str → Option Bool) (h : Str → PV → SM) (Q : Fl → S → Prop) (E : Str → PV → S → Prop) (c : Str) (x : PV) (s : S) (_t : Tg Q := ⟨⟩) (_u : Tg E := ⟨⟩) : Prop :=
  match hd c with
  | some true => Pq (h c x (List.replicate n none) s) (fun f s1 => Q (unE i f) s1) noE
  | some false => E c x s
  | none => False
theorem p_tryG {i n : Nat} {hd : Str → Option Bool} {b : SM} {h : Str → PV → SM} {env : En} {Q : Fl → S → Prop} {E : Str → PV → S → Prop} (k : Pq (b env s) Q (fun c x s1 => caughtG i n hd h Q E c x s1)) : Pq (sTryG i n hd b h env s) Q E := by
  have k := k.get
  refine ⟨?_⟩
  unfold sTryG
  cases e : b env s with
  | ok v s1 => rw [e] at k; exact k
  | fail => rw [e] at k; exact k.elim
  | exc c x s1 =>
    rw [e] at k
    have k : caughtG i n hd h Q E c x s1 := k
    unfold caughtG at k
    simp only
    cases hc : hd c with
    | none => rw [hc] at k; exact k.elim
    | some y =>
      rw [hc] at k
      cases y with
      | false => exact k
      | true =>
        have k := k.get
        simp only
        cases e2 : h c x (List.replicate n none) s1 with
        | ok v s2 => rw [e2] at k; exact k
        | fail => rw [e2] at k; exact k.elim
        | exc _ _ _ => rw [e2] at k; exact k.elim
@[simp ↓] theorem w_act {k : S → Rs PV} {env : En} {Q : PV → S → Prop} {E : Str → PV → S → Prop} : Pq (eAct k env s) Q E = Pq (k s) Q E := rfl
theorem p_triedG {bm : (S → Rs PV) → SM} {n : Nat} {m : EM} {env : En} {Q : PV → S → Prop} {E : Str → PV → S → Prop} (k : Pq (bm (fun s => m env s) (List.replicate n none) s) (fun fl s1 => Pq (flEnd fl s1) Q noE) noE) : Pq (eTriedG bm n m env s) Q E := by
  show Pq (noX _) Q E
  rw [post_noX, w_bind]
  exact k
/-- a big integer told -/
theorem Shw.int {k : Nat} {i : Int} (hk : 1 ≤ k) (h : i.natAbs < 10 ^ k) (h2 : k ≤ 500) : Shw 1 (k + 1) (.int i) := by
  have hl : i.natAbs.log2 < 1920 := by
    by_cases z : i.natAbs = 0
    · rw [z]; decide
    · refine (Nat.log2_lt z).mpr (Nat.lt_of_lt_of_le h (Nat.le_trans (Nat.pow_le_pow_right (by decide) h2) ?_))
      decide +kernel
  refine ⟨.int i, by unfold toD; rfl, by simp only [PyData.showable, hl, decide_true], by simp [PyData.depth], ?_, by rw [PyData.shown_int]; exact low_lit _⟩
  have := int_text_length_le10 hk h
  simp only [PyData.shown]
  rw [ofString_length]
  omega
end
end Z

set_option Elab.async false
set_option linter.all false
set_option maxRecDepth 100000
set_option maxHeartbeats 4000000
namespace Lk26
open PySem PySem.Spec L2 Z
theorem draw_ok : DrawOk "left" f__law_draw := fun h1 h2 q => by
  refine drawB_p (k := "left") (N := _) (c1 := _) (c2 := _) (c3 := _) (c4 := _) (c5 := _) (c6 := _) (c7 := _) (c8 := _) (c9 := _) (c10 := _) (c11 := _) (c12 := _) key_left rfl ?_ ?_ ?_ ?_ ?_ ?_ ?_ ?_ ?_ h1 h2 q
  all_goals first | (unfold okC; decide) | decide
theorem bad_of {P : Prop} {b : Bool} (hb : b = true ↔ P) (h : ¬ P) : b = false := by
  cases b with
  | false => rfl
  | true => exact absurd (hb.mp rfl) h
def isInt (x : PV) : Bool := match x with
  | .int _ => true
  | _ => false
theorem isInt_ex {x : PV} : isInt x = true ↔ ∃ i, x = .int i := by
  cases x <;> simp [isInt]
section
variable {d : Deck} {R : S} {s : S} {Q : PV → S → Prop} {E : Str → PV → S → Prop} {M W : Nat}
theorem pickl_p {xs : List PV} (h1 : xs ≠ []) (h2 : xs.length ≤ 1000000000) (q : ∀ v (d' : Deck), v ∈ xs → Q v (d'.st "left" R)) : Pq (f__law_pick [.obj 0, .lst xs] (d.st "left" R)) Q E := pick_l draw_ok rfl h1 h2 q
theorem picko_p {n : Nat} {xs : List PV} (hx : stL R n = some xs) (h1 : xs ≠ []) (h2 : xs.length ≤ 1000000000) (q : ∀ v (d' : Deck), v ∈ xs → Q v (d'.st "left" R)) : Pq (f__law_pick [.obj 0, .obj (n + 2)] (d.st "left" R)) Q E := pick_o draw_ok rfl hx h1 h2 q
theorem law_int_any {n : Nat} {x : PV} (h : okD n x) : Pq (f__law_is_integer [x] s) Q E = Q (.bl (isInt x)) s := by
  unfold f__law_is_integer b__law_is_integer
  rcases okD_cases h with rfl | ⟨c, rfl⟩ | ⟨c, rfl⟩ | ⟨z, rfl⟩ | ⟨xs, rfl, _⟩ | ⟨xs, rfl, _⟩ | ⟨kvs, rfl⟩ <;> simp [startE, isInt]
theorem is_int_any {n : Nat} {x : PV} (h : okD n x) : Pq (f_is_integer [x] s) Q E = Q (.bl (isInt x)) s := by
  unfold f_is_integer b_is_integer
  rcases okD_cases h with rfl | ⟨c, rfl⟩ | ⟨c, rfl⟩ | ⟨z, rfl⟩ | ⟨xs, rfl, _⟩ | ⟨xs, rfl, _⟩ | ⟨kvs, rfl⟩ <;> simp [startE, isInt]
theorem is_from_any {n : Nat} {m : Int} {b : Bool} {x : PV} (h : okD n x) (hb : b = true ↔ ∃ i, x = .int i ∧ m ≤ i) (q : Q (.bl b) s) : Pq (f_is_from [x, .int m] s) Q E := by
  unfold f_is_from b_is_from
  simp [startE, is_int_any h]
  cases hi : isInt x with
  | true =>
    obtain ⟨i, rfl⟩ := isInt_ex.mp hi
    rw [show b = decide (m ≤ i) by rw [Bool.eq_iff_iff, hb]; simp] at q
    simp
    exact q
  | false =>
    rw [bad_of hb (fun ⟨i, e, _⟩ => by rw [e] at hi; cases hi)] at q
    simp
    exact q
theorem odd_p (hM : 1000000000000000000000000000000000000000 ≤ M) (hM2 : M ≤ 10000000000000000000000000000000000000000000) (h3 : 4 ≤ W) (h4 : W ≤ 40) (q : ∀ v (d' : Deck), gm 2 4 M W v → Q v (d'.st "left" R)) : Pq (f__law_odd [.obj 0] (d.st "left" R)) Q E := by
  have I : ∀ i : Int, i.natAbs ≤ 1000000000000000000000000000000000000000 → gm 0 1 M W (.int i) := fun i hi => gm_int (by omega) hM2
  have Z : ∀ z : Str, (z.length ≤ 30 ∧ ∀ c ∈ z.cps.toList, c < 128) → gm 0 1 M W (.str z) := fun z hz => lit_gm hz h4
  have T0 : gm 1 1 M W (.tup []) := gm_tup (n := 0) (c := 0) (by simp) (by simp) (by simp) (by simp)
  have T1 : ∀ x, gm 0 1 M W x → gm 1 2 M W (.tup [x]) := fun x hx => gm_tup (n := 0) (c := 1) (by simpa using hx.1) (by simpa using hx.2.1) (by simpa using hx.2.2) (by simp; omega)
  unfold f__law_odd b__law_odd
  simp [startE, keys, kP, mergeP, putP, dis_ix, dis_st]
  refine pickl_p (by simp) (by simp) fun v d2 hv => ?_
  simp
  refine q v d2 ?_
  simp at hv
  rcases hv with rfl | rfl | rfl | rfl | rfl | rfl | rfl | rfl | rfl | rfl | rfl | rfl | rfl | rfl | rfl | rfl | rfl | rfl | rfl | rfl
  · exact gm_up gm_bl
  · exact gm_up gm_non
  · exact gm_up (I 0 (by decide))
  · exact gm_up (Z _ (by decide +kernel))
  · exact gm_up T0
  · exact gm_up (gm_lst (n := 0) (c := 0) (by simp) (by simp))
  · exact ⟨okD_dic (by simp), by simp, gk_dic⟩
  · exact gm_up (I (-1) (by decide))
  · exact gm_up (I 1 (by decide))
  · exact gm_up gm_bl
  · exact gm_up (gm_tup (n := 1) (c := 2) (M := M) (W := W) (by simp; exact ⟨(gm_up (Z _ (by decide +kernel)) : gm 1 1 M W _).1, T0.1⟩) (by simp) (by simp; exact ⟨(Z _ (by decide +kernel)).2.2, T0.2.2⟩) (by simp; omega))
  · exact gm_up (Z _ (by decide +kernel))
  · exact gm_up (Z _ (by decide +kernel))
  · exact gm_up (I 2 (by decide))
  · exact gm_up (Z _ (by decide +kernel))
  · exact gm_up (T1 _ (I 0 (by decide)))
  · exact gm_up (T1 _ (Z _ (by decide +kernel)))
  · exact gm_up (I _ (by decide))
  · exact gm_up (Z _ (by decide +kernel))
  · exact gm_up (T1 _ (Z _ (by decide +kernel)))
end
end Lk26

set_option Elab.async false
set_option linter.all false
set_option maxRecDepth 100000
set_option maxHeartbeats 4000000
namespace Lk26
open PySem PySem.Spec L2 Z
section
variable {d : Deck} {R : S} {s : S} {Q : PV → S → Prop} {E : Str → PV → S → Prop} {M W : Nat}
theorem bent_p (hM : 1000000000000000000000000000000000000000 ≤ M) (hM2 : M + 1 ≤ 10000000000000000000000000000000000000000000) (h3 : 4 ≤ W) (h4 : W + 1 ≤ 40) : ∀ (f deep : Nat) (x : PV) {n c : Nat} {d : Deck} {R : S} {Q : PV → S → Prop} {E : Str → PV → S → Prop}, deep < f → gm n c M W x → c ≤ 5000 →
    (∀ (v : PV) (d' : Deck), gm (n + 4) (2 * c + 10) (M + 1) (W + 1) v → Q v (d'.st "left" R)) → Pq (r__law_bent f [.obj 0, x, .int deep] (d.st "left" R)) Q E
  | 0, deep, x, n, c, d, R, Q, E, hf, _, _, _ => absurd hf (by omega)
  | f + 1, deep, x, n, c, d, R, Q, E, hf, hx, hc, q => by
    show Pq (fnM 3 _ (b__law_bent (r__law_bent f)) _ _) Q E
    unfold b__law_bent
    have odd : ∀ (d1 : Deck) {Q' : PV → S → Prop} {E' : Str → PV → S → Prop}, (∀ v (d' : Deck), gm 2 4 (M + 1) (W + 1) v → Q' v (d'.st "left" R)) → Pq (f__law_odd [.obj 0] (d1.st "left" R)) Q' E' := fun d1 Q' E' q => odd_p (by omega) (by omega) (by omega) (by omega) q
    by_cases ht : ∃ xs, x = .tup xs
    case neg =>
      have hi := fun s => isi_tup_ok (s := s) hx.1 fun xs e => ht ⟨xs, e⟩
      simp [startE, hi]
      refine odd d fun v d' hv => ?_
      simp
      exact q v d' (gm_up hv)
    obtain ⟨xs, rfl⟩ := ht
    obtain ⟨n, rfl⟩ : ∃ j, n = j + 1 := by
      cases n with
      | zero => exact (hx.1 : False).elim
      | succ j => exact ⟨j, rfl⟩
    have ho : ∀ y ∈ xs, okD n y := hx.1
    have hk := gk_tup.mp hx.2.2
    have hxc := hx.2.1
    have hcl := cnts_len xs
    rw [cnt_tup] at hxc
    by_cases hz : xs = [] ∨ deep = 0
    · have : Pq (f__law_odd [.obj 0] (d.st "left" R)) Q E := odd d fun v d' hv => q v d' (gm_up hv)
      by_cases h1 : xs = []
      · subst h1
        simp [startE]
        refine odd d fun v d' hv => ?_
        simp
        exact q v d' (gm_up hv)
      · have h2 : deep = 0 := by rcases hz with h | h; exact absurd h h1; exact h
        subst h2
        simp [startE, h1]
        refine odd d fun v d' hv => ?_
        simp
        exact q v d' (gm_up hv)
    have hne : xs ≠ [] := fun e => hz (.inl e)
    have hd0 : deep ≠ 0 := fun e => hz (.inr e)
    have hl0 : 0 < xs.length := List.length_pos_iff.mpr hne
    simp [startE, hne, hd0]
    refine draw_ok (by omega) (by omega) fun a d2 a0 a1 => ?_
    obtain ⟨i, rfl, hi⟩ : ∃ i : Nat, a = (i : Int) ∧ i < xs.length := ⟨a.toNat, by omega, by omega⟩
    simp
    refine draw_ok (by omega) (by omega) fun w d3 w0 w1 => ?_
    obtain ⟨y, hy⟩ : ∃ y, xs[i]? = some y := ⟨xs[i]'(by omega), List.getElem?_eq_getElem (by omega)⟩
    have hat : L2.atI xs (i : Int) = some y := by rw [at_nat]; exact hy
    have hym := List.mem_of_getElem? hy
    have hyo := ho y hym
    have hyk := hk.2 y hym
    have hyc := cnts_mem hym
    have hyg : gm n (cnt y) M W y := ⟨hyo, Nat.le_refl _, hyk⟩
    have e1 : (deep : Int) - 1 = ((deep - 1 : Nat) : Int) := by omega
    have e2 : cut xs none (some (i : Int)) = xs.take i := cut_to
    have e2' : cut xs none (some ((i : Int) + 1)) = xs.take (i + 1) := by
      have := cut_to (l := xs) (k := i + 1)
      rw [show ((i + 1 : Nat) : Int) = (i : Int) + 1 by omega] at this
      exact this
    have e3 : cut xs (some ((i : Int) + 1)) none = xs.drop (i + 1) := by
      have := cut_from (l := xs) (k := i + 1)
      rw [show ((i + 1 : Nat) : Int) = (i : Int) + 1 by omega] at this
      exact this
    have e4 : cut xs (some (i : Int)) none = xs.drop i := cut_from
    have hct := cnts_take xs i
    have hct' := cnts_take xs (i + 1)
    have hcd := cnts_drop xs (i + 1)
    have hcd' := cnts_drop xs i
    have lt : (xs.take i).length = i := by rw [List.length_take]; omega
    have lt' : (xs.take (i + 1)).length = i + 1 := by rw [List.length_take]; omega
    have ld : (xs.drop (i + 1)).length = xs.length - (i + 1) := List.length_drop ..
    have ld' : (xs.drop i).length = xs.length - i := List.length_drop ..
    have tp : ∀ ys : List PV, (∀ y ∈ ys, y ∈ xs) → cnts ys ≤ 2 * cnts xs → ys.length ≤ W + 1 → gm (n + 1 + 4) (2 * c + 10) (M + 1) (W + 1) (.tup ys) := fun ys h1 h2 h5 =>
      gm_up (gm_tup (M := M + 1) (W := W + 1) (n := n) (c := 2 * cnts xs) (fun y hy => ho y (h1 y hy)) h2 (fun y hy => gk_up (by omega) (by omega) (hk.2 y (h1 y hy))) h5)
    have put : ∀ (v : PV) (d' : Deck), gm (n + 4) (2 * cnt y + 10) (M + 1) (W + 1) v → Q (.tup (xs.take i ++ ([v] ++ xs.drop (i + 1)))) (d'.st "left" R) := fun v d' hv => by
      have := q _ d' (inst_dbl hy hx hv (by omega) (by omega) (by omega))
      unfold inst at this
      rwa [List.append_assoc] at this
    simp at put
    have hyc0 := cnt_pos y
    simp
    refine post_iteP (fun hw => ?_) fun hw => ?_
    · have hq := q _ d3 (tp (xs.take i ++ xs.drop (i + 1)) (fun y hy => (List.mem_append.mp hy).elim List.mem_of_mem_take List.mem_of_mem_drop) (by rw [cnts_app]; omega) (by rw [List.length_append]; omega))
      simp [e2, e3]
      exact ⟨by omega, by omega, by omega, hq⟩
    simp
    refine post_iteP (fun hw => ?_) fun hw => ?_
    · have hq := q _ d3 (tp (xs.take (i + 1) ++ xs.drop i) (fun y hy => (List.mem_append.mp hy).elim List.mem_of_mem_take List.mem_of_mem_drop) (by rw [cnts_app]; omega) (by rw [List.length_append]; omega))
      simp [e2', e4]
      exact ⟨by omega, by omega, by omega, hq⟩
    simp
    refine post_iteP (fun hw => ?_) fun hw => ?_
    · have hq := q _ d3 (tp xs.reverse (fun y hy => List.mem_reverse.mp hy) (by rw [cnts_rev]; omega) (by rw [List.length_reverse]; omega))
      simp
      exact ⟨by omega, hq⟩
    simp
    refine post_iteP (fun hw => ?_) fun hw => ?_
    · simp
      exact ⟨by omega, q _ d3 (gm_up (gm_lst (M := M + 1) (W := W + 1) ho (Nat.le_refl _)))⟩
    simp
    refine post_iteP (fun hw => ?_) fun hw => ?_
    · simp [e2, e3]
      refine ⟨by omega, ?_⟩
      refine odd d3 fun v d4 hv => ?_
      simp [e3]
      exact ⟨by omega, by omega, by omega, put v d4 (gm_up hv)⟩
    have pk : ∀ (d4 : Deck) (ys : List PV) {Q' : PV → S → Prop} {E' : Str → PV → S → Prop}, ys ≠ [] → ys.length ≤ 10 → (∀ v ∈ ys, gm 0 1 (M + 1) (W + 1) v) → (∀ (v : PV) (d' : Deck), gm 0 1 (M + 1) (W + 1) v → Q' v (d'.st "left" R)) → Pq (f__law_pick [.obj 0, .lst ys] (d4.st "left" R)) Q' E' := fun d4 ys Q' E' h1 h2 h3 q => pickl_p h1 (by omega) fun v d' hv => q v d' (h3 v hv)
    have I : ∀ i : Int, i.natAbs ≤ M + 1 → gm 0 1 (M + 1) (W + 1) (.int i) := fun i hi => gm_int hi hM2
    have sm : ∀ (v : PV), gm 0 1 (M + 1) (W + 1) v → gm (n + 4) (2 * cnt y + 10) (M + 1) (W + 1) v := fun v hv => gm_up hv
    have hli := fun {s : S} {Q : PV → S → Prop} {E : Str → PV → S → Prop} => law_int_any (s := s) (Q := Q) (E := E) hyo
    have go := fun (d4 : Deck) {Q' : PV → S → Prop} {E' : Str → PV → S → Prop} (q' : ∀ (v : PV) (d' : Deck), gm (n + 4) (2 * cnt y + 10) (M + 1) (W + 1) v → Q' v (d'.st "left" R)) => bent_p hM hM2 h3 h4 f (deep - 1) y (d := d4) (R := R) (Q := Q') (E := E') (by omega) hyg (by omega) q'
    rcases okD_cases hyo with rfl | ⟨b, rfl⟩ | ⟨j, rfl⟩ | ⟨z, rfl⟩ | ⟨ys, rfl, _⟩ | ⟨ys, rfl, _⟩ | ⟨kvs, rfl⟩
    case inr.inl =>
      simp [hat]
      refine draw_ok (by omega) (by omega) fun u d4 u0 u1 => ?_
      simp
      refine post_iteP (fun hu => ?_) fun hu => ?_
      · simp [e2, e3, hat]
        refine ⟨by omega, ?_⟩
        have hb1 : ∀ (s : S) (Q : PV → S → Prop) (E : Str → PV → S → Prop), Q (.int (if b then 1 else 0)) s → Pq (if b = true then eC (.int 1) [some (.obj 0), some (.tup xs), some (.int (deep : Int)), some (.int (i : Int)), some (.int w)] s else eC (.int 0) [some (.obj 0), some (.tup xs), some (.int (deep : Int)), some (.int (i : Int)), some (.int w)] s) Q E := fun s Q E q => by cases b <;> simpa using q
        refine hb1 _ _ _ ?_
        simp
        refine pk d4 _ (by simp) (by simp) (fun v hv => ?_) fun v d5 hv => ?_
        · simp at hv
          rcases hv with rfl | rfl
          · exact gm_bl
          · exact I _ (by cases b <;> simp)
        · simp [e3]
          exact ⟨by omega, by omega, by omega, put v d5 (sm v hv)⟩
      · simp [hat, hli, isInt, e1, e2, e3]
        refine ⟨by omega, ?_⟩
        refine go d4 fun v d5 hv => ?_
        simp [e3]
        exact ⟨by omega, by omega, by omega, put v d5 hv⟩
    case inr.inr.inl =>
      simp [hat, hli, isInt]
      refine draw_ok (by omega) (by omega) fun u d4 u0 u1 => ?_
      have hj := gk_int.mp hyk
      simp
      refine post_iteP (fun hu => ?_) fun hu => ?_
      · simp [e2, e3, hat]
        refine ⟨by omega, ?_⟩
        refine pk d4 _ (by simp) (by simp) (fun v hv => ?_) fun v d5 hv => ?_
        · simp at hv
          rcases hv with rfl | rfl | rfl | rfl <;> exact I _ (by omega)
        · simp [e3]
          exact ⟨by omega, by omega, by omega, put v d5 (sm v hv)⟩
      · simp [hat, hli, isInt, e1, e2, e3]
        refine ⟨by omega, ?_⟩
        refine go d4 fun v d5 hv => ?_
        simp [e3]
        exact ⟨by omega, by omega, by omega, put v d5 hv⟩
    case inr.inr.inr.inl =>
      simp [hat, hli, isInt]
      refine draw_ok (by omega) (by omega) fun u d4 u0 u1 => ?_
      have hz := gk_str.mp hyk
      have ll : ("l" : Str).length = 1 := rfl
      have lr : ("r" : Str).length = 1 := rfl
      have zs : ∀ u : Str, gk (M + 1) (W + 1) (.str u) → gm 0 1 (M + 1) (W + 1) (.str u) := fun u hu => gm_str hu h4
      simp
      refine post_iteP (fun hu => ?_) fun hu => ?_
      · simp [e2, e3, hat, ll, lr]
        refine ⟨by omega, by omega, by omega, by omega, ?_⟩
        refine pk d4 _ (by simp) (by simp) (fun v hv => ?_) fun v d5 hv => ?_
        · simp at hv
          rcases hv with rfl | rfl | rfl | rfl | rfl
          · exact zs _ (gk_up (by omega) (by omega) (appS_gk hyk (by decide +kernel)))
          · exact zs _ (gk_up (by omega) (by omega) (cut_gk hyk))
          · exact zs _ (lit_gk (by decide +kernel))
          · exact zs _ (lit_gk (by decide +kernel))
          · exact zs _ (gk_up (by omega) (by omega) (appS_gk hyk (by decide +kernel)))
        · simp [e3]
          exact ⟨by omega, by omega, by omega, put v d5 (sm v hv)⟩
      · simp [hat, hli, isInt, e1, e2, e3]
        refine ⟨by omega, ?_⟩
        refine go d4 fun v d5 hv => ?_
        simp [e3]
        exact ⟨by omega, by omega, by omega, put v d5 hv⟩
    all_goals
      simp [hat, hli, isInt, e1, e2, e3]
      refine ⟨by omega, ?_⟩
      refine go d3 fun v d5 hv => ?_
      simp [e3]
      exact ⟨by omega, by omega, by omega, put v d5 hv⟩
end
end Lk26

set_option Elab.async false
set_option linter.all false
set_option maxRecDepth 100000
set_option maxHeartbeats 4000000
namespace Lk26
open PySem PySem.Spec L2 Z
/-! polynomials -/
def polyF (l : Nat) : List PV → Prop
  | [] => True
  | x :: r => ∃ a c : Nat, x = .tup [.int (a : Int), .int (c : Int)] ∧ l ≤ a ∧ 1 ≤ c ∧ polyF (a + 1) r
def isPoly (x : PV) : Prop := ∃ xs, x = .tup xs ∧ polyF 0 xs
abbrev Po := List (Nat × Nat)
def it (a : Nat × Nat) : PV := .tup [.int (a.1 : Int), .int (a.2 : Int)]
def pvP (p : Po) : PV := .tup (p.map it)
def asc (l : Nat) : Po → Prop
  | [] => True
  | a :: r => l ≤ a.1 ∧ 1 ≤ a.2 ∧ asc (a.1 + 1) r
theorem polyF_map {p : Po} {l : Nat} : polyF l (p.map it) ↔ asc l p := by
  induction p generalizing l with
  | nil => simp [polyF, asc]
  | cons a p ih =>
    simp only [List.map_cons, polyF, asc]
    constructor
    · rintro ⟨x, c, e, h1, h2, h3⟩
      simp [it] at e
      have e1 : a.1 = x := by omega
      have e2 : a.2 = c := by omega
      subst e1 e2
      exact ⟨h1, h2, ih.mp h3⟩
    · rintro ⟨h1, h2, h3⟩
      exact ⟨a.1, a.2, rfl, h1, h2, ih.mpr h3⟩
theorem poly_ex {xs : List PV} {l : Nat} (h : polyF l xs) : ∃ p : Po, xs = p.map it ∧ asc l p := by
  induction xs generalizing l with
  | nil => exact ⟨[], rfl, trivial⟩
  | cons x xs ih =>
    obtain ⟨a, c, rfl, h1, h2, h3⟩ := h
    obtain ⟨p, rfl, h4⟩ := ih h3
    exact ⟨(a, c) :: p, rfl, h1, h2, h4⟩
theorem isPoly_ex {x : PV} : isPoly x ↔ ∃ p : Po, x = pvP p ∧ asc 0 p := by
  constructor
  · rintro ⟨xs, rfl, h⟩
    obtain ⟨p, rfl, h2⟩ := poly_ex h
    exact ⟨p, rfl, h2⟩
  · rintro ⟨p, rfl, h⟩
    exact ⟨_, rfl, polyF_map.mpr h⟩
def pairOk (x : PV) : Prop := ∃ a c : Nat, x = .tup [.int (a : Int), .int (c : Int)] ∧ 1 ≤ c
theorem polyF_drop {xs : List PV} {j l : Nat} {x : PV} (hx : xs[j]? = some x) : polyF l (xs.drop j) ↔ ∃ a c : Nat, x = .tup [.int (a : Int), .int (c : Int)] ∧ l ≤ a ∧ 1 ≤ c ∧ polyF (a + 1) (xs.drop (j + 1)) := by
  have hj := (List.getElem?_eq_some_iff.mp hx).1
  have e : xs.drop j = x :: xs.drop (j + 1) := by
    rw [List.drop_eq_getElem_cons hj, (List.getElem?_eq_some_iff.mp hx).2]
  rw [e]; rfl
theorem two {zs : List PV} (h : zs.length = 2) : ∃ a b, zs = [a, b] := by
  match zs, h with
  | [a, b], _ => exact ⟨a, b, rfl⟩
section
variable {d : Deck} {R : S} {s : S} {Q : PV → S → Prop} {E : Str → PV → S → Prop}
theorem item_p {n l : Nat} {x : PV} {v0 : Option PV} {F : Fl → S → Prop} (ho : okD n x) (q1 : ∀ a c : Nat, x = .tup [.int (a : Int), .int (c : Int)] → l ≤ a → 1 ≤ c → F (.nx [v0, some (.int ((a + 1 : Nat) : Int)), some x]) s)
    (q2 : (¬ ∃ a c : Nat, x = .tup [.int (a : Int), .int (c : Int)] ∧ l ≤ a ∧ 1 ≤ c) → F (.ret (.bl false)) s) : Pq (l_is_poly_value_1 [v0, some (.int (l : Int)), some x] s) F E := by
  unfold l_is_poly_value_1
  by_cases ht : ∃ zs, x = .tup zs
  · obtain ⟨zs, rfl⟩ := ht
    obtain ⟨j, rfl⟩ : ∃ j, n = j + 1 := by
      cases n with
      | zero => exact (ho : False).elim
      | succ j => exact ⟨j, rfl⟩
    have hzs : ∀ y ∈ zs, okD j y := ho
    by_cases h2 : zs.length = 2
    · obtain ⟨a, b, rfl⟩ := two h2
      have oa := hzs a (by simp)
      have ob := hzs b (by simp)
      obtain ⟨b1, h1⟩ := bool_of (∃ i, a = .int i ∧ (l : Int) ≤ i)
      obtain ⟨b2, h2b⟩ := bool_of (∃ i, b = .int i ∧ (1 : Int) ≤ i)
      simp [f_is_tuple, b_is_tuple, startE]
      refine is_from_any oa h1 ?_
      cases b1 with
      | false =>
        simp
        exact q2 fun ⟨a', c', e, g1, g2⟩ => by
          simp at e
          have := h1.mpr ⟨_, e.1, by omega⟩
          cases this
      | true =>
        obtain ⟨i, rfl, hi⟩ := h1.mp rfl
        simp
        refine is_from_any ob h2b ?_
        cases b2 with
        | false =>
          simp
          exact q2 fun ⟨a', c', e, g1, g2⟩ => by
            simp at e
            have := h2b.mpr ⟨_, e.2, by omega⟩
            cases this
        | true =>
          obtain ⟨k, rfl, hk⟩ := h2b.mp rfl
          simp
          have := q1 i.toNat k.toNat (by simp; omega) (by omega) (by omega)
          rw [show ((i.toNat + 1 : Nat) : Int) = i + 1 by omega] at this
          exact this
    · have h2' : ¬ ((zs.length : Int) = 2) := by omega
      simp [f_is_tuple, b_is_tuple, startE, h2']
      exact q2 fun ⟨a', c', e, _⟩ => by cases e; exact h2 rfl
  · have hi := fun s => isi_tup_ok (s := s) ho fun xs e => ht ⟨xs, e⟩
    simp [f_is_tuple, b_is_tuple, startE, hi]
    exact q2 fun ⟨a', c', e, _⟩ => ht ⟨_, e⟩
def ipol (x : PV) (xs : List PV) (s0 : S) (j : Nat) (env : En) (s : S) : Prop := ∃ (l : Nat) (v2 : Option PV), env = [some x, some (.int (l : Int)), v2] ∧ s = s0 ∧ (polyF 0 xs ↔ polyF l (xs.drop j))
theorem poly_any {n : Nat} {b : Bool} {x : PV} (ho : okD n x) (hb : b = true ↔ isPoly x) (q : Q (.bl b) s) : Pq (f_is_poly_value [x] s) Q E := by
  unfold f_is_poly_value b_is_poly_value
  by_cases ht : ∃ zs, x = .tup zs
  · obtain ⟨zs, rfl⟩ := ht
    obtain ⟨j, rfl⟩ : ∃ j, n = j + 1 := by
      cases n with
      | zero => exact (ho : False).elim
      | succ j => exact ⟨j, rfl⟩
    have hzs : ∀ y ∈ zs, okD j y := ho
    have hp : isPoly (.tup zs) ↔ polyF 0 zs := ⟨fun ⟨_, e, h⟩ => by cases e; exact h, fun h => ⟨_, rfl, h⟩⟩
    rw [hp] at hb
    simp [startE]
    refine p_for (ipol (.tup zs) zs s) ⟨0, _, rfl, rfl, by simp⟩ (fun _ _ _ _ _ => ck0) (fun i x hx env s' h' => ?_) fun env s' h' => ?_
    · obtain ⟨l, v2, rfl, rfl, h⟩ := h'
      rw [polyF_drop hx] at h
      simp
      refine item_p (hzs x (List.mem_of_getElem? hx)) (fun a c e h1 h2 => ?_) fun hn => ?_
      · refine ⟨a + 1, _, rfl, rfl, ?_⟩
        rw [h]
        exact ⟨fun ⟨a', c', e', _, _, h3⟩ => by rw [e] at e'; simp at e'; rw [show a = a' by omega]; exact h3, fun h3 => ⟨a, c, e, h1, h2, h3⟩⟩
      · rw [bad_of hb (fun hh => by obtain ⟨a, c, e, h1, h2, _⟩ := h.mp hh; exact hn ⟨a, c, e, h1, h2⟩)] at q
        simpa using q
    · obtain ⟨l, v2, rfl, rfl, h⟩ := h'
      rw [List.drop_length] at h
      rw [hb.mpr (h.mpr trivial)] at q
      simpa using q
  · have hi := fun s => isi_tup_ok (s := s) ho fun xs e => ht ⟨xs, e⟩
    rw [bad_of hb (fun ⟨c, e, _⟩ => ht ⟨_, e⟩)] at q
    simp [startE, hi]
    exact q
/-! the law's reading -/
theorem law_item_p {n : Nat} {x : PV} {v0 v2 : Option PV} {F : Fl → S → Prop} (ho : okD n x) (q1 : pairOk x → F (.nx [v0, some x, v2]) s) (q2 : ¬ pairOk x → F (.ret (.bl false)) s) : Pq (l__law_is_poly_1 [v0, some x, v2] s) F E := by
  unfold l__law_is_poly_1
  by_cases ht : ∃ zs, x = .tup zs
  · obtain ⟨zs, rfl⟩ := ht
    obtain ⟨j, rfl⟩ : ∃ j, n = j + 1 := by
      cases n with
      | zero => exact (ho : False).elim
      | succ j => exact ⟨j, rfl⟩
    have hzs : ∀ y ∈ zs, okD j y := ho
    by_cases h2 : zs.length = 2
    · obtain ⟨a, b, rfl⟩ := two h2
      have oa := hzs a (by simp)
      have ob := hzs b (by simp)
      simp [law_int_any oa]
      cases ha : isInt a with
      | false =>
        simp
        exact q2 fun ⟨a', c', e, _⟩ => by simp at e; rw [e.1] at ha; cases ha
      | true =>
        obtain ⟨i, rfl⟩ := isInt_ex.mp ha
        simp [law_int_any ob]
        cases hb : isInt b with
        | false =>
          simp
          exact q2 fun ⟨a', c', e, _⟩ => by simp at e; rw [e.2] at hb; cases hb
        | true =>
          obtain ⟨k, rfl⟩ := isInt_ex.mp hb
          simp
          by_cases h : 0 ≤ i ∧ 1 ≤ k
          · have h1 : ¬ i < 0 := by omega
            have h2 : ¬ k < 1 := by omega
            simp [h1, h2]
            exact q1 ⟨i.toNat, k.toNat, by simp; omega, by omega⟩
          · have q2 := q2 fun ⟨a', c', e, g⟩ => by simp at e; omega
            by_cases h1 : i < 0
            · simp [h1]; exact q2
            · have h2 : k < 1 := by omega
              simp [h1, h2]; exact q2
    · have h2' : ¬ ((zs.length : Int) = 2) := by omega
      simp [h2']
      exact q2 fun ⟨a', c', e, _⟩ => by cases e; exact h2 rfl
  · have hi := fun s => isi_tup_ok (s := s) ho fun xs e => ht ⟨xs, e⟩
    simp [hi]
    exact q2 fun ⟨a', c', e, _⟩ => ht ⟨_, e⟩
theorem pairs_ex {xs : List PV} (h : ∀ x ∈ xs, pairOk x) : ∃ p : Po, xs = p.map it ∧ ∀ a ∈ p, 1 ≤ a.2 := by
  induction xs with
  | nil => exact ⟨[], rfl, by simp⟩
  | cons x xs ih =>
    obtain ⟨p, rfl, h1⟩ := ih fun y hy => h y (List.mem_cons_of_mem _ hy)
    obtain ⟨a, c, rfl, h2⟩ := h x (List.mem_cons_self ..)
    refine ⟨(a, c) :: p, rfl, fun y hy => ?_⟩
    rcases List.mem_cons.mp hy with rfl | hy
    · exact h2
    · exact h1 y hy
theorem asc_iff {p : Po} {l : Nat} : asc l p ↔ (∀ a ∈ p, 1 ≤ a.2) ∧ (∀ a, p.head? = some a → l ≤ a.1) ∧ ∀ (i : Nat) a b, p[i]? = some a → p[i + 1]? = some b → a.1 < b.1 := by
  induction p generalizing l with
  | nil => simp [asc]
  | cons a p ih =>
    rw [asc, ih]
    constructor
    · rintro ⟨h1, h2, h3, h4, h5⟩
      refine ⟨fun x hx => ?_, fun x hx => ?_, fun i x y hx hy => ?_⟩
      · rcases List.mem_cons.mp hx with rfl | hx
        · exact h2
        · exact h3 x hx
      · cases hx; exact h1
      · cases i with
        | zero =>
          cases hx
          have := h4 y (by rw [List.head?_eq_getElem?]; simpa using hy)
          omega
        | succ i => exact h5 i x y (by simpa using hx) (by simpa using hy)
    · rintro ⟨h1, h2, h3⟩
      refine ⟨h2 a rfl, h1 a (List.mem_cons_self ..), fun x hx => h1 x (List.mem_cons_of_mem _ hx), fun x hx => ?_, fun i x y hx hy => h3 (i + 1) x y (by simpa using hx) (by simpa using hy)⟩
      have := h3 0 a x rfl (by rw [List.head?_eq_getElem?] at hx; simpa using hx)
      omega
end
end Lk26

set_option Elab.async false
set_option linter.all false
set_option maxRecDepth 100000
set_option maxHeartbeats 4000000
namespace Lk26
open PySem PySem.Spec L2 Z
theorem ups_mapn {k : Nat} : ups 0 k = (List.range k).map fun i : Nat => PV.int (i : Int) := by
  refine List.ext_getElem? fun i => ?_
  by_cases h : i < k
  · obtain ⟨v, hv⟩ : ∃ v, (ups 0 k)[i]? = some v := ⟨_, List.getElem?_eq_getElem (by rw [ups_len]; exact h)⟩
    obtain ⟨_, rfl⟩ := ups_ix hv
    rw [hv]
    simp [h]
  · rw [List.getElem?_eq_none (by rw [ups_len]; omega), List.getElem?_eq_none (by simp; omega)]
section
variable {d : Deck} {R : S} {s : S} {Q : PV → S → Prop} {E : Str → PV → S → Prop}
def ilpol (x : PV) (xs : List PV) (s0 : S) (j : Nat) (env : En) (s : S) : Prop := ∃ (v1 v2 : Option PV), env = [some x, v1, v2] ∧ s = s0 ∧ ∀ (i : Nat) y, i < j → xs[i]? = some y → pairOk y
def notUp (p : Po) (i : Nat) : Bool := match p[i]?, p[i + 1]? with
  | some a, some b => decide (b.1 ≤ a.1)
  | _, _ => false
theorem law_poly_any {n : Nat} {b : Bool} {x : PV} (ho : okD n x) (hc : cnt x ≤ 100000) (hb : b = true ↔ isPoly x) (q : Q (.bl b) s) : Pq (f__law_is_poly [x] s) Q E := by
  unfold f__law_is_poly b__law_is_poly
  by_cases ht : ∃ zs, x = .tup zs
  · obtain ⟨zs, rfl⟩ := ht
    obtain ⟨j, rfl⟩ : ∃ j, n = j + 1 := by
      cases n with
      | zero => exact (ho : False).elim
      | succ j => exact ⟨j, rfl⟩
    have hzs : ∀ y ∈ zs, okD j y := ho
    have hl := cnts_len zs
    rw [cnt_tup] at hc
    simp [startE]
    refine p_for (ilpol (.tup zs) zs s) ⟨_, _, rfl, rfl, by simp⟩ (fun _ _ _ _ _ => ck0) (fun i x hx env s' h' => ?_) fun env s' h' => ?_
    · obtain ⟨v1, v2, rfl, rfl, h⟩ := h'
      simp
      refine law_item_p (hzs x (List.mem_of_getElem? hx)) (fun h1 => ?_) fun hn => ?_
      · refine ⟨_, _, rfl, rfl, fun k y hk hy => ?_⟩
        by_cases e : k = i
        · subst e; rw [hx] at hy; cases hy; exact h1
        · exact h k y (by omega) hy
      · rw [bad_of hb (fun hh => by
          obtain ⟨p, e, hp⟩ := isPoly_ex.mp hh
          cases e
          rw [List.getElem?_map] at hx
          cases ha : p[i]? with
          | none => rw [ha] at hx; cases hx
          | some a =>
            rw [ha] at hx
            cases hx
            exact hn ⟨a.1, a.2, rfl, (asc_iff.mp hp).1 a (List.mem_of_getElem? ha)⟩)] at q
        simpa using q
    · obtain ⟨v1, v2, rfl, rfl, h⟩ := h'
      obtain ⟨p, rfl, hp1⟩ := pairs_ex (xs := zs) fun y hy => by
        obtain ⟨i, hi⟩ := List.getElem?_of_mem hy
        exact h i y (List.getElem?_eq_some_iff.mp hi).1 hi
      have hb : b = true ↔ asc 0 p := by
        rw [hb]
        exact ⟨fun ⟨_, e, h⟩ => (by cases e; exact polyF_map.mp h), fun h => ⟨_, rfl, polyF_map.mpr h⟩⟩
      have hpl : p.length ≤ 100000 := by simp at hl; omega
      simp
      refine ⟨by omega, ?_⟩
      rw [ups_mapn]
      simp
      refine ⟨by omega, ?_⟩
      refine p_lcFM (f := fun i : Nat => PV.int (i : Int)) (h := fun i : Nat => PV.int (i : Int)) (p := notUp p) (fun i hi => ?_) ?_
      · have hi := List.mem_range.mp hi
        have ha : p[i]? = some p[i] := List.getElem?_eq_getElem (by omega)
        have hb : p[i + 1]? = some p[i + 1] := List.getElem?_eq_getElem (by omega)
        have a1 : L2.atI (p.map it) (i : Int) = some (it p[i]) := by rw [at_nat, List.getElem?_map, ha]; rfl
        have a2 : L2.atI (p.map it) ((i : Int) + 1) = some (it p[i + 1]) := by rw [show (i : Int) + 1 = ((i + 1 : Nat) : Int) by omega, at_nat, List.getElem?_map, hb]; rfl
        simp [wipeE, a1, a2, it, notUp, ha, hb]
      · have eb : b = ((List.range (p.length - 1)).filter (notUp p)).isEmpty := by
          rw [Bool.eq_iff_iff, hb, List.isEmpty_iff, List.filter_eq_nil_iff, asc_iff]
          constructor
          · intro ⟨_, _, h3⟩ i hi
            have hi := List.mem_range.mp hi
            have ha : p[i]? = some p[i] := List.getElem?_eq_getElem (by omega)
            have hb : p[i + 1]? = some p[i + 1] := List.getElem?_eq_getElem (by omega)
            have := h3 i _ _ ha hb
            simp [notUp, ha, hb]
            omega
          · intro h
            refine ⟨hp1, fun a _ => Nat.zero_le _, fun i x y hx hy => ?_⟩
            have hi := (List.getElem?_eq_some_iff.mp hy).1
            have := h i (List.mem_range.mpr (by omega))
            simp [notUp, hx, hy] at this
            omega
        have hlf : ((List.range (p.length - 1)).filter (notUp p)).length ≤ 16000000 := Nat.le_trans (List.length_filter_le _ _) (by simp; omega)
        generalize (List.range (p.length - 1)).filter (notUp p) = l at *
        simp
        refine ⟨hlf, ?_⟩
        rw [← eb]
        exact q
  · have hi := fun s => isi_tup_ok (s := s) ho fun xs e => ht ⟨xs, e⟩
    rw [bad_of hb (fun ⟨c, e, _⟩ => ht ⟨_, e⟩)] at q
    simp [startE, hi]
    exact q
/-! values -/
def valS (p : Po) (m : Nat) : Int := (p.map fun a => (a.2 : Int) * ((m ^ a.1 : Nat) : Int)).sum
structure poOk (p : Po) : Prop where
  len : p.length ≤ 1000
  ex : ∀ a ∈ p, a.1 ≤ 12 ∧ a.2 ≤ 1000000000000
def ipow (m e : Nat) (s0 : S) (j : Nat) (env : En) (s : S) : Prop := ∃ v3 : Option PV, env = [some (.int (m : Int)), some (.int (e : Int)), some (.int ((m ^ j : Nat) : Int)), v3] ∧ s = s0
theorem power_p {m e : Nat} (hm : m ≤ 1000000) (he : e ≤ 100) (q : Q (.int ((m ^ e : Nat) : Int)) s) : Pq (f_power [.int (m : Int), .int (e : Int)] s) Q E := by
  unfold f_power b_power
  simp [startE]
  refine ⟨by omega, ?_⟩
  refine p_for (ipow m e s) ⟨none, by simp, rfl⟩ (fun _ _ _ _ _ => ck0) (fun i x hx env s' h' => ?_) fun env s' h' => ?_
  · obtain ⟨v3, rfl, rfl⟩ := h'
    obtain ⟨_, rfl⟩ := ups_ix hx
    simp [l_power_1]
    refine ⟨.inr ⟨by omega, by omega⟩, some (.int (i : Int)), ?_, rfl⟩
    rw [Nat.pow_succ]
    simp
  · obtain ⟨v3, rfl, rfl⟩ := h'
    simp [ups_len] at q ⊢
    exact q
theorem law_power_p {m e : Nat} (hm : m ≤ 1000000) (he : e ≤ 100) (q : Q (.int ((m ^ e : Nat) : Int)) s) : Pq (f__law_power [.int (m : Int), .int (e : Int)] s) Q E := by
  unfold f__law_power b__law_power
  simp [startE]
  refine ⟨by omega, ?_⟩
  refine p_for (ipow m e s) ⟨none, by simp, rfl⟩ (fun _ _ _ _ _ => ck0) (fun i x hx env s' h' => ?_) fun env s' h' => ?_
  · obtain ⟨v3, rfl, rfl⟩ := h'
    obtain ⟨_, rfl⟩ := ups_ix hx
    simp [l__law_power_1]
    refine ⟨.inr ⟨by omega, by omega⟩, some (.int (i : Int)), ?_, rfl⟩
    rw [Nat.pow_succ]
    simp
  · obtain ⟨v3, rfl, rfl⟩ := h'
    simp [ups_len] at q ⊢
    exact q
theorem value_p {p : Po} {m : Nat} (hp : poOk p) (hm : m ≤ 1000000) (q : Q (.int (valS p m)) s) : Pq (f_value_of [pvP p, .int (m : Int)] s) Q E := by
  have hl := hp.len
  unfold f_value_of b_value_of
  simp [startE, pvP]
  refine ⟨by omega, ?_⟩
  refine p_lcM (h := fun a : Nat × Nat => PV.int ((a.2 : Int) * ((m ^ a.1 : Nat) : Int))) (fun a ha => ?_) ?_
  · obtain ⟨h1, h2⟩ := hp.ex a ha
    simp [wipeE, it]
    intro Q' q'
    refine power_p hm (by omega) ?_
    simp at q' ⊢
    exact ⟨.inl ⟨by omega, by omega⟩, q'⟩
  · simp
    refine ⟨by omega, ?_⟩
    have e := q_sum (l := p) (p := fun a : Nat × Nat => (a.2 : Int) * ((m ^ a.1 : Nat) : Int)) (s := s)
    simp only [Int.natCast_pow] at e
    rw [e]
    unfold valS at q
    simpa using q
theorem law_value_p {p : Po} {m : Nat} (hp : poOk p) (hm : m ≤ 1000000) (q : Q (.int (valS p m)) s) : Pq (f__law_value_at [pvP p, .int (m : Int)] s) Q E := by
  have hl := hp.len
  unfold f__law_value_at b__law_value_at
  simp [startE, pvP]
  refine ⟨by omega, ?_⟩
  refine p_lcM (h := fun a : Nat × Nat => PV.int ((a.2 : Int) * ((m ^ a.1 : Nat) : Int))) (fun a ha => ?_) ?_
  · obtain ⟨h1, h2⟩ := hp.ex a ha
    simp [wipeE, it]
    intro Q' q'
    refine law_power_p hm (by omega) ?_
    simp at q' ⊢
    exact ⟨.inl ⟨by omega, by omega⟩, q'⟩
  · simp
    refine ⟨by omega, ?_⟩
    have e := q_sum (l := p) (p := fun a : Nat × Nat => (a.2 : Int) * ((m ^ a.1 : Nat) : Int)) (s := s)
    simp only [Int.natCast_pow] at e
    rw [e]
    unfold valS at q
    simpa using q
end
end Lk26

set_option Elab.async false
set_option linter.all false
set_option maxRecDepth 100000
set_option maxHeartbeats 4000000
/-! T2d: tapes: the ends exchanged; machines that walk over the cells for a sign. -/
namespace Z
open PySem PySem.Spec L2
def flp (n q : Nat) : Nat := if n ≤ q then 2 * n + 1 - q else q
def Rl.exch (n : Nat) (r : Rl) : Rl := ⟨flp n r.to, r.sg, r.mv⟩
def Tape.exch (m : Tape) : Tape := ⟨m.tags, m.signs, m.sts.map fun st => st.map (Rl.exch m.sts.length)⟩
theorem Tape.Ok.exch {m : Tape} (ok : m.Ok) : m.exch.Ok := by
  have hl : m.exch.sts.length = m.sts.length := List.length_map ..
  refine ⟨ok.tags, ok.nd, ok.few, ok.sg, ok.sg5, by rw [hl]; exact ok.one, by rw [hl]; exact ok.four, fun st hs => ?_⟩
  obtain ⟨st, h, rfl⟩ := List.mem_map.mp hs
  have := ok.sts st h
  refine ⟨by rw [List.length_map]; exact this.1, fun r hr => ?_⟩
  obtain ⟨r', hr', rfl⟩ := List.mem_map.mp hr
  obtain ⟨a, b, c⟩ := this.2 r' hr'
  refine ⟨?_, b, c⟩
  rw [hl]
  show flp m.sts.length r'.to ≤ m.sts.length + 1
  unfold flp
  split <;> omega
theorem Tape.Ok.exch_iter {m : Tape} (ok : m.Ok) {L : Nat} {cs : List Nat} (g : m.Good L (0, 0, cs)) : ∀ i, m.exch.iter i (0, 0, cs) = (flp m.sts.length (m.iter i (0, 0, cs)).1, (m.iter i (0, 0, cs)).2)
  | 0 => by
    have := ok.one
    show (0, 0, cs) = (flp m.sts.length 0, 0, cs)
    rw [flp, if_neg (by omega)]
  | i + 1 => by
    show m.exch.step (m.exch.iter i (0, 0, cs)) = (flp m.sts.length (m.step (m.iter i (0, 0, cs))).1, (m.step (m.iter i (0, 0, cs))).2)
    rw [ok.exch_iter g i]
    have gi := ok.good g i
    generalize m.iter i (0, 0, cs) = x at gi ⊢
    obtain ⟨q, h, c⟩ := x
    have hl : m.exch.sts.length = m.sts.length := List.length_map ..
    by_cases hq : q < m.sts.length
    · obtain ⟨st, s1, r, h1, h2, h3, hr, hs, _⟩ := ok.step gi hq
      rw [hs]
      have hL : c.length = L := gi.l
      have e0 : flp m.sts.length q = q := by rw [flp, if_neg (by omega)]
      have e1 : m.exch.sts[q]? = some (st.map (Rl.exch m.sts.length)) := by
        show (m.sts.map _)[q]? = _
        simp only at h1
        rw [List.getElem?_map, h1]; rfl
      have e3 : (st.map (Rl.exch m.sts.length))[s1]? = some (r.exch m.sts.length) := by rw [List.getElem?_map, h3]; rfl
      simp only at h2
      show m.exch.step (flp m.sts.length q, h, c) = _
      rw [e0]
      simp only [Tape.step, e1, h2, e3, hL]
      rfl
    · have hq' : m.sts.length ≤ q := by omega
      rw [Tape.step_end (x := (q, h, c)) hq']
      have : q ≤ m.sts.length + 1 := gi.q
      rw [Tape.step_end (by rw [hl]; show m.sts.length ≤ flp m.sts.length q; rw [flp, if_pos hq']; omega)]
/-- the machine ends with yes -/
def Tape.yes (m : Tape) (cs : List Nat) : Bool := decide ((m.iter (cs.length - 1) (0, 0, cs)).1 = m.sts.length)
theorem Tape.Ok.yes_exch {m : Tape} (ok : m.Ok) {L : Nat} {cs : List Nat} (g : m.Good L (0, 0, cs)) (h : m.yes cs = true) : m.exch.yes cs = false := by
  unfold Tape.yes at h ⊢
  rw [ok.exch_iter g]
  have h := of_decide_eq_true h
  refine decide_eq_false ?_
  show ¬ flp m.sts.length _ = m.exch.sts.length
  rw [h, flp, if_pos (Nat.le_refl _), show m.exch.sts.length = m.sts.length from List.length_map ..]
  omega
structure Seek (m : Tape) (w : Nat) : Prop where
  st : ∃ st, m.sts = [st] ∧ ∀ (j : Nat) r, st[j]? = some r → (j = w → r.to = 1) ∧ (j ≠ w → r.to = 0 ∧ r.mv = 1)
theorem Seek.iter {m : Tape} {w : Nat} (k : Seek m w) (ok : m.Ok) {L : Nat} {cs : List Nat} (g : m.Good L (0, 0, cs)) : ∀ i, i + 1 ≤ L →
    (w ∉ cs.take i ∧ ∃ cs', m.iter i (0, 0, cs) = (0, i, cs') ∧ cs'.drop i = cs.drop i) ∨ (w ∈ cs.take i ∧ (m.iter i (0, 0, cs)).1 = 1)
  | 0, _ => .inl ⟨by simp, cs, rfl, rfl⟩
  | i + 1, hi => by
    have hl : cs.length = L := g.l
    obtain ⟨st, k1, k2⟩ := k.st
    rcases k.iter ok g i (by omega) with ⟨h1, cs', h2, h3⟩ | ⟨h1, h2⟩
    · have gi := ok.good g i
      rw [h2] at gi
      obtain ⟨st', c, r, e1, e2, e3, hr, hs, _⟩ := ok.step gi (show 0 < m.sts.length by rw [k1]; simp)
      simp only at e1 e2
      rw [k1] at e1
      have e1 : st = st' := by simpa using e1
      subst e1
      have ec : cs[i]? = some c := by
        have : (cs'.drop i)[0]? = (cs.drop i)[0]? := by rw [h3]
        rw [List.getElem?_drop, List.getElem?_drop] at this
        simpa [e2] using this.symm
      have et : cs.take (i + 1) = cs.take i ++ [c] := by rw [List.take_add_one, ec]; rfl
      have es : m.iter (i + 1) (0, 0, cs) = m.step (m.iter i (0, 0, cs)) := rfl
      rw [es, h2, hs]
      by_cases hc : c = w
      · right
        refine ⟨by rw [et, hc]; simp, (k2 c r e3).1 hc⟩
      · left
        obtain ⟨f1, f2⟩ := (k2 c r e3).2 hc
        refine ⟨by rw [et]; simp [h1, Ne.symm hc], cs'.set i r.sg, ?_, ?_⟩
        · rw [f1, f2]
          have : (min (max ((i : Int) + 1) 0) ((L : Int) - 1)).toNat = i + 1 := by omega
          show ((0 : Nat), (min (max ((i : Int) + 1) 0) ((L : Int) - 1)).toNat, cs'.set i r.sg) = _
          rw [this]
        · rw [List.drop_set_of_lt (by omega), ← List.drop_drop, h3, List.drop_drop]
    · right
      have es : m.iter (i + 1) (0, 0, cs) = m.step (m.iter i (0, 0, cs)) := rfl
      rw [es, Tape.step_end (by rw [k1, h2]; simp)]
      refine ⟨?_, h2⟩
      rw [List.take_add_one]
      exact List.mem_append_left _ h1
theorem Seek.yes {m : Tape} {w : Nat} (k : Seek m w) (ok : m.Ok) {L : Nat} {cs : List Nat} (g : m.Good L (0, 0, cs)) : m.yes cs = decide (w ∈ cs.take (cs.length - 1)) := by
  have hl : cs.length = L := g.l
  have hL : 0 < L := g.h
  obtain ⟨st, k1, k2⟩ := k.st
  unfold Tape.yes
  rw [k1]
  rcases k.iter ok g (cs.length - 1) (by omega) with ⟨h1, cs', h2, h3⟩ | ⟨h1, h2⟩
  · rw [h2]; simp [h1]
  · rw [h2]; simp [h1]
/-- xs[:-1] -/
theorem cut_last {α : Type} {l : List α} (h : 1 ≤ l.length) : cut l none (some (-1)) = l.take (l.length - 1) := by
  unfold cut
  rw [HT.sIx_none]
  have : HT.sIx l.length l.length (some (-1)) = l.length - 1 := by
    unfold HT.sIx
    simp
    omega
  rw [this, List.drop_zero, Nat.sub_zero]
theorem in_nats {w : Nat} : ∀ cs : List Nat, ((cellsPV cs).any fun y => feq y (.int (w : Nat))) = decide (w ∈ cs)
  | [] => rfl
  | c :: cs => by
    show (feq (.int (c : Nat)) (.int (w : Nat)) || (cellsPV cs).any fun y => feq y (.int (w : Nat))) = _
    rw [in_nats cs]
    have : feq (.int (c : Nat)) (.int (w : Nat)) = decide (w = c) := by
      show (some (((c : Nat) : Int) == ((w : Nat) : Int))).getD false = _
      rw [Option.getD_some]
      by_cases h : c = w
      · subst h; simp
      · simp [h, Ne.symm h]; omega
    rw [this]
    by_cases h : w = c <;> simp [h]
theorem nats_pflat : ∀ cs : List Nat, (cellsPV cs).all pflat = true
  | [] => rfl
  | c :: cs => by
    show (pflat (.int (c : Nat)) && (cellsPV cs).all pflat) = true
    rw [nats_pflat cs]; rfl
@[simp] theorem q_in_nats {w : Nat} {cs : List Nat} {s : S} : oIn (.int (w : Nat)) (.lst (cellsPV cs)) s = some (.bl (decide (w ∈ cs)), s) := by
  unfold oIn
  have : inB (.int (w : Nat)) (.lst (cellsPV cs)) s = some (decide (w ∈ cs)) := by
    show (match sqOf s (.lst (cellsPV cs)) with | some ys => if pflat (.int (w : Nat)) && ys.all pflat then some (ys.any fun y => feq y (.int (w : Nat))) else none | none => none) = _
    rw [sq_l]
    show (if pflat (.int (w : Nat)) && (cellsPV cs).all pflat then some ((cellsPV cs).any fun y => feq y (.int (w : Nat))) else none) = _
    rw [nats_pflat, in_nats]; rfl
  rw [this]
end Z

set_option Elab.async false
set_option linter.all false
set_option maxRecDepth 100000
set_option maxHeartbeats 4000000
/-! T2m: zip of any two, filters over mutable lists; rows of code, kinds before rows. -/
namespace Z
open PySem PySem.Spec L2
section
variable {s : S} {env : En} {Q : PV → S → Prop} {E : Str → PV → S → Prop}
@[simp ↓] theorem w_izg {n : AM} {Q : List PV × Ck → S → Prop} : Pq (iZG n env s) Q E = Pq (n env s) (fun vs s1 => onL2 vs fun x y => onP (zpOf s1 x y) fun p => Q p s1) E := by
  simp only [iZG, w_bind]
  (try rw [w_bind]); refine pq_in fun vs s1 => ?_
  unfold onL2
  rcases vs with _ | ⟨x, _ | ⟨y, _ | ⟨z, r⟩⟩⟩
  · exact pqE Iff.rfl
  · exact pqE Iff.rfl
  · show Pq (liftI (zpOf s1 x y) s1) Q E = onP (zpOf s1 x y) fun p => Q p s1
    generalize zpOf s1 x y = o
    cases o <;> exact pqE Iff.rfl
  · exact pqE Iff.rfl
@[simp] theorem zp_tt {xs ys : List PV} : zpOf s (.tup xs) (.tup ys) = some (zipW xs ys, []) := rfl
@[simp] theorem zp_st {z : Str} {ys : List PV} : zpOf s (.str z) (.tup ys) = some (zipW (chs z) ys, []) := rfl
@[simp] theorem zp_ll {xs ys : List PV} : zpOf s (.lst xs) (.lst ys) = some (zipW xs ys, []) := rfl
@[simp] theorem ls_ck_l {xs : List PV} : lsCk s (.lst xs) = some (xs, []) := rfl
theorem ls_ck_o {n : Nat} {xs : List PV} (h : stL s n = some xs) : lsCk s (.obj n) = some (xs, [(n, MO.lst xs)]) := by
  show (match s[n]? with | some (MO.lst xs) => some (xs, [(n, MO.lst xs)]) | _ => none) = _
  rw [stL_ne h]
theorem zp_lo {n : Nat} {xs ys : List PV} (h : stL s n = some ys) : zpOf s (.lst xs) (.obj n) = some (zipW xs ys, [(n, MO.lst ys)]) := by
  show (match lsCk s (.lst xs), lsCk s (.obj n) with | some (xs, c), some (ys, c') => some (zipW xs ys, c ++ c') | _, _ => none) = _
  rw [ls_ck_o h]; rfl
theorem zp_oo {n m : Nat} {xs ys : List PV} (h : stL s m = some xs) (h2 : stL s n = some ys) : zpOf s (.obj m) (.obj n) = some (zipW xs ys, [(m, MO.lst xs), (n, MO.lst ys)]) := by
  show (match lsCk s (.obj m), lsCk s (.obj n) with | some (xs, c), some (ys, c') => some (zipW xs ys, c ++ c') | _, _ => none) = _
  rw [ls_ck_o h, ls_ck_o h2]; rfl
@[simp] theorem q_min3 {i j k : Int} : bMin3 [.int i, .int j, .int k] s = some (.int (min (min i j) k), s) := by unfold bMin3; rfl
@[simp] theorem q_and1 {i : Nat} : oAnd1 (.int (i : Int)) (.int 1) s = some (.int ((i : Int) % 2), s) := by
  show (if 0 ≤ (i : Int) ∧ (1 : Int) = 1 then some (PV.int ((i : Int) % 2), s) else none) = _
  rw [if_pos ⟨by omega, rfl⟩]
@[simp] theorem w_listrg {mu : Bool} {n : Int} : Pq (lift (uListRg mu (.int n) s)) Q E = ((0 ≤ n ∧ n ≤ 1000000) ∧ Pq (lift (newL mu (ups 0 n.toNat) s)) Q E) := by
  show Pq (lift (if 0 ≤ n ∧ n ≤ 1000000 then newL mu (ups 0 n.toNat) s else none)) Q E = _
  split
  · rename_i h; exact pqE ⟨fun q => ⟨h, ⟨q⟩⟩, fun q => q.2.get⟩
  · rename_i h; exact pqE ⟨fun q => q.elim, fun q => h q.1⟩
@[simp] theorem w_repG {xs : List PV} {k : Int} : Pq (lift (oRepG (.tup xs) (.int k) s)) Q E = ((xs.isEmpty = false ∧ xs.length ≤ 1000 ∧ -1000 ≤ k ∧ k ≤ 1000) ∧ Pq (lift (newT (List.replicate k.toNat xs).flatten s)) Q E) := by
  show Pq (lift (if xs.isEmpty = false ∧ xs.length ≤ 1000 ∧ -1000 ≤ k ∧ k ≤ 1000 then newT (List.replicate k.toNat xs).flatten s else none)) Q E = _
  split
  · rename_i h; exact pqE ⟨fun q => ⟨h, ⟨q⟩⟩, fun q => q.2.get⟩
  · rename_i h; exact pqE ⟨fun q => q.elim, fun q => h q.1⟩
/-! written dicts of the module -/
def onK (kvs : List (Str × PV)) (x : PV) (P : PV → Prop) (_t : Tg P := ⟨⟩) : Prop :=
  match x with
  | .str z => (match getS kvs z with | some c => P c | none => False)
  | _ => False
theorem onK_some {kvs : List (Str × PV)} {z : Str} {c : PV} {P : PV → Prop} (h : getS kvs z = some c) : onK kvs (.str z) P = P c := by
  unfold onK
  simp only [h]
@[simp ↓] theorem w_kix {kvs : List (Str × PV)} {m : EM} : Pq (eKIx kvs m env s) Q E = Pq (m env s) (fun x s1 => onK kvs x fun c => Q c s1) E := by
  simp only [eKIx, w_bind]
  (try rw [w_bind]); refine pq_in fun x s1 => ?_
  cases x with
  | str z =>
    show Pq (match getS kvs z with | some c => Rs.ok c s1 | none => Rs.fail) Q E = (match getS kvs z with | some c => Q c s1 | none => False)
    cases getS kvs z with
    | none => exact pqE Iff.rfl
    | some c => exact pqE Iff.rfl
  | _ => exact pqE Iff.rfl
def onZs (x : PV) (P : Str → Prop) (_t : Tg P := ⟨⟩) : Prop :=
  match x with
  | .str z => P z
  | _ => False
@[simp ↓] theorem onZs_s {z : Str} {P : Str → Prop} : onZs (.str z) P = P z := propext Iff.rfl
@[simp ↓] theorem w_knin {kvs : List (Str × PV)} {m : EM} : Pq (eKNin kvs m env s) Q E = Pq (m env s) (fun x s1 => onZs x fun z => Q (.bl (!(getS kvs z).isSome)) s1) E := by
  simp only [eKNin, w_bind]
  (try rw [w_bind]); refine pq_in fun x s1 => ?_
  cases x <;> exact pqE Iff.rfl
@[simp] theorem q_in_t1 {z a : Str} : oIn (.str z) (.tup [.str a]) s = some (.bl (decide (z ∈ [a])), s) := q_in_ts (ts := [a])
@[simp] theorem q_nin_t1 {z a : Str} : oNotIn (.str z) (.tup [.str a]) s = some (.bl (!decide (z ∈ [a])), s) := q_nin_ts (ts := [a])
@[simp] theorem q_in_t2 {z a b : Str} : oIn (.str z) (.tup [.str a, .str b]) s = some (.bl (decide (z ∈ [a, b])), s) := q_in_ts (ts := [a, b])
@[simp] theorem q_nin_t2 {z a b : Str} : oNotIn (.str z) (.tup [.str a, .str b]) s = some (.bl (!decide (z ∈ [a, b])), s) := q_nin_ts (ts := [a, b])
@[simp] theorem q_in_t3 {z a b c : Str} : oIn (.str z) (.tup [.str a, .str b, .str c]) s = some (.bl (decide (z ∈ [a, b, c])), s) := q_in_ts (ts := [a, b, c])
@[simp] theorem q_nin_t3 {z a b c : Str} : oNotIn (.str z) (.tup [.str a, .str b, .str c]) s = some (.bl (!decide (z ∈ [a, b, c])), s) := q_nin_ts (ts := [a, b, c])
@[simp] theorem q_in_t4 {z a b c d : Str} : oIn (.str z) (.tup [.str a, .str b, .str c, .str d]) s = some (.bl (decide (z ∈ [a, b, c, d])), s) := q_in_ts (ts := [a, b, c, d])
@[simp] theorem q_nin_t4 {z a b c d : Str} : oNotIn (.str z) (.tup [.str a, .str b, .str c, .str d]) s = some (.bl (!decide (z ∈ [a, b, c, d])), s) := q_nin_ts (ts := [a, b, c, d])
@[simp] theorem q_in_t5 {z a b c d e : Str} : oIn (.str z) (.tup [.str a, .str b, .str c, .str d, .str e]) s = some (.bl (decide (z ∈ [a, b, c, d, e])), s) := q_in_ts (ts := [a, b, c, d, e])
@[simp] theorem q_nin_t5 {z a b c d e : Str} : oNotIn (.str z) (.tup [.str a, .str b, .str c, .str d, .str e]) s = some (.bl (!decide (z ∈ [a, b, c, d, e])), s) := q_nin_ts (ts := [a, b, c, d, e])
@[simp] theorem q_eq_nn : oEqD .non .non s = some (.bl true, s) := by
  have e : oEqB .non .non s = some true := by
    show (if (PV.non).depth ≤ 60 then peq .non .non else none) = _
    rw [if_pos (by simp [PV.depth])]
    rw [peq] <;> simp
  show (match oEqB .non .non s with | some b => some (PV.bl b, s) | none => none) = _
  rw [e]
@[simp] theorem q_eq_ns {z : Str} : oEqD .non (.str z) s = some (.bl false, s) := by
  have e : oEqB .non (.str z) s = some false := by
    show (if (PV.non).depth ≤ 60 then peq .non (.str z) else none) = _
    rw [if_pos (by simp [PV.depth])]
    rw [peq] <;> simp
  show (match oEqB .non (.str z) s with | some b => some (PV.bl b, s) | none => none) = _
  rw [e]
@[simp] theorem q_eq_sn {z : Str} : oEqD (.str z) .non s = some (.bl false, s) := by
  have e : oEqB (.str z) .non s = some false := by
    show (if (PV.non).depth ≤ 60 then peq (.str z) .non else none) = _
    rw [if_pos (by simp [PV.depth])]
    rw [peq] <;> simp
  show (match oEqB (.str z) .non s with | some b => some (PV.bl b, s) | none => none) = _
  rw [e]
@[simp] theorem q_ne_nn : oNeD .non .non s = some (.bl false, s) := by
  have e : oEqB .non .non s = some true := by
    show (if (PV.non).depth ≤ 60 then peq .non .non else none) = _
    rw [if_pos (by simp [PV.depth])]
    rw [peq] <;> simp
  show (match oEqB .non .non s with | some b => some (PV.bl (!b), s) | none => none) = _
  rw [e]; rfl
@[simp] theorem q_ne_ns {z : Str} : oNeD .non (.str z) s = some (.bl true, s) := by
  have e : oEqB .non (.str z) s = some false := by
    show (if (PV.non).depth ≤ 60 then peq .non (.str z) else none) = _
    rw [if_pos (by simp [PV.depth])]
    rw [peq] <;> simp
  show (match oEqB .non (.str z) s with | some b => some (PV.bl (!b), s) | none => none) = _
  rw [e]; rfl
@[simp] theorem q_ne_sn {z : Str} : oNeD (.str z) .non s = some (.bl true, s) := by
  have e : oEqB (.str z) .non s = some false := by
    show (if (PV.non).depth ≤ 60 then peq (.str z) .non else none) = _
    rw [if_pos (by simp [PV.depth])]
    rw [peq] <;> simp
  show (match oEqB (.str z) .non s with | some b => some (PV.bl (!b), s) | none => none) = _
  rw [e]; rfl
@[simp] theorem at_m2 {α : Type} {a b : α} : L2.atI [a, b] (-1) = some b := rfl
@[simp] theorem at_m3 {α : Type} {a b c : α} : L2.atI [a, b, c] (-1) = some c := rfl
theorem ofS_inj {a b : String} : (Str.ofString a = Str.ofString b) = (a = b) := by
  refine propext ⟨fun h => ?_, fun h => by rw [h]⟩
  have h1 : a.toList.map Char.toNat = b.toList.map Char.toNat := by
    rw [← PyProof.Rows.signs_ofString, ← PyProof.Rows.signs_ofString, h]
  have key : ∀ l m : List Char, l.map Char.toNat = m.map Char.toNat → l = m := by
    intro l
    induction l with
    | nil => intro m e; cases m with | nil => rfl | cons c m => simp at e
    | cons c l ih =>
      intro m e
      cases m with
      | nil => simp at e
      | cons d m =>
        simp at e
        rw [ih m e.2]
        have : c = d := Char.ext (UInt32.toNat_inj.mp e.1)
        rw [this]
  exact String.toList_injective (key _ _ h1)
theorem cut1 {α : Type} {a : α} {l : List α} : cut (a :: l) (some 1) none = l := by
  have := cut_from (l := a :: l) (k := 1)
  simpa using this
theorem p_lcfiltC {c : Ck} {t : GM} {ts : TM} {m : EM} {env : En} {s : S} {g : PV → PV} {p : PV → Bool} {Q : List PV → S → Prop} : ∀ {xs : List PV} (hc : ckOk c s) (h : ∀ x ∈ xs, onE (t x env s) fun e => (∀ Q' : Bool → S → Prop, Q' (p x) s → Pq (ts e s) Q' noE) ∧ (p x = true → ∀ Q' : PV → S → Prop, Q' (g x) s → Pq (m e s) Q' noE)) (q : Q ((xs.filter p).map g) s), Pq (lcL c t ts m env xs s) Q E := by
  intro xs hc h q
  refine p_lc (fun i acc s' => s' = s ∧ acc = ((xs.take i).filter p).map g) (acc := []) ⟨rfl, by simp⟩ (fun i acc s' _ h => by rw [h.1]; exact hc) (fun i x hx acc s' ⟨e1, e2⟩ => ?_) fun ys s' ⟨e1, e2⟩ => ?_
  · subst e1
    have := h x (List.mem_of_getElem? hx)
    cases ht : t x env s' with
    | none => rw [ht] at this; exact this.elim
    | some e =>
      rw [ht] at this
      obtain ⟨h1, h2⟩ : (∀ Q' : Bool → S → Prop, Q' (p x) s' → Pq (ts e s') Q' noE) ∧ (p x = true → ∀ Q' : PV → S → Prop, Q' (g x) s' → Pq (m e s') Q' noE) := this
      rw [onE_some]
      refine h1 _ ?_
      cases hp : p x with
      | false =>
        rw [if_neg Bool.false_ne_true]
        refine ⟨rfl, ?_⟩
        rw [e2, List.take_add_one, hx, List.filter_append]; simp [hp]
      | true =>
        rw [if_pos rfl]
        refine h2 hp _ ⟨rfl, ?_⟩
        rw [e2, List.take_add_one, hx, List.filter_append]; simp [hp]
  · subst e1
    rw [List.nil_append] at e2
    rw [e2, List.take_length]; exact q
end
end Z

set_option Elab.async false
set_option linter.all false
set_option maxRecDepth 100000
set_option maxHeartbeats 4000000
namespace Lk26
open PySem PySem.Spec L2 Z
theorem asc_snoc {p : Po} {l : Nat} {x : Nat × Nat} (h : asc l p) (h1 : l ≤ x.1) (h2 : ∀ a ∈ p, a.1 < x.1) (h3 : 1 ≤ x.2) : asc l (p ++ [x]) := by
  induction p generalizing l with
  | nil => exact ⟨h1, h3, trivial⟩
  | cons a p ih => exact ⟨h.1, h.2.1, ih h.2.2 (h2 a (List.mem_cons_self ..)) fun b hb => h2 b (List.mem_cons_of_mem _ hb)⟩
theorem asc_le {p : Po} {l l' : Nat} (h : asc l p) (hl : l' ≤ l) : asc l' p := by
  cases p with
  | nil => trivial
  | cons a p => exact ⟨by have := h.1; omega, h.2⟩
theorem asc_take {p : Po} {l n : Nat} (h : asc l p) : asc l (p.take n) := by
  induction p generalizing l n with
  | nil => simp [asc]
  | cons a p ih =>
    cases n with
    | zero => trivial
    | succ n => exact ⟨h.1, h.2.1, ih h.2.2⟩
theorem asc_drop {p : Po} {l n : Nat} (h : asc l p) : asc 0 (p.drop n) := by
  induction p generalizing l n with
  | nil => simp [asc]
  | cons a p ih =>
    cases n with
    | zero => exact asc_le h (Nat.zero_le _)
    | succ n => exact ih h.2.2
structure poG (p : Po) : Prop where
  asc : asc 0 p
  len : p.length ≤ 9
  ex : ∀ a ∈ p, a.1 ≤ 12 ∧ a.2 ≤ 1000000000000
theorem poG.ok {p : Po} (h : poG p) : poOk p := ⟨by have := h.len; omega, h.ex⟩
section
variable {d : Deck} {R : S} {s : S} {Q : PV → S → Prop} {E : Str → PV → S → Prop} {M W : Nat}
theorem it_gm {a : Nat × Nat} (h : a.1 ≤ 13 ∧ a.2 ≤ 1000000000000) (hM : 1000000000000000000000000000000000000000 ≤ M) (hM2 : M ≤ 10000000000000000000000000000000000000000000) (h3 : 4 ≤ W) : gm 1 3 M W (it a) := by
  have I : ∀ i : Int, i.natAbs ≤ 1000000000000000000000000000000000000000 → gm 0 1 M W (.int i) := fun i hi => gm_int (by omega) hM2
  refine gm_tup (n := 0) (c := 2) ?_ (by simp) ?_ (by simp; omega)
  · simp; exact ⟨(I _ (by omega)).1, (I _ (by omega)).1⟩
  · simp; exact ⟨(I _ (by omega)).2.2, (I _ (by omega)).2.2⟩
theorem its_gm {p : Po} (h : ∀ a ∈ p, a.1 ≤ 12 ∧ a.2 ≤ 1000000000000) (hM : 1000000000000000000000000000000000000000 ≤ M) (hM2 : M ≤ 10000000000000000000000000000000000000000000) (h3 : 4 ≤ W) : ∀ x ∈ p.map it, gm 1 3 M W x := fun x hx => by
  obtain ⟨a, ha, rfl⟩ := List.mem_map.mp hx
  have := h a ha
  exact it_gm ⟨by omega, this.2⟩ hM hM2 h3
theorem tup_gm {n c : Nat} {xs : List PV} (h : ∀ x ∈ xs, gm n c M W x) (hl : xs.length ≤ W) : gm (n + 1) (xs.length * c + 1) M W (.tup xs) := gm_tup (fun x hx => (h x hx).1) (cnts_le fun x hx => (h x hx).2.1) (fun x hx => (h x hx).2.2) hl
theorem lst_gm {n c : Nat} {xs : List PV} (h : ∀ x ∈ xs, gm n c M W x) : gm (n + 1) (xs.length * c + 1) M W (.lst xs) := gm_lst (fun x hx => (h x hx).1) (cnts_le fun x hx => (h x hx).2.1)
def idp (R : S) (j : Nat) (env : En) (s : S) : Prop := ∃ (d : Deck) (p : Po) (k : Nat) (v4 v5 : Option PV), asc 0 p ∧ p.length ≤ j ∧ (∀ a ∈ p, a.1 ≤ 12 ∧ a.2 ≤ 1000000000000) ∧ (∀ a ∈ p, a.1 ≤ k) ∧
  env = [some (.obj 0), some (.int 9), some (.obj (R.length + 2)), some (.int (k : Int)), v4, v5] ∧ s = d.st "left" (R ++ [.lst (p.map it)])
def imany (p : Po) (L : S) (v : PV) (s : S) : Prop := ∃ (d : Deck) (k : Nat), (∀ a ∈ p, a.1 ≤ k) ∧ v = .int (k : Int) ∧ s = d.st "left" L
theorem q_in_fst {k : Nat} {p : Po} {s : S} : oNotIn (.int (k : Int)) (.lst (p.map fun a => PV.int (a.1 : Int))) s = some (.bl (!decide (k ∈ p.map (·.1))), s) := by
  have := q_in_nats (w := k) (cs := p.map (·.1)) (s := s)
  unfold cellsPV at this
  rw [List.map_map] at this
  have h2 : oIn (.int (k : Int)) (.lst (p.map fun a => PV.int (a.1 : Int))) s = some (.bl (decide (k ∈ p.map (·.1))), s) := this
  unfold oIn at h2
  unfold oNotIn
  cases e : inB (.int (k : Int)) (.lst (p.map fun a => PV.int (a.1 : Int))) s with
  | none => rw [e] at h2; cases h2
  | some b => rw [e] at h2; cases h2; rfl
theorem drawn_poly_p (q : ∀ (p : Po) (d' : Deck) (J : S), poG p → Q (pvP p) (d'.st "left" (R ++ J))) : Pq (f__law_drawn_poly [.obj 0, .int 9] (d.st "left" R)) Q E := by
  unfold f__law_drawn_poly b__law_drawn_poly
  simp [startE]
  refine draw_ok (by omega) (by omega) fun n d1 n0 n1 => ?_
  simp
  refine ⟨by omega, ?_⟩
  refine p_for (idp R) ⟨d1, [], 0, _, _, trivial, by simp, by simp, by simp, rfl, rfl⟩ (fun _ _ _ _ _ => ck0) (fun i x hx env s' h' => ?_) fun env s' h' => ?_
  · obtain ⟨d, p, k, v4, v5, h1, h2, h3, h4, rfl, rfl⟩ := h'
    obtain ⟨hi, rfl⟩ := ups_ix hx
    have hpl : p.length ≤ 9 := by omega
    simp [l__law_drawn_poly_1]
    refine Pq.mono (Q := imany p (R ++ [.lst (p.map it)])) ?_ (fun v s hh => ?_) fun _ _ _ z => z
    · refine post_iteP (fun h => ?_) fun h => ?_
      · simp
        refine draw_ok (by omega) (by omega) fun r d2 r0 r1 => ?_
        simp
        exact ⟨d2, k + r.toNat, fun a ha => by have := h4 a ha; omega, by simp; omega, rfl⟩
      · simp
        refine draw_ok (by omega) (by omega) fun r d2 r0 r1 => ?_
        have hp0 : p = [] := List.length_eq_zero_iff.mp (by omega)
        exact ⟨d2, r.toNat, by simp [hp0], by simp; omega, rfl⟩
    · obtain ⟨d2, k2, hk, rfl, rfl⟩ := hh
      simp
      refine Pq.mono (Q := fun b s => s = d2.st "left" (R ++ [.lst (p.map it)]) ∧ (b = true → k2 < 13 ∧ k2 ∉ p.map (·.1))) ?_ (fun b s hh => ?_) fun _ _ _ z => z
      · refine post_iteP (fun h => ?_) fun h => ?_
        · simp
          refine ⟨by omega, ?_⟩
          refine p_lcM (h := fun a : Nat × Nat => PV.int (a.1 : Int)) (fun a ha => ?_) ?_ (ck1 (by rw [st_get]; simp))
          · simp [wipeE, it]
          · simp [q_in_fst]
            refine ⟨by omega, ?_⟩
            exact fun h => ⟨by omega, h⟩
        · simp
      · obtain ⟨rfl, hb⟩ := hh
        cases b with
        | false =>
          simp
          exact ⟨d2, p, k2, _, _, h1, by omega, h3, hk, rfl, rfl⟩
        | true =>
          obtain ⟨b1, b2⟩ := hb rfl
          simp
          refine pickl_p (by simp) (by simp) fun v d3 hv => ?_
          obtain ⟨m, rfl, hm1, hm2⟩ : ∃ m : Int, v = .int m ∧ 1 ≤ m ∧ m ≤ 1000000000000 := by
            simp at hv
            rcases hv with rfl | rfl | rfl
            · exact ⟨9, rfl, by omega, by omega⟩
            · exact ⟨1000, rfl, by omega, by omega⟩
            · exact ⟨_, rfl, by omega, by omega⟩
          simp
          refine draw_ok (by omega) (by omega) fun c d4 c0 c1 => ?_
          simp
          have lt : ∀ a ∈ p, a.1 < k2 := fun a ha => by
            have h5 := hk a ha
            have h6 : a.1 ≠ k2 := fun e => b2 (List.mem_map.mpr ⟨a, ha, e⟩)
            omega
          refine ⟨by omega, d4, p ++ [(k2, (1 + c).toNat)], k2, _, _, asc_snoc h1 (Nat.zero_le _) lt (by omega), by simp; omega, fun a ha => ?_, fun a ha => ?_, rfl, ?_⟩
          · rcases List.mem_append.mp ha with ha | ha
            · exact h3 a ha
            · rw [List.mem_singleton.mp ha]; exact ⟨by omega, by omega⟩
          · rcases List.mem_append.mp ha with ha | ha
            · exact Nat.le_of_lt (lt a ha)
            · rw [List.mem_singleton.mp ha]; exact Nat.le_refl _
          · simp [it]
            rw [show max (1 + c) 0 = 1 + c by omega]
  · obtain ⟨d, p, k, v4, v5, h1, h2, h3, h4, rfl, rfl⟩ := h'
    rw [ups_len] at h2
    simp
    exact ⟨by omega, q p d _ ⟨h1, by omega, h3⟩⟩
def inear (v : PV) (s : S) (M W : Nat) (R : S) : Prop := ∃ (d : Deck) (J : S), gm 6 80 (M + 1) (W + 1) v ∧ s = d.st "left" (R ++ J)
theorem near_p {p : Po} (hp : poG p) (hM : 1000000000000000000000000000000000000000 ≤ M) (hM2 : M + 1 ≤ 10000000000000000000000000000000000000000000) (h3 : 20 ≤ W) (h4 : W + 1 ≤ 40) (q : ∀ (v : PV) (d' : Deck) (J : S), gm 6 80 (M + 1) (W + 1) v → Q v (d'.st "left" (R ++ J))) : Pq (f__law_near_poly [.obj 0, pvP p] (d.st "left" R)) Q E := by
  have hl := hp.len
  have hx := its_gm hp.ex hM (by omega) (show 4 ≤ W by omega)
  have I : ∀ i : Int, i.natAbs ≤ 1000000000000000000000000000000000000000 → gm 0 1 M W (.int i) := fun i hi => gm_int (by omega) (by omega)
  have Z : ∀ z : Str, (z.length ≤ 30 ∧ ∀ c ∈ z.cps.toList, c < 128) → gm 0 1 M W (.str z) := fun z hz => lit_gm hz (by omega)
  have T : ∀ (xs : List PV), (∀ x ∈ xs, gm 1 4 M W x) → xs.length ≤ 12 → gm 2 49 M W (.tup xs) := fun xs h1 h2 => gm_up (tup_gm h1 (by omega))
  have T2 : ∀ (xs : List PV), (∀ x ∈ xs, gm 0 1 M W x) → xs.length ≤ 3 → gm 1 4 M W (.tup xs) := fun xs h1 h2 => gm_up (tup_gm h1 (by omega))
  have two : ∀ a b : PV, gm 0 1 M W a → gm 0 1 M W b → gm 1 4 M W (.tup [a, b]) := fun a b ha hb => T2 _ (by simp; exact ⟨ha, hb⟩) (by simp)
  have hx4 : ∀ x ∈ p.map it, gm 1 4 M W x := fun x h => gm_up (hx x h)
  have cat : ∀ a : PV, gm 1 4 M W a → gm 2 49 M W (.tup (p.map it ++ [a])) := fun a ha => T _ (fun x h => by
    rcases List.mem_append.mp h with h | h
    · exact hx4 x h
    · rw [List.mem_singleton.mp h]; exact ha) (by simp; omega)
  have one : ∀ a : PV, gm 1 4 M W a → gm 2 49 M W (.tup [a]) := fun a ha => T _ (by simpa using ha) (by simp)
  have hcut := cut_len (p.map it) none (some 1)
  have hc1 : (cut (p.map it) none (some 1)).length ≤ 1 := by
    have := cut_to (l := p.map it) (k := 1)
    rw [show ((1 : Nat) : Int) = 1 from rfl] at this
    rw [this, List.length_take]
    omega
  unfold f__law_near_poly b__law_near_poly
  rw [List.length_map] at hcut
  simp [startE, pvP, keys, kP, mergeP, putP, dis_ix, dis_st]
  repeat refine ⟨by omega, ?_⟩
  refine draw_ok (by omega) (by omega) fun r d1 r0 r1 => ?_
  have all : ∀ v ∈ [PV.tup (List.map it p).reverse, PV.lst (List.map it p),
                PV.tup (List.map it p ++ cut (List.map it p) none (some 1)),
                PV.tup (List.map it p ++ [PV.tup [PV.int 13, PV.int 0]]),
                PV.tup (List.map it p ++ [PV.tup [PV.int 13, PV.int (-1)]]),
                PV.tup (PV.tup [PV.int (-1), PV.int 1] :: List.map it p),
                PV.tup (List.map it p ++ [PV.tup [PV.bl true, PV.int 2]]),
                PV.tup (List.map it p ++ [PV.tup [PV.int 12, PV.bl true]]),
                PV.tup [PV.tup [PV.int 0, PV.int 1, PV.int 1]], PV.tup [PV.tup [PV.int 0]],
                PV.tup [PV.lst [PV.int 0, PV.int 1]], PV.tup [PV.tup [PV.str (Str.ofString "0"), PV.int 1]],
                PV.tup [PV.tup [PV.int 0, PV.str (Str.ofString "1")]], PV.int 5, PV.non, PV.str (Str.ofString "poly"),
                PV.dic [], PV.tup [PV.int 0, PV.int 1], PV.tup [PV.tup [PV.int 0, PV.non]],
                PV.tup [PV.tup [PV.int 3, PV.int 2], PV.tup [PV.int 3, PV.int 1]],
                PV.tup [PV.tup [PV.int 3, PV.int 2], PV.tup [PV.int 2, PV.int 1]]], gm 2 49 M W v := by
    simp only [List.forall_mem_cons]
    refine ⟨?_, ?_, ?_, ?_, ?_, ?_, ?_, ?_, ?_, ?_, ?_, ?_, ?_, ?_, ?_, ?_, ?_, ?_, ?_, ?_, ?_, by simp⟩
    · exact T _ (fun x h => hx4 x (List.mem_reverse.mp h)) (by simp; omega)
    · exact gm_up (lst_gm hx4) (b := by simp; omega)
    · exact T _ (fun x h => by
        rcases List.mem_append.mp h with h | h
        · exact hx4 x h
        · exact hx4 x (cut_mem h)) (by rw [List.length_append, List.length_map]; omega)
    · exact cat _ (two _ _ (I _ (by decide)) (I _ (by decide)))
    · exact cat _ (two _ _ (I _ (by decide)) (I _ (by decide)))
    · exact T _ (fun x h => by
        rcases List.mem_cons.mp h with rfl | h
        · exact two _ _ (I _ (by decide)) (I _ (by decide))
        · exact hx4 x h) (by simp; omega)
    · exact cat _ (two _ _ gm_bl (I _ (by decide)))
    · exact cat _ (two _ _ (I _ (by decide)) gm_bl)
    · exact one _ (T2 _ (by simp; exact ⟨I _ (by decide), I _ (by decide)⟩) (by simp))
    · exact one _ (T2 _ (by simp; exact I _ (by decide)) (by simp))
    · exact one _ (gm_up (lst_gm (M := M) (W := W) (n := 0) (c := 1) (xs := [.int 0, .int 1]) (by simp; exact ⟨I _ (by decide), I _ (by decide)⟩)) (b := by simp))
    · exact one _ (two _ _ (Z _ (by decide +kernel)) (I _ (by decide)))
    · exact one _ (two _ _ (I _ (by decide)) (Z _ (by decide +kernel)))
    · exact gm_up (I _ (by decide))
    · exact gm_up gm_non
    · exact gm_up (Z _ (by decide +kernel))
    · exact ⟨okD_dic (by simp), by simp, gk_dic⟩
    · exact gm_up (two _ _ (I _ (by decide)) (I _ (by decide)))
    · exact one _ (two _ _ (I _ (by decide)) gm_non)
    · exact T _ (by simp; exact ⟨two _ _ (I _ (by decide)) (I _ (by decide)), two _ _ (I _ (by decide)) (I _ (by decide))⟩) (by simp)
    · exact T _ (by simp; exact ⟨two _ _ (I _ (by decide)) (I _ (by decide)), two _ _ (I _ (by decide)) (I _ (by decide))⟩) (by simp)
  have hne : ∀ (a : PV) (l : List PV), (a :: l) ≠ [] := fun a l => by simp
  generalize hL : [PV.tup (List.map it p).reverse, PV.lst (List.map it p),
                PV.tup (List.map it p ++ cut (List.map it p) none (some 1)),
                PV.tup (List.map it p ++ [PV.tup [PV.int 13, PV.int 0]]),
                PV.tup (List.map it p ++ [PV.tup [PV.int 13, PV.int (-1)]]),
                PV.tup (PV.tup [PV.int (-1), PV.int 1] :: List.map it p),
                PV.tup (List.map it p ++ [PV.tup [PV.bl true, PV.int 2]]),
                PV.tup (List.map it p ++ [PV.tup [PV.int 12, PV.bl true]]),
                PV.tup [PV.tup [PV.int 0, PV.int 1, PV.int 1]], PV.tup [PV.tup [PV.int 0]],
                PV.tup [PV.lst [PV.int 0, PV.int 1]], PV.tup [PV.tup [PV.str (Str.ofString "0"), PV.int 1]],
                PV.tup [PV.tup [PV.int 0, PV.str (Str.ofString "1")]], PV.int 5, PV.non, PV.str (Str.ofString "poly"),
                PV.dic [], PV.tup [PV.int 0, PV.int 1], PV.tup [PV.tup [PV.int 0, PV.non]],
                PV.tup [PV.tup [PV.int 3, PV.int 2], PV.tup [PV.int 3, PV.int 1]],
                PV.tup [PV.tup [PV.int 3, PV.int 2], PV.tup [PV.int 2, PV.int 1]]] = L at *
  have hL1 : L ≠ [] := by rw [← hL]; simp
  have hL2 : L.length = 21 := by rw [← hL]; rfl
  have hP : gm 2 29 M W (.tup (p.map it)) := gm_up (tup_gm hx (by simp; omega)) (b := by simp; omega)
  simp
  refine post_iteP (fun h => ?_) fun h => ?_
  · simp
    refine bent_p (M := M) (W := W) hM hM2 (by omega) h4 10 3 _ (by omega) hP (by omega) fun v d2 hv => ?_
    simp
    exact q v d2 _ (gm_up hv)
  · simp
    refine picko_p (xs := L) (by simp) hL1 (by omega) fun v d2 hv => ?_
    simp
    exact q v d2 _ (gm_up (all v hv))
end
end Lk26

set_option Elab.async false
set_option linter.all false
set_option maxRecDepth 100000
set_option maxHeartbeats 4000000
namespace Lk26
open PySem PySem.Spec L2 Z
/-! the law -/
theorem mul2 {x : PV} {s : S} : oMul false (.tup [x]) (.int 2) s = newT [x, x] s := by
  unfold oMul oRepT
  rfl
theorem valS_le {p : Po} {m : Nat} (h : ∀ a ∈ p, a.1 ≤ 12 ∧ a.2 ≤ 1000000000000) (hm : m ≤ 1000000) : (valS p m).natAbs ≤ p.length * 10 ^ 84 := by
  induction p with
  | nil => simp [valS]
  | cons a p ih =>
    have h1 := ih fun b hb => h b (List.mem_cons_of_mem _ hb)
    obtain ⟨h2, h3⟩ := h a (List.mem_cons_self ..)
    have h4 : m ^ a.1 ≤ 10 ^ 72 := by
      refine Nat.le_trans (Nat.pow_le_pow_left hm _) ?_
      refine Nat.le_trans (Nat.pow_le_pow_right (by omega) h2) ?_
      decide
    have h5 : a.2 * m ^ a.1 ≤ 1000000000000 * 10 ^ 72 := Nat.mul_le_mul h3 h4
    have e : valS (a :: p) m = ((a.2 * m ^ a.1 : Nat) : Int) + valS p m := by simp [valS]
    rw [e, List.length_cons]
    have : (1000000000000 * 10 ^ 72 : Nat) = 10 ^ 84 := by decide
    generalize a.2 * m ^ a.1 = u at *
    generalize (10 : Nat) ^ 84 = B at *
    rw [Nat.succ_mul]
    omega
theorem valS_app {p r : Po} {m : Nat} : valS (p ++ r) m = valS p m + valS r m := by simp [valS]
theorem val_shw {p : Po} {m : Nat} (hp : poOk p) (hm : m ≤ 1000000) : Shw 1 101 (.int (valS p m)) := by
  refine (Shw.int (k := 90) (by omega) ?_ (by omega)).up (Nat.le_refl _) (by omega)
  refine Nat.lt_of_le_of_lt (valS_le hp.ex hm) ?_
  exact Nat.lt_of_le_of_lt (Nat.mul_le_mul_right _ hp.len) (by decide)
abbrev fine (v : PV) : Prop := gm 6 80 (1000000000000000000000000000000000000000 + 1) (20 + 1) v
theorem fine_repr {v : PV} (h : fine v) {s : S} : bRepr [v] s = some (.str (reprT v), s) := q_repr h.1 (by decide) (Nat.le_trans h.2.1 (by omega))
theorem pv_fine {p : Po} (hp : ∀ a ∈ p, a.1 ≤ 12 ∧ a.2 ≤ 1000000000000) (hl : p.length ≤ 20) : fine (pvP p) := by
  have := its_gm (M := 1000000000000000000000000000000000000000) (W := 20) hp (by omega) (by omega) (by omega)
  exact gm_up (tup_gm this (by simp; omega)) (b := by simp; omega)
section
variable {d : Deck} {R : S} {s : S} {Q : PV → S → Prop} {E : Str → PV → S → Prop}
theorem is_poly_any {n : Nat} {b : Bool} {x : PV} (ho : okD n x) (hb : b = true ↔ isPoly x) (q : Q (.bl b) s) : Pq (f_is_poly [x] s) Q E := by
  unfold f_is_poly b_is_poly
  simp [startE]
  refine poly_any ho hb ?_
  simpa using q
theorem value_at_p {p : Po} {m : Nat} (hs : asc 0 p) (hp : poOk p) (ho : okD 6 (pvP p)) (hm : m ≤ 1000000) (q : Q (.int (valS p m)) s) : Pq (f_value_at [pvP p, .int (m : Int)] s) Q E := by
  unfold f_value_at b_value_at
  simp [startE]
  refine poly_any (b := true) ho ⟨fun _ => isPoly_ex.mpr ⟨p, rfl, hs⟩, fun _ => rfl⟩ ?_
  simp
  refine is_from_any (n := 0) (b := true) (okD_int (okI_of (by omega))) ⟨fun _ => ⟨_, rfl, by omega⟩, fun _ => rfl⟩ ?_
  simp
  refine value_p hp hm ?_
  simpa using q
theorem value_at_x {x y : PV} {n : Nat} (ho : okD n x) (hx : ¬ isPoly x) (q : E "BadPoly" x s) : Pq (f_value_at [x, y] s) Q E := by
  unfold f_value_at b_value_at
  simp [startE]
  refine poly_any (b := false) ho ⟨fun h => (by cases h), fun h => absurd h hx⟩ ?_
  simpa using q
theorem value_at_y {x y : PV} {n k : Nat} (ho : okD n x) (hx : isPoly x) (hy : okD k y) (hn : ¬ ∃ i, y = .int i ∧ (0 : Int) ≤ i) (q : E "BadNumber" y s) : Pq (f_value_at [x, y] s) Q E := by
  unfold f_value_at b_value_at
  simp [startE]
  refine poly_any (b := true) ho ⟨fun _ => hx, fun _ => rfl⟩ ?_
  simp
  refine is_from_any (b := false) hy ⟨fun h => (by cases h), fun h => absurd h hn⟩ ?_
  simpa using q
theorem deck_p {ns : List Int} (hl : ns.length ≤ 63) (q : ∀ d : Deck, Q (.obj 0) (d.st "left" [])) : Pq (f__law_deck [.scr (ns.map .int)] []) Q E := by
  refine deck1_p (k := "left") (N := _) (c0 := _) (c1 := _) (c2 := _) (c3 := _) (c4 := _) key_left rfl ?_ ?_ ?_ hl q
  all_goals first | (unfold okC; decide) | decide
/-! tried -/
theorem in_t1 {b : Bool} {s : S} : oIn (.bl true) (.tup [.bl b, .bl (!b)]) s = some (.bl true, s) := by cases b <;> rfl
theorem caught_poly {x : PV} (hr : ∀ s, bRepr [x] s = some (.str (reprT x), s)) {Q : PV → S → Prop} (q : Q (.tup [.str "raised", .tup [.bl true, .bl false], .str (reprT x)]) s) : caughtG 1 3 hd__law_tried h__law_tried (fun fl s1 => Pq (flEnd fl s1) Q noE) noE "BadPoly" x s := by
  have e : hd__law_tried "BadPoly" = some true := by unfold hd__law_tried; simp [ofS_inj]
  have e2 := in_t1 (b := true) (s := s)
  unfold caughtG
  rw [e]
  simp only [h__law_tried]
  simp [ofS_inj] at e2 ⊢
  try simp [e2, hr]
  exact q
theorem caught_num {x : PV} (hr : ∀ s, bRepr [x] s = some (.str (reprT x), s)) {Q : PV → S → Prop} (q : Q (.tup [.str "raised", .tup [.bl false, .bl true], .str (reprT x)]) s) : caughtG 1 3 hd__law_tried h__law_tried (fun fl s1 => Pq (flEnd fl s1) Q noE) noE "BadNumber" x s := by
  have e : hd__law_tried "BadNumber" = some true := by unfold hd__law_tried; simp [ofS_inj]
  have e2 := in_t1 (b := false) (s := s)
  unfold caughtG
  rw [e]
  simp only [h__law_tried]
  simp [ofS_inj] at e2 ⊢
  try simp [e2, hr]
  exact q
theorem tried_p {m : EM} {env : En} (k : Pq (m env s) (fun v s1 => Q (.tup [.str "returned", v]) s1) (fun c x s1 => caughtG 1 3 hd__law_tried h__law_tried (fun fl s1 => Pq (flEnd fl s1) Q noE) noE c x s1)) : Pq (eTriedG t__law_tried 3 m env s) Q E := by
  refine p_triedG ?_
  unfold t__law_tried
  refine p_tryG ?_
  simp
  exact k.mono (fun v s q => by simpa using q) fun _ _ _ z => z
abbrev e13 (ns : List Int) (j : Nat) (p : Po) (v4 v5 v6 v7 v8 v9 v10 v11 v12 : Option PV) : En := [some (.scr (ns.map .int)), some (.obj 0), some (.int (j : Int)), some (pvP p), v4, v5, v6, v7, v8, v9, v10, v11, v12]
def iturn (ns : List Int) (_ : Nat) (env : En) (s : S) : Prop := ∃ (d : Deck) (R : S) (v2 v3 v4 v5 v6 v7 v8 v9 v10 v11 v12 : Option PV), env = [some (.scr (ns.map .int)), some (.obj 0), v2, v3, v4, v5, v6, v7, v8, v9, v10, v11, v12] ∧ s = d.st "left" R
def iths (ns : List Int) (j : Nat) (p : Po) (s0 : S) (v6 v7 v8 v9 v10 v11 v12 : Option PV) (_ : Nat) (env : En) (s : S) : Prop := ∃ v4 v5 : Option PV, env = e13 ns j p v4 v5 v6 v7 v8 v9 v10 v11 v12 ∧ s = s0
theorem bb_shw {a b : Bool} : Shw 2 2207 (.tup [.bl a, .bl b]) := Shw.tupK (n := 1) (L := 1100) 2 (fun x hx => by
  simp at hx
  rcases hx with rfl | rfl <;> exact Shw.bl)
theorem thing_p {ns : List Int} {j : Nat} {p : Po} {x : PV} {v5 v6 v7 v8 v9 v10 v11 v12 : Option PV} {F : Fl → S → Prop} (hx : fine x) (q : ∀ v4 v5, F (.nx (e13 ns j p v4 v5 v6 v7 v8 v9 v10 v11 v12)) s) : Pq (l_law_2 (e13 ns j p (some x) v5 v6 v7 v8 v9 v10 v11 v12) s) F E := by
  obtain ⟨b, hb⟩ := bool_of (isPoly x)
  have hr : ∀ s, bRepr [.tup [.bl b, .bl b]] s = some (.str (reprT (.tup [.bl b, .bl b])), s) := fun s => q_reprS bb_shw (by omega) (by omega)
  simp [l_law_2]
  refine law_poly_any hx.1 (Nat.le_trans hx.2.1 (by omega)) hb ?_
  simp
  refine is_poly_any hx.1 hb ?_
  simp [pick]
  refine is_poly_any hx.1 hb ?_
  simp [hr]
  exact q _ _
def bigA (a : Nat × Nat) : Bool := decide (12 < a.1) || decide (1000000000000 < a.2)
def inr (e0 e1 e2 e3 e4 e5 e6 e7 e9 e10 e11 : Option PV) (s0 : S) (fl : Fl) (s : S) : Prop := ∃ (r : Po) (v12 : Option PV), asc 0 r ∧ r.length ≤ 20 ∧ (∀ a ∈ r, a.1 ≤ 12 ∧ a.2 ≤ 1000000000000) ∧ fl = .nx [e0, e1, e2, e3, e4, e5, e6, e7, some (pvP r), e9, e10, e11, v12] ∧ s = s0
theorem turn_p {ns : List Int} {j : Nat} {v3 v4 v5 v6 v7 v8 v9 v10 v11 v12 : Option PV} {F : Fl → S → Prop} (q : ∀ env s, iturn ns 0 env s → F (.nx env) s) : Pq (l_law_1 [some (.scr (ns.map .int)), some (.obj 0), some (.int (j : Int)), v3, v4, v5, v6, v7, v8, v9, v10, v11, v12] (d.st "left" R)) F E := by
  have near : ∀ {p : Po} (hp : poG p) {d : Deck} {R : S} {Q : PV → S → Prop} {E : Str → PV → S → Prop}, (∀ (v : PV) (d' : Deck) (J : S), fine v → Q v (d'.st "left" (R ++ J))) → Pq (f__law_near_poly [.obj 0, pvP p] (d.st "left" R)) Q E := fun {_} hp {_ _ _ _} q => near_p (M := 1000000000000000000000000000000000000000) (W := 20) hp (by omega) (by omega) (by omega) (by omega) q
  have odd : ∀ {d : Deck} {R : S} {Q : PV → S → Prop} {E : Str → PV → S → Prop}, (∀ (v : PV) (d' : Deck), fine v → Q v (d'.st "left" R)) → Pq (f__law_odd [.obj 0] (d.st "left" R)) Q E := fun {_ _ _ _} q => odd_p (M := 1000000000000000000000000000000000000000) (W := 20) (by omega) (by omega) (by omega) (by omega) fun v d hv => q v d (gm_up hv)
  simp [l_law_1]
  refine drawn_poly_p fun p d1 J hp => ?_
  have hpf : fine (pvP p) := pv_fine hp.ex (by have := hp.len; omega)
  generalize R ++ J = R
  simp
  refine near hp fun x1 d2 J hx1 => ?_
  generalize R ++ J = R
  simp
  refine near hp fun x2 d3 J hx2 => ?_
  generalize R ++ J = R
  simp
  refine odd fun x3 d4 hx3 => ?_
  simp
  refine p_for (iths ns j p (d4.st "left" R) v6 v7 v8 v9 v10 v11 v12) ⟨v4, v5, rfl, rfl⟩ (fun _ _ _ _ _ => ck0) (fun i x hx env s' h' => ?_) fun env s' h' => ?_
  · obtain ⟨v4, v5, rfl, rfl⟩ := h'
    have hm := List.mem_of_getElem? hx
    simp at hm
    simp
    refine thing_p (by rcases hm with rfl | rfl | rfl | rfl <;> assumption) fun v4 v5 => ?_
    exact ⟨_, _, rfl, rfl⟩
  obtain ⟨v4, v5, rfl, rfl⟩ := h'
  simp
  refine draw_ok (by omega) (by omega) fun r1 d5 r10 r11 => ?_
  simp
  refine draw_ok (by omega) (by omega) fun r2 d6 r20 r21 => ?_
  simp
  refine pickl_p (by simp) (by simp) fun v d7 hv => ?_
  obtain ⟨m, rfl, hm⟩ : ∃ m : Nat, v = .int (m : Int) ∧ m ≤ 1000000 := by
    simp at hv
    rcases hv with rfl | rfl | rfl | rfl | rfl
    · exact ⟨0, rfl, by omega⟩
    · exact ⟨1, rfl, by omega⟩
    · exact ⟨2, rfl, by omega⟩
    · exact ⟨r1.toNat, by simp; omega, by omega⟩
    · exact ⟨r2.toNat, by simp; omega, by omega⟩
  simp
  have ho6 : okD 6 (pvP p) := okD_up hpf.1 (by omega)
  have hv1 := val_shw hp.ok hm
  have hpair : Shw 2 209 (.tup [.int (valS p m), .int (valS p m)]) := Shw.tupK (n := 1) (L := 101) 2 (fun x hx => by
    simp at hx
    subst hx; exact hv1)
  have hr2 : ∀ s, bRepr [.tup [.int (valS p m), .int (valS p m)]] s = some (.str (reprT (.tup [.int (valS p m), .int (valS p m)])), s) := fun s => q_reprS hpair (by omega) (by omega)
  refine value_at_p hp.asc hp.ok ho6 hm ?_
  simp [pick]
  refine value_at_p hp.asc hp.ok ho6 hm ?_
  simp [hr2]
  refine law_value_p hp.ok hm ?_
  have hlenp : ∀ s, bLen [pvP p] s = some (.int (p.length : Int), s) := fun s => by unfold pvP; simp
  have hl := hp.len
  simp [mul2, hr2, hlenp]
  refine draw_ok (by omega) (by omega) fun a d8 a0 a1 => ?_
  obtain ⟨k, rfl⟩ : ∃ k : Nat, a = (k : Int) := ⟨a.toNat, by omega⟩
  have c1 : cut (p.map it) none (some (k : Int)) = (p.take k).map it := by rw [cut_to, List.map_take]
  have c2 : cut (p.map it) (some (k : Int)) none = (p.drop k).map it := by rw [cut_from, List.map_drop]
  have exT : ∀ a ∈ p.take k, a.1 ≤ 12 ∧ a.2 ≤ 1000000000000 := fun a ha => hp.ex a (List.mem_of_mem_take ha)
  have exD : ∀ a ∈ p.drop k, a.1 ≤ 12 ∧ a.2 ≤ 1000000000000 := fun a ha => hp.ex a (List.mem_of_mem_drop ha)
  have lT : (p.take k).length ≤ 9 := by rw [List.length_take]; omega
  have lD : (p.drop k).length ≤ 9 := by rw [List.length_drop]; omega
  have eT : PV.tup ((p.take k).map it) = pvP (p.take k) := rfl
  have eD : PV.tup ((p.drop k).map it) = pvP (p.drop k) := rfl
  have eP : pvP p = PV.tup (p.map it) := rfl
  simp
  rw [eP]
  simp [c1, c2, -List.map_take, -List.map_drop]
  refine ⟨by omega, ?_⟩
  rw [eT]
  refine value_at_p (asc_take hp.asc) ⟨by omega, exT⟩ (okD_up (pv_fine exT (by omega)).1 (by omega)) hm ?_
  simp [c2, -List.map_take, -List.map_drop]
  refine ⟨by omega, ?_⟩
  rw [eD]
  refine value_at_p (asc_drop hp.asc) ⟨by omega, exD⟩ (okD_up (pv_fine exD (by omega)).1 (by omega)) hm ?_
  have hsum : valS (p.take k) m + valS (p.drop k) m = valS p m := by rw [← valS_app, List.take_append_drop]
  simp [hsum]
  rw [← eP]
  refine law_value_p hp.ok hm ?_
  simp
  refine near hp fun y d9 J hy => ?_
  generalize R ++ J = R
  simp
  refine pickl_p (by simp) (by simp) fun u d10 hu => ?_
  have hu : fine u := by
    simp at hu
    rcases hu with rfl | rfl
    · exact hpf
    · exact hy
  simp [keys, kP, mergeP, putP, dis_ix, dis_st]
  refine pickl_p (by simp) (by simp) fun w d11 hw => ?_
  have hw1 : okD 1 w ∧ cnt w ≤ 2 := by
    simp at hw
    rcases hw with rfl | rfl | rfl | rfl | rfl | rfl | rfl | rfl | rfl
    · exact ⟨okD_int (okI_of (by omega)), by simp⟩
    · exact ⟨okD_bl, by simp⟩
    · exact ⟨okD_non, by simp⟩
    · exact ⟨okD_str (by decide +kernel), by simp⟩
    · exact ⟨okD_tup (n := 0) (by simp; exact okD_int (okI_of (by omega))), by simp⟩
    · exact ⟨okD_int (okI_of (by omega)), by simp⟩
    · exact ⟨okD_int (okI_of (by omega)), by simp⟩
    · exact ⟨okD_lst (n := 0) (by simp), by simp⟩
    · exact ⟨okD_dic (n := 0) (by simp), by simp⟩
  have hwn : (∃ m : Nat, w = .int (m : Int) ∧ m ≤ 3) ∨ ¬ ∃ i, w = .int i ∧ (0 : Int) ≤ i := by
    simp at hw
    rcases hw with rfl | rfl | rfl | rfl | rfl | rfl | rfl | rfl | rfl
    · exact .inr fun ⟨i, e, h⟩ => by cases e; omega
    · exact .inr fun ⟨i, e, h⟩ => by cases e
    · exact .inr fun ⟨i, e, h⟩ => by cases e
    · exact .inr fun ⟨i, e, h⟩ => by cases e
    · exact .inr fun ⟨i, e, h⟩ => by cases e
    · exact .inl ⟨0, rfl, by omega⟩
    · exact .inl ⟨3, rfl, by omega⟩
    · exact .inr fun ⟨i, e, h⟩ => by cases e
    · exact .inr fun ⟨i, e, h⟩ => by cases e
  have hrw : ∀ s, bRepr [w] s = some (.str (reprT w), s) := fun s => q_repr hw1.1 (by decide) (Nat.le_trans hw1.2 (by omega))
  clear hw
  simp
  obtain ⟨b, hb⟩ := bool_of (isPoly u)
  refine law_poly_any hu.1 (Nat.le_trans hu.2.1 (by omega)) hb ?_
  cases b with
  | false =>
    have hno : ¬ isPoly u := fun h => by have := hb.mpr h; cases this
    simp [fine_repr hu]
    refine law_poly_any hu.1 (Nat.le_trans hu.2.1 (by omega)) hb ?_
    simp
    have hz := shw_reprT (Shw.of hu.1)
    have hzs : Shw 1 900000 (.str (reprT u)) := (Shw.str hz.1 (Nat.le_trans hz.2 (Nat.mul_le_mul_left 1100 hu.2.1))).up (Nat.le_refl _) (by omega)
    have hT : Shw 3 (3 * 900002 + 3) (.tup [.str "raised", .tup [.bl true, .bl false], .str (reprT u)]) := Shw.tupK (n := 2) (L := 900000) 3 (fun x hx => by
      simp at hx
      rcases hx with rfl | rfl | rfl
      · exact (Shw.str (m := 10) (low_lit _) (by decide)).up (by omega) (by omega)
      · exact bb_shw.up (by omega) (by omega)
      · exact hzs.up (by omega) (by omega))
    have hrT := fun s => q_reprS (s := s) hT (by omega) (by omega)
    refine tried_p ?_
    have cau : ∀ s (Q : PV → S → Prop), Q (.tup [.str "raised", .tup [.bl true, .bl false], .str (reprT u)]) s → caughtG 1 3 hd__law_tried h__law_tried (fun fl s1 => Pq (flEnd fl s1) Q noE) noE "BadPoly" u s := fun s Q q => caught_poly (fun s => fine_repr hu) q
    simp
    refine post_iteP (fun _ => ?_) fun _ => ?_
    · simp
      refine value_at_x hu.1 hno ?_
      refine cau _ _ ?_
      simp [hrT]
      exact q _ _ ⟨_, _, _, _, _, _, _, _, _, _, _, _, _, rfl, rfl⟩
    · simp [pick]
      refine value_at_x hu.1 hno ?_
      refine cau _ _ ?_
      simp [hrT]
      exact q _ _ ⟨_, _, _, _, _, _, _, _, _, _, _, _, _, rfl, rfl⟩
  | true =>
    obtain ⟨r, rfl, hr0⟩ := isPoly_ex.mp (hb.mp rfl)
    have hrl : r.length ≤ 21 := by
      have := (gk_tup.mp hu.2.2).1
      simpa using this
    have hlenr : ∀ s, bLen [pvP r] s = some (.int (r.length : Int), s) := fun s => by unfold pvP; simp
    have hpl := hp.len
    simp [hlenr]
    refine Pq.mono (Q := fun c s => s = d11.st "left" R ∧ (c = false → r.length ≤ 20 ∧ ∀ a ∈ r, a.1 ≤ 12 ∧ a.2 ≤ 1000000000000)) ?_ (fun c s hh => ?_) fun _ _ _ z => z
    · refine post_iteP (fun h => ?_) fun h => ?_
      · simp
      · have hif : ∀ s, itOf (pvP r) s = some (r.map it, []) := fun s => rfl
        simp [hif]
        refine ⟨by omega, ?_⟩
        refine p_lcFM (p := bigA) (h := it) (fun a ha => ?_) ?_
        · simp [wipeE, it]
          refine fun Q' q' => ?_
          refine post_iteP (fun h => ?_) fun h => ?_
          · have : bigA a = true := by simp [bigA]; exact .inl (by omega)
            rw [this] at q'
            simpa using q'
          · have : bigA a = decide ((1000000000000 : Int) < a.2) := by
              rw [Bool.eq_iff_iff]
              simp [bigA]
              omega
            rw [this] at q'
            simp
            exact q'
        · have hfl : (r.filter bigA).length ≤ 21 := Nat.le_trans (List.length_filter_le _ _) hrl
          simp
          refine ⟨by omega, ?_⟩
          refine fun hf => ⟨by omega, fun a c ha => ?_⟩
          have := hf a c ha
          simp [bigA] at this
          omega
    obtain ⟨rfl, hc0⟩ := hh
    refine Pq.mono (Q := inr (some (.scr (ns.map .int))) (some (.obj 0)) (some (.int (j : Int))) (some (pvP p)) v4 v5 (some (.int (m : Int))) (some (.int (k : Int))) (some w) v10 v11 (d11.st "left" R)) ?_ (fun fl s hh => ?_) fun _ _ _ z => z
    · cases c with
      | true =>
        simp
        exact ⟨p, _, hp.asc, by omega, hp.ex, rfl, rfl⟩
      | false =>
        obtain ⟨c1, c2⟩ := hc0 rfl
        simp
        exact ⟨r, _, hr0, c1, c2, rfl, rfl⟩
    clear hrl hlenr hr0 hb hu
    obtain ⟨r, v12, g1, g2, g3, rfl, rfl⟩ := hh
    have hu := pv_fine g3 g2
    have hpoly : isPoly (pvP r) := isPoly_ex.mpr ⟨r, rfl, g1⟩
    simp [fine_repr hu]
    refine law_poly_any (b := true) hu.1 (Nat.le_trans hu.2.1 (by omega)) ⟨fun _ => hpoly, fun _ => rfl⟩ ?_
    simp
    rcases hwn with ⟨w, rfl, hw⟩ | hwn
    · simp [law_int_any (n := 0) (okD_int (i := (w : Int)) (okI_of (by omega))), isInt]
      refine law_value_p ⟨by omega, g3⟩ (by omega) ?_
      simp
      refine tried_p ?_
      have hv := val_shw (p := r) (m := w) ⟨by omega, g3⟩ (by omega)
      have hT : Shw 2 (2 * 104 + 3) (.tup [.str "returned", .int (valS r w)]) := Shw.tupK (n := 1) (L := 102) 2 (fun x hx => by
        simp at hx
        rcases hx with rfl | rfl
        · exact (Shw.str (m := 10) (low_lit _) (by decide)).up (by omega) (by omega)
        · exact hv.up (by omega) (by omega))
      have hrT := fun s => q_reprS (s := s) hT (by omega) (by omega)
      simp
      refine post_iteP (fun _ => ?_) fun _ => ?_
      · simp
        refine value_at_p g1 ⟨by omega, g3⟩ (okD_up hu.1 (by omega)) (by omega) ?_
        simp [hrT]
        exact q _ _ ⟨_, _, _, _, _, _, _, _, _, _, _, _, _, rfl, rfl⟩
      · simp [pick]
        refine value_at_p g1 ⟨by omega, g3⟩ (okD_up hu.1 (by omega)) (by omega) ?_
        simp [hrT]
        exact q _ _ ⟨_, _, _, _, _, _, _, _, _, _, _, _, _, rfl, rfl⟩
    · have hint : isInt w = true → ∃ i : Int, w = .int i ∧ i < 0 := fun h => by
        obtain ⟨i, rfl⟩ := isInt_ex.mp h
        refine ⟨i, rfl, ?_⟩
        by_cases hi : i < 0
        · exact hi
        · exact absurd ⟨i, rfl, by omega⟩ hwn
      have hz := shw_reprT (Shw.of hw1.1)
      have hzs : Shw 1 22002 (.str (reprT w)) := (Shw.str hz.1 (Nat.le_trans hz.2 (Nat.mul_le_mul_left 1100 hw1.2))).up (Nat.le_refl _) (by omega)
      have hT : Shw 3 (3 * 22004 + 3) (.tup [.str "raised", .tup [.bl false, .bl true], .str (reprT w)]) := Shw.tupK (n := 2) (L := 22002) 3 (fun x hx => by
        simp at hx
        rcases hx with rfl | rfl | rfl
        · exact (Shw.str (m := 10) (low_lit _) (by decide)).up (by omega) (by omega)
        · exact bb_shw.up (by omega) (by omega)
        · exact hzs.up (by omega) (by omega))
      have hrT := fun s => q_reprS (s := s) hT (by omega) (by omega)
      have cau : ∀ s (Q : PV → S → Prop), Q (.tup [.str "raised", .tup [.bl false, .bl true], .str (reprT w)]) s → caughtG 1 3 hd__law_tried h__law_tried (fun fl s1 => Pq (flEnd fl s1) Q noE) noE "BadNumber" w s := fun s Q q => caught_num hrw q
      have fin : ∀ (v10 : Option PV) (env : En), env = [some (.scr (ns.map .int)), some (.obj 0), some (.int (j : Int)), some (pvP p), v4, some (.tup [.str "raised", .tup [.bl false, .bl true], .str (reprT w)]), some (.int (m : Int)), some (.int (k : Int)), some (pvP r), some w, v10, v11, v12] → ∀ (Q : PV → S → Prop) (E : Str → PV → S → Prop), Q (.tup [.str "raised", .tup [.bl false, .bl true], .str (reprT w)]) (d11.st "left" R) → Pq (eTriedG t__law_tried 3 (eIf (tB (eOp oEqD (eV 2) (eC (.int 0)))) (eCall f_value_at (aCons (eV 8) (aCons (eV 9) aNil))) (eCallK0 f_value_at [1, 0] (aCons (eV 9) (aCons (eV 8) aNil)))) env (d11.st "left" R)) Q E := fun v10 env he Q E q => by
        subst he
        refine tried_p ?_
        simp
        refine post_iteP (fun _ => ?_) fun _ => ?_
        · simp
          exact value_at_y hu.1 hpoly hw1.1 hwn (cau _ _ q)
        · simp [pick]
          exact value_at_y hu.1 hpoly hw1.1 hwn (cau _ _ q)
      cases hi : isInt w with
      | false =>
        simp [law_int_any hw1.1, hi, hrw]
        refine fin _ _ rfl _ _ ?_
        simp [hrT]
        exact q _ _ ⟨_, _, _, _, _, _, _, _, _, _, _, _, _, rfl, rfl⟩
      | true =>
        obtain ⟨i, rfl, hi0⟩ := hint hi
        have hi1 : ¬ 0 ≤ i := by omega
        simp [law_int_any hw1.1, hi, hrw, hi1]
        refine fin _ _ rfl _ _ ?_
        simp [hrT]
        exact q _ _ ⟨_, _, _, _, _, _, _, _, _, _, _, _, _, rfl, rfl⟩
theorem law_p {ns : List Int} (hl : ns.length ≤ 63) : Pq (f_law [.scr (ns.map .int)] []) (fun v _ => v = .bl true) fun _ _ _ => False := by
  simp [f_law, b_law, startE]
  refine deck_p hl fun d => ?_
  try simp
  refine p_for (c := []) (iturn ns) ⟨d, [], none, none, none, none, none, none, none, none, none, none, none, rfl, rfl⟩ (fun _ _ _ _ _ => ck0) (fun j x hx env s h => ?_) fun env s h => ?_
  · obtain ⟨d, R, v2, v3, v4, v5, v6, v7, v8, v9, v10, v11, v12, rfl, rfl⟩ := h
    obtain ⟨hj, rfl⟩ := ups_ix hx
    simp
    exact turn_p fun env s h => h
  · obtain ⟨d, R, v2, v3, v4, v5, v6, v7, v8, v9, v10, v11, v12, rfl, rfl⟩ := h
    simp
theorem plain : ∀ ns : List Int, ns.length ≤ 63 → Post (f_law [.scr (ns.map .int)] []) (fun v _ => v = .bl true) fun _ _ _ => False := fun _ hl => (law_p hl).get
end
end Lk26

theorem PySem.Challenge.cw_eyesonly_k26_polynomials_and_their_value_holds : PySem.Challenge.rw_eyesonly_k26_polynomials_and_their_value.Holds := by
  exact Wk26.holds Lk26.plain
