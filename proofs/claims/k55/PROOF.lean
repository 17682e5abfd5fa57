import PyProof.Rows.All
import Wide.All
import OpenK.AllK
import Wide.FinOn
import HandS.Base
import HandS.Call
import HandS.List
import HandS.Comp
import HandS.Ends
import HandS.Dict
import HandS.Iter
import HandS.Text
import HandS.Conv
import HandS.TupAny
import HandS.IsInst
import HandS.Style
import HandS.Flow
import HandS.Zip
import HandS.Defaults
import HandS.HeadEnd
import HandS.Head2
import HandS.HeadHook2
import HandS.RaiseMore
import PyProof.ReprRoads
import HandS.Strs
import HandS.SetKeys
import PyProof.NeKinds
import PyProof.Rows.FactsN_isinstance
import HandS.Words
import PyProof.StrLawsRepr
import PyProof.Rows.RegStrFacts
import KE.KStrOpen
import PyProof.Rows.StrFin3
import PySem.Challenge.RW_eyesonly_k55_tape_machines_of_any_value
set_option Elab.async false
set_option linter.all false
set_option maxRecDepth 100000
set_option maxHeartbeats 4000000
/-! Z1: pure values over a store of mutable objects; how they stand for the layer's values and heap; the judgements by computations. -/
namespace Z
open PySem PySem.Spec L2

/-! ### values, the store -/
inductive PV where
  | non
  | bl (b : Bool)
  | int (i : Int)
  | str (x : Str)
  | tup (xs : List PV)
  | lst (xs : List PV)
  | scr (xs : List PV)
  | dic (kvs : List (Key × PV))
  | obj (n : Nat)

inductive MO where
  | dead
  | lst (xs : List PV)
  | dic (kvs : List (Key × PV))
  | ins (c : Str) (fs : List (Str × PV))

abbrev S := List MO

inductive Rs (α : Type) where
  | ok (a : α) (s : S)
  | exc (c : Str) (x : PV) (s : S)
  | fail

def Rs.bind {α β : Type} (r : Rs α) (k : α → S → Rs β) : Rs β :=
  match r with
  | .ok a s => k a s
  | .exc c x s => .exc c x s
  | .fail => .fail

def Post {α : Type} (r : Rs α) (Q : α → S → Prop) (E : Str → PV → S → Prop) : Prop :=
  match r with
  | .ok a s => Q a s
  | .exc c x s => E c x s
  | .fail => False

theorem Post.mono {α : Type} {r : Rs α} {Q Q' : α → S → Prop} {E E' : Str → PV → S → Prop} (h : Post r Q E) (hQ : ∀ a s, Q a s → Q' a s) (hE : ∀ c x s, E c x s → E' c x s) : Post r Q' E' := by
  cases r with
  | ok a s => exact hQ a s h
  | exc c x s => exact hE c x s h
  | fail => exact h
theorem Post.bind {α β : Type} {r : Rs α} {k : α → S → Rs β} {Q : β → S → Prop} {E : Str → PV → S → Prop} (h : Post (r.bind k) Q E) : Post r (fun a s => Post (k a s) Q E) E := by
  cases r with
  | ok a s => exact h
  | exc c x s => exact h
  | fail => exact h
theorem Post.of_bind {α β : Type} {r : Rs α} {k : α → S → Rs β} {Q : β → S → Prop} {E : Str → PV → S → Prop} (h : Post r (fun a s => Post (k a s) Q E) E) : Post (r.bind k) Q E := by
  cases r with
  | ok a s => exact h
  | exc c x s => exact h
  | fail => exact h

/-! ### heaps, worlds -/
def Sub (H H' : Hp) : Prop := ∀ b o, H b = some o → H' b = some o
theorem Sub.refl (H : Hp) : Sub H H := fun _ _ h => h
theorem Sub.trans {H H1 H2 : Hp} (a : Sub H H1) (b : Sub H1 H2) : Sub H H2 := fun c o h => b c o (a c o h)
theorem Sub.free {H H' : Hp} (e : Sub H H') {l : Addr} (h : H' l = none) : H l = none := by
  cases q : H l with
  | none => rfl
  | some o => rw [e l o q] at h; cases h
theorem Sub.sqL {K : PySem.W.Frag} {H H' : Hp} {a : Addr} {xs : List V} (e : Sub H H') (h : SqL K H a xs) : SqL K H' a xs := by
  rcases h with (h | ⟨o, h⟩) | h
  · exact .inl (.inl (e _ _ h))
  · exact .inl (.inr ⟨o, e _ _ h⟩)
  · exact .inr h
theorem Sub.sqT {K : PySem.W.Frag} {H H' : Hp} {a : Addr} {xs : List V} (e : Sub H H') (h : SqT K H a xs) : SqT K H' a xs := by
  rcases h with (h | ⟨o, h⟩) | h
  · exact .inl (.inl (e _ _ h))
  · exact .inl (.inr ⟨o, e _ _ h⟩)
  · exact .inr h
theorem Sub.upd {H : Hp} {p : Addr} {o : HO} (h : H p = none) : Sub H (upd H p o) := fun b u e => by
  rw [upd_ne (ne_of_none e h)]; exact e

/-- fro: what stands for ever; ob: the addresses of the mutable objects by number; hid: what stands for a while, where no value leads -/
structure Wd where
  fro : Hp
  ob : List Addr
  hid : Hp
structure Wd.Le (W W' : Wd) : Prop where
  fro : Sub W.fro W'.fro
  hid : W'.hid = W.hid
  ob : ∃ m, W'.ob = W.ob ++ m
theorem Wd.Le.refl (W : Wd) : W.Le W := ⟨Sub.refl _, rfl, [], by simp⟩
theorem Wd.Le.trans {W W1 W2 : Wd} (a : W.Le W1) (b : W1.Le W2) : W.Le W2 := by
  obtain ⟨m, e⟩ := a.ob
  obtain ⟨m', e'⟩ := b.ob
  exact ⟨a.fro.trans b.fro, b.hid.trans a.hid, m ++ m', by rw [e', e, List.append_assoc]⟩
theorem Wd.Le.at {W W' : Wd} (l : W.Le W') {n : Nat} {a : Addr} (h : W.ob[n]? = some a) : W'.ob[n]? = some a := by
  obtain ⟨m, e⟩ := l.ob
  rw [e, List.getElem?_append_left (List.getElem?_eq_some_iff.mp h).1]; exact h

mutual
inductive Rep (K : PySem.W.Frag) (W : Wd) : PV → V → Prop
  | non : Rep K W .non .non
  | bl (b : Bool) : Rep K W (.bl b) (.bl b)
  | int (i : Int) : Rep K W (.int i) (.int i)
  | str (x : Str) : Rep K W (.str x) (.str x)
  | tup {a : Addr} {vs : List V} {xs : List PV} : SqT K W.fro a vs → Reps K W xs vs → Rep K W (.tup xs) (.ref a)
  | lst {a : Addr} {vs : List V} {xs : List PV} : W.fro a = some (.lst vs) → Reps K W xs vs → Rep K W (.lst xs) (.ref a)
  | scr {a : Addr} {vs : List V} {xs : List PV} : SqL K W.fro a vs → Reps K W xs vs → Rep K W (.scr xs) (.ref a)
  | dic {a : Addr} {ws : List (Key × V)} {kvs : List (Key × PV)} : W.fro a = some (.dK ws) → KReps K W kvs ws → Rep K W (.dic kvs) (.ref a)
  | obj {a : Addr} {n : Nat} : W.ob[n]? = some a → Rep K W (.obj n) (.ref a)
inductive Reps (K : PySem.W.Frag) (W : Wd) : List PV → List V → Prop
  | nil : Reps K W [] []
  | cons {x : PV} {v : V} {xs : List PV} {vs : List V} : Rep K W x v → Reps K W xs vs → Reps K W (x :: xs) (v :: vs)
inductive KReps (K : PySem.W.Frag) (W : Wd) : List (Key × PV) → List (Key × V) → Prop
  | nil : KReps K W [] []
  | cons {k : Key} {x : PV} {v : V} {xs : List (Key × PV)} {vs : List (Key × V)} : Rep K W x v → KReps K W xs vs → KReps K W ((k, x) :: xs) ((k, v) :: vs)
end

section
variable {K : PySem.W.Frag} {W W' : Wd}
mutual
theorem Rep.mono (l : W.Le W') : ∀ {x : PV} {v : V}, Rep K W x v → Rep K W' x v
  | _, _, .non => .non
  | _, _, .bl b => .bl b
  | _, _, .int i => .int i
  | _, _, .str x => .str x
  | _, _, .tup h r => .tup (l.fro.sqT h) (Reps.mono l r)
  | _, _, .lst h r => .lst (l.fro _ _ h) (Reps.mono l r)
  | _, _, .scr h r => .scr (l.fro.sqL h) (Reps.mono l r)
  | _, _, .dic h r => .dic (l.fro _ _ h) (KReps.mono l r)
  | _, _, .obj h => .obj (l.at h)
theorem Reps.mono (l : W.Le W') : ∀ {x : List PV} {v : List V}, Reps K W x v → Reps K W' x v
  | _, _, .nil => .nil
  | _, _, .cons r t => .cons (Rep.mono l r) (Reps.mono l t)
theorem KReps.mono (l : W.Le W') : ∀ {x : List (Key × PV)} {v : List (Key × V)}, KReps K W x v → KReps K W' x v
  | _, _, .nil => .nil
  | _, _, .cons r t => .cons (Rep.mono l r) (KReps.mono l t)
end
theorem Reps.length {xs : List PV} {vs : List V} (r : Reps K W xs vs) : xs.length = vs.length := by
  induction xs generalizing vs with
  | nil => cases r; rfl
  | cons x xs ih => cases r with | cons h t => simp [ih t]
theorem KReps.length {xs : List (Key × PV)} {vs : List (Key × V)} (r : KReps K W xs vs) : xs.length = vs.length := by
  induction xs generalizing vs with
  | nil => cases r; rfl
  | cons x xs ih => cases r with | cons h t => simp [ih t]
theorem Reps.get {xs : List PV} {vs : List V} (r : Reps K W xs vs) {i : Nat} {x : PV} (e : xs[i]? = some x) : ∃ v, vs[i]? = some v ∧ Rep K W x v := by
  induction xs generalizing vs i with
  | nil => simp at e
  | cons y ys ih =>
    cases r with
    | cons h t =>
      cases i with
      | zero => simp at e; subst e; exact ⟨_, rfl, h⟩
      | succ i => simpa using ih t (by simpa using e)
theorem Reps.get' {xs : List PV} {vs : List V} (r : Reps K W xs vs) {i : Nat} {v : V} (e : vs[i]? = some v) : ∃ x, xs[i]? = some x ∧ Rep K W x v := by
  induction xs generalizing vs i with
  | nil => cases r; simp at e
  | cons y ys ih =>
    cases r with
    | cons h t =>
      cases i with
      | zero => simp at e; subst e; exact ⟨_, rfl, h⟩
      | succ i => simpa using ih t (by simpa using e)
theorem Reps.append {xs ys : List PV} {vs us : List V} (r : Reps K W xs vs) (q : Reps K W ys us) : Reps K W (xs ++ ys) (vs ++ us) := by
  induction xs generalizing vs with
  | nil => cases r; exact q
  | cons y ys' ih => cases r with | cons h t => exact .cons h (ih t)
theorem Reps.take {xs : List PV} {vs : List V} (r : Reps K W xs vs) (n : Nat) : Reps K W (xs.take n) (vs.take n) := by
  induction xs generalizing vs n with
  | nil => cases r; simp; exact .nil
  | cons y ys' ih =>
    cases r with
    | cons h t =>
      cases n with
      | zero => exact .nil
      | succ n => exact .cons h (ih t n)
theorem Reps.drop {xs : List PV} {vs : List V} (r : Reps K W xs vs) (n : Nat) : Reps K W (xs.drop n) (vs.drop n) := by
  induction xs generalizing vs n with
  | nil => cases r; simp; exact .nil
  | cons y ys' ih =>
    cases r with
    | cons h t =>
      cases n with
      | zero => exact .cons h t
      | succ n => exact ih t n
theorem Reps.reverse {xs : List PV} {vs : List V} (r : Reps K W xs vs) : Reps K W xs.reverse vs.reverse := by
  induction xs generalizing vs with
  | nil => cases r; exact .nil
  | cons y ys' ih => cases r with | cons h t => simp only [List.reverse_cons]; exact (ih t).append (.cons h .nil)
theorem Reps.set {xs : List PV} {vs : List V} (r : Reps K W xs vs) (n : Nat) {y : PV} {u : V} (h : Rep K W y u) : Reps K W (xs.set n y) (vs.set n u) := by
  induction xs generalizing vs n with
  | nil => cases r; exact .nil
  | cons z zs ih =>
    cases r with
    | cons q t =>
      cases n with
      | zero => exact .cons h t
      | succ n => exact .cons q (ih t n)
end

/-- the written part and the module's names -/
structure G where
  K : PySem.W.Frag
  mg : Str → Option Value
abbrev gx (X : Cx) : G := ⟨X.K, X.mg⟩

inductive FReps (K : PySem.W.Frag) (W : Wd) : List (Str × PV) → List (Str × V) → Prop
  | nil : FReps K W [] []
  | cons {k : Str} {x : PV} {v : V} {xs : List (Str × PV)} {vs : List (Str × V)} : Rep K W x v → FReps K W xs vs → FReps K W ((k, x) :: xs) ((k, v) :: vs)
theorem FReps.mono {K : PySem.W.Frag} {W W' : Wd} (l : W.Le W') {x : List (Str × PV)} {v : List (Str × V)} (r : FReps K W x v) : FReps K W' x v := by
  induction r with
  | nil => exact .nil
  | cons h _ ih => exact .cons (h.mono l) ih

/-- an object of the store stands at a -/
inductive ORel (g : G) (W : Wd) (H : Hp) (a : Addr) : MO → Prop
  | dead : ORel g W H a .dead
  | lst {xs : List PV} {vs : List V} : H a = some (.lst vs) → Reps g.K W xs vs → ORel g W H a (.lst xs)
  | dic {kvs : List (Key × PV)} {ws : List (Key × V)} : H a = some (.dK ws) → KReps g.K W kvs ws → ORel g W H a (.dic kvs)
  | ins {c : Str} {C dx : Addr} {fs : List (Str × PV)} {ws : List (Str × V)} : g.mg c = some (.ref C) → H a = some (.ins C dx ws) → FReps g.K W fs ws → ORel g W H a (.ins c fs)

structure StR (g : G) (W : Wd) (H : Hp) (s : S) : Prop where
  fro : Sub W.fro H
  len : W.ob.length = s.length
  nd : W.ob.Nodup
  alive : ∀ (n : Nat) (a : Addr), W.ob[n]? = some a → H a ≠ none
  off : ∀ (n : Nat) (a : Addr) (o : MO), W.ob[n]? = some a → s[n]? = some o → o ≠ .dead → W.fro a = none
  has : ∀ (n : Nat) (a : Addr) (o : MO), W.ob[n]? = some a → s[n]? = some o → ORel g W H a o
  hid : Sub W.hid H
  hno : ∀ (n : Nat) (a : Addr), W.ob[n]? = some a → W.hid a = none
  hnf : ∀ a, W.hid a ≠ none → W.fro a = none

def EnvR (K : PySem.W.Frag) (W : Wd) (env : List (Option PV)) (σ : St) : Prop :=
  env.length = σ.length ∧ ∀ (i : Nat) (v : PV), env[i]? = some (some v) → ∃ u, σ[i]? = some (some u) ∧ Rep K W v u
abbrev En := List (Option PV)

theorem EnvR.mono {K : PySem.W.Frag} {W W' : Wd} {env : En} {σ : St} (h : EnvR K W env σ) (l : W.Le W') : EnvR K W' env σ :=
  ⟨h.1, fun i v e => let ⟨u, e', r⟩ := h.2 i v e; ⟨u, e', r.mono l⟩⟩
theorem EnvR.set {K : PySem.W.Frag} {W : Wd} {env : En} {σ : St} (h : EnvR K W env σ) (i : Nat) {v : PV} {u : V} (r : Rep K W v u) : EnvR K W (env.set i (some v)) (σ.set i (some u)) := by
  refine ⟨by simp [h.1], fun j w e => ?_⟩
  by_cases hj : i = j
  · subst hj
    have hl : i < env.length := by
      have := (List.getElem?_eq_some_iff.mp e).1
      simpa using this
    rw [List.getElem?_set_self hl] at e
    cases e
    exact ⟨u, by rw [List.getElem?_set_self (by rw [← h.1]; exact hl)], r⟩
  · rw [List.getElem?_set_ne hj] at e
    obtain ⟨u', e', r'⟩ := h.2 j w e
    exact ⟨u', by rw [List.getElem?_set_ne hj]; exact e', r'⟩
theorem EnvR.unset {K : PySem.W.Frag} {W : Wd} {env : En} {σ : St} (h : EnvR K W env σ) (i : Nat) : EnvR K W (env.set i none) (σ.set i none) := by
  refine ⟨by simp [h.1], fun j w e => ?_⟩
  by_cases hj : i = j
  · subst hj
    have hl : i < env.length := by
      have := (List.getElem?_eq_some_iff.mp e).1
      simpa using this
    rw [List.getElem?_set_self hl] at e
    cases e
  · rw [List.getElem?_set_ne hj] at e
    obtain ⟨u', e', r'⟩ := h.2 j w e
    exact ⟨u', by rw [List.getElem?_set_ne hj]; exact e', r'⟩

/-! ### the store's moves -/
section
variable {g : G} {W : Wd} {H : Hp} {s : S}
theorem ORel.mono {W' : Wd} {H' : Hp} {a : Addr} {o : MO} (r : ORel g W H a o) (l : W.Le W') (e : H' a = H a) : ORel g W' H' a o := by
  cases r with
  | dead => exact .dead
  | lst h q => exact .lst (e.trans h) (q.mono l)
  | dic h q => exact .dic (e.trans h) (q.mono l)
  | ins c h q => exact .ins c (e.trans h) (q.mono l)
theorem le_fro {p : Addr} {o : HO} (h : W.fro p = none) : W.Le ⟨upd W.fro p o, W.ob, W.hid⟩ := ⟨Sub.upd h, rfl, [], by simp⟩
theorem le_ob (p : Addr) : W.Le ⟨W.fro, W.ob ++ [p], W.hid⟩ := ⟨Sub.refl _, rfl, [p], rfl⟩
/-- a new thing that stands for ever -/
theorem StR.new {p : Addr} {o : HO} (h : StR g W H s) (hp : H p = none) : StR g ⟨upd W.fro p o, W.ob, W.hid⟩ (upd H p o) s := by
  have hf : W.fro p = none := h.fro.free hp
  have hne : ∀ (n : Nat) (a : Addr), W.ob[n]? = some a → a ≠ p := fun n a e z => h.alive n a e (z ▸ hp)
  refine ⟨fun b u e => ?_, h.len, h.nd, fun n a e => ?_, fun n a o' e e' d => ?_, fun n a o' e e' => ?_, h.hid.trans (Sub.upd hp), h.hno, fun a q => ?_⟩
  · have e' : upd W.fro p o b = some u := e
    by_cases hb : b = p
    · subst hb; rw [upd_same] at e' ⊢; exact e'
    · rw [upd_ne hb] at e' ⊢; exact h.fro _ _ e'
  · rw [upd_ne (hne n a e)]; exact h.alive n a e
  · show upd W.fro p o a = none
    rw [upd_ne (hne n a e)]; exact h.off n a o' e e' d
  · exact (h.has n a o' e e').mono (le_fro hf) (upd_ne (hne n a e))
  · show upd W.fro p o a = none
    have : a ≠ p := fun z => q (by show W.hid a = none; rw [z]; exact h.hid.free hp)
    rw [upd_ne this]; exact h.hnf a q
theorem StR.le_new {p : Addr} {o : HO} (h : StR g W H s) (hp : H p = none) : W.Le ⟨upd W.fro p o, W.ob, W.hid⟩ := le_fro (h.fro.free hp)
theorem get_append_one {α : Type} {l : List α} {a b : α} {n : Nat} (e : (l ++ [a])[n]? = some b) : l[n]? = some b ∨ (n = l.length ∧ b = a) := by
  by_cases h : n < l.length
  · rw [List.getElem?_append_left h] at e; exact .inl e
  · rw [List.getElem?_append_right (by omega)] at e
    have : n - l.length = 0 := by
      by_cases h2 : n - l.length = 0
      · exact h2
      · rw [List.getElem?_eq_none (by simp; omega)] at e; cases e
    rw [this] at e
    simp at e
    exact .inr ⟨by omega, e.symm⟩
/-- a new mutable object -/
theorem StR.alloc {p : Addr} {o : HO} {m : MO} (h : StR g W H s) (hp : H p = none) (r : ORel g ⟨W.fro, W.ob ++ [p], W.hid⟩ (upd H p o) p m) : StR g ⟨W.fro, W.ob ++ [p], W.hid⟩ (upd H p o) (s ++ [m]) := by
  have hf : W.fro p = none := h.fro.free hp
  have hne : ∀ (n : Nat) (a : Addr), W.ob[n]? = some a → a ≠ p := fun n a e z => h.alive n a e (z ▸ hp)
  have key : ∀ {n : Nat} {a : Addr} {o' : MO}, (W.ob ++ [p])[n]? = some a → (s ++ [m])[n]? = some o' → (W.ob[n]? = some a ∧ s[n]? = some o') ∨ (a = p ∧ o' = m) := by
    intro n a o' e e'
    have hl := h.len
    rcases get_append_one e with q | ⟨q1, q2⟩
    · have : n < s.length := by rw [← hl]; exact (List.getElem?_eq_some_iff.mp q).1
      rw [List.getElem?_append_left this] at e'
      exact .inl ⟨q, e'⟩
    · rcases get_append_one e' with q' | ⟨_, q'⟩
      · have := (List.getElem?_eq_some_iff.mp q').1
        omega
      · exact .inr ⟨q2, q'⟩
  refine ⟨h.fro.trans (Sub.upd hp), by simp [h.len], ?_, fun n a e => ?_, fun n a o' e e' d => ?_, fun n a o' e e' => ?_, h.hid.trans (Sub.upd hp), fun n a e => ?_, h.hnf⟩
  · refine List.nodup_append.mpr ⟨h.nd, by simp, fun a ha b hb => ?_⟩
    obtain ⟨n, hn⟩ := List.getElem?_of_mem ha
    have : b = p := by simpa using hb
    rw [this]; exact hne n a hn
  · rcases get_append_one e with q | ⟨_, q⟩
    · rw [upd_ne (hne n a q)]; exact h.alive n a q
    · rw [q, upd_same]; simp
  · rcases key e e' with ⟨q, q'⟩ | ⟨q, _⟩
    · exact h.off n a o' q q' d
    · rw [q]; exact hf
  · rcases key e e' with ⟨q, q'⟩ | ⟨q, q'⟩
    · exact (h.has n a o' q q').mono (le_ob p) (upd_ne (hne n a q))
    · rw [q, q']; exact r
  · rcases get_append_one e with q | ⟨_, q⟩
    · exact h.hno n a q
    · rw [q]; exact h.hid.free hp
theorem nd_ix {l : List Addr} (hn : l.Nodup) {i j : Nat} {x : Addr} (a : l[i]? = some x) (b : l[j]? = some x) : i = j := by
  obtain ⟨h1, e1⟩ := List.getElem?_eq_some_iff.mp a
  obtain ⟨h2, e2⟩ := List.getElem?_eq_some_iff.mp b
  exact (List.getElem_inj hn).mp (e1.trans e2.symm)
/-- a mutable object changes -/
theorem StR.put {n : Nat} {a : Addr} {o o' : MO} {u : HO} (h : StR g W H s) (ha : W.ob[n]? = some a) (ho : s[n]? = some o) (hd : o ≠ .dead) (r : ORel g W (upd H a u) a o') : StR g W (upd H a u) (s.set n o') := by
  have hf : W.fro a = none := h.off n a o ha ho hd
  have hlt : n < s.length := (List.getElem?_eq_some_iff.mp ho).1
  refine ⟨fun b v e => ?_, by simp [h.len], h.nd, fun m b e => ?_, fun m b x e e' d => ?_, fun m b x e e' => ?_, fun b v e => ?_, h.hno, h.hnf⟩
  · have : b ≠ a := fun z => by rw [z, hf] at e; cases e
    rw [upd_ne this]; exact h.fro _ _ e
  · by_cases hb : b = a
    · rw [hb, upd_same]; simp
    · rw [upd_ne hb]; exact h.alive m b e
  · by_cases hm : n = m
    · subst hm
      have : b = a := by rw [ha] at e; exact (Option.some.inj e).symm
      rw [this]; exact hf
    · rw [List.getElem?_set_ne hm] at e'
      exact h.off m b x e e' d
  · by_cases hm : n = m
    · subst hm
      have hb : b = a := by rw [ha] at e; exact (Option.some.inj e).symm
      rw [List.getElem?_set_self hlt] at e'
      cases e'
      rw [hb]; exact r
    · rw [List.getElem?_set_ne hm] at e'
      have hb : b ≠ a := fun z => hm (nd_ix h.nd ha (z ▸ e))
      exact (h.has m b x e e').mono (Wd.Le.refl W) (upd_ne hb)
  · have : b ≠ a := fun z => by rw [z, h.hno n a ha] at e; cases e
    rw [upd_ne this]; exact h.hid _ _ e
/-- a mutable object is from here on one that stands for ever -/
theorem StR.freeze {n : Nat} {a : Addr} {o : MO} {u : HO} (h : StR g W H s) (ha : W.ob[n]? = some a) (ho : s[n]? = some o) (hd : o ≠ .dead) (hu : H a = some u) : StR g ⟨upd W.fro a u, W.ob, W.hid⟩ H (s.set n .dead) := by
  have hf : W.fro a = none := h.off n a o ha ho hd
  have hlt : n < s.length := (List.getElem?_eq_some_iff.mp ho).1
  refine ⟨fun b v e => ?_, by simp [h.len], h.nd, h.alive, fun m b x e e' d => ?_, fun m b x e e' => ?_, h.hid, h.hno, fun b q => ?_⟩
  · by_cases hb : b = a
    · have e' : upd W.fro a u b = some v := e
      rw [hb, upd_same] at e'; cases e'; rw [hb]; exact hu
    · have e' : upd W.fro a u b = some v := e
      rw [upd_ne hb] at e'; exact h.fro _ _ e'
  · by_cases hm : n = m
    · subst hm
      rw [List.getElem?_set_self hlt] at e'
      cases e'
      exact absurd rfl d
    · rw [List.getElem?_set_ne hm] at e'
      have hb : b ≠ a := fun z => hm (nd_ix h.nd ha (z ▸ e))
      show upd W.fro a u b = none
      rw [upd_ne hb]; exact h.off m b x e e' d
  · by_cases hm : n = m
    · subst hm
      rw [List.getElem?_set_self hlt] at e'
      cases e'
      exact .dead
    · rw [List.getElem?_set_ne hm] at e'
      exact (h.has m b x e e').mono (le_fro hf) rfl
  · show upd W.fro a u b = none
    have : b ≠ a := fun z => q (by rw [z]; exact h.hno n a ha)
    rw [upd_ne this]; exact h.hnf b q
theorem StR.le_freeze {n : Nat} {a : Addr} {o : MO} {u : HO} (h : StR g W H s) (ha : W.ob[n]? = some a) (ho : s[n]? = some o) (hd : o ≠ .dead) : W.Le ⟨upd W.fro a u, W.ob, W.hid⟩ := le_fro (h.off n a o ha ho hd)
/-- what stands at a mutable object's number -/
theorem StR.obj {n : Nat} {a : Addr} {o : MO} (h : StR g W H s) (ha : W.ob[n]? = some a) (ho : s[n]? = some o) : ORel g W H a o := h.has n a o ha ho
end

/-! ### judgements by computations -/
abbrev EM := En → S → Rs PV
abbrev TM := En → S → Rs Bool
abbrev AM := En → S → Rs (List PV)
inductive Fl where
  | nx (env : En)
  | ret (v : PV)
  | brk (env : En)
  | cnt (env : En)
abbrev SM := En → S → Rs Fl

/-- what follows a value -/
def Cont (g : G) (W : Wd) (Q : VK) (v : PV) (s : S) : Prop := ∀ W' H' u, W.Le W' → StR g W' H' s → Rep g.K W' v u → Q u H'
theorem Cont.here {g : G} {W : Wd} {Q : VK} {v : PV} {s : S} (h : Cont g W Q v s) {H : Hp} {u : V} (hs : StR g W H s) (r : Rep g.K W v u) : Q u H := h W H u (Wd.Le.refl W) hs r
theorem Cont.mono {g : G} {W W1 : Wd} {Q : VK} {v : PV} {s : S} (h : Cont g W Q v s) (l : W.Le W1) : Cont g W1 Q v s := fun W' H' u l' hs r => h W' H' u (l.trans l') hs r
def xfld (c : Str) : Str := if c = "BadText" then "at" else "thing"
/-- what follows an exception -/
def XW (g : G) (W : Wd) (Ex : XK) (c : Str) (x : PV) (s : S) : Prop := ∀ W' H' C d v, W.Le W' → StR g W' H' s → g.mg c = some (.ref C) → H' d = some (.xd [(xfld c, v)]) → Rep g.K W' x v → Ex (.ref C) (some d) H'
theorem XW.mono {g : G} {W W1 : Wd} {Ex : XK} {c : Str} {x : PV} {s : S} (h : XW g W Ex c x s) (l : W.Le W1) : XW g W1 Ex c x s := fun W' H' C d v l' hs e q r => h W' H' C d v (l.trans l') hs e q r

def tE (g : G) (Ex : XK) (m : EM) : TE := fun σ H Q => ∃ W s env, EnvR g.K W env σ ∧ StR g W H s ∧ Post (m env s) (Cont g W Q) (XW g W Ex)
def tT (g : G) (Ex : XK) (m : TM) : TT := fun σ H Q => ∃ W s env, EnvR g.K W env σ ∧ StR g W H s ∧ Post (m env s) (fun b s' => ∀ W' H', W.Le W' → StR g W' H' s' → Q b H') (XW g W Ex)
def tA (g : G) (Ex : XK) (m : AM) : TA := fun σ H Q => ∃ W s env, EnvR g.K W env σ ∧ StR g W H s ∧ Post (m env s) (fun vs s' => ∀ W' H' us, W.Le W' → StR g W' H' s' → Reps g.K W' vs us → Q us H') (XW g W Ex)
def FlC (g : G) (W : Wd) (D : Ends) (f : Fl) (s : S) : Prop :=
  match f with
  | .nx env => ∀ W' H' σ', W.Le W' → StR g W' H' s → EnvR g.K W' env σ' → D.nx σ' H'
  | .ret v => ∀ W' H' u, W.Le W' → StR g W' H' s → Rep g.K W' v u → D.rt u H'
  | .brk env => ∀ W' H' σ', W.Le W' → StR g W' H' s → EnvR g.K W' env σ' → D.bk σ' H'
  | .cnt env => ∀ W' H' σ', W.Le W' → StR g W' H' s → EnvR g.K W' env σ' → D.ct σ' H'
def tS (g : G) (Ex : XK) (m : SM) : TS := fun D σ H => ∃ W s env, EnvR g.K W env σ ∧ StR g W H s ∧ Post (m env s) (FlC g W D) (XW g W Ex)
theorem FlC.mono {g : G} {W W1 : Wd} {D : Ends} {f : Fl} {s : S} (h : FlC g W D f s) (l : W.Le W1) : FlC g W1 D f s := by
  cases f with
  | nx env => exact fun W' H' σ' l' => h W' H' σ' (l.trans l')
  | ret v => exact fun W' H' u l' => h W' H' u (l.trans l')
  | brk env => exact fun W' H' σ' l' => h W' H' σ' (l.trans l')
  | cnt env => exact fun W' H' σ' l' => h W' H' σ' (l.trans l')

/-- a rule with a weaker reading -/
theorem pe_weak {X : Cx} {e : Expr} {t t' : TE} (h : PE X e t) (w : ∀ σ H Q, t' σ H Q → t σ H Q) : PE X e t' := ⟨fun pins s σ H Q I q => h.run pins s σ H Q I (w σ H Q q)⟩
theorem pt_weak {X : Cx} {e : Expr} {t t' : TT} (h : PT X e t) (w : ∀ σ H Q, t' σ H Q → t σ H Q) : PT X e t' := ⟨fun pins s σ H Q I q => h.run pins s σ H Q I (w σ H Q q)⟩
theorem pw_weak {X : Cx} {e : Expr} {t t' : TT} (h : PW X e t) (w : ∀ σ H Q, t' σ H Q → t σ H Q) : PW X e t' := ⟨fun wh pins s σ H Q I q => h.run wh pins s σ H Q I (w σ H Q q)⟩
theorem pa_weak {X : Cx} {e : List Expr} {t t' : TA} (h : PA X e t) (w : ∀ σ H Q, t' σ H Q → t σ H Q) : PA X e t' := ⟨fun p pins s σ H Q I q => h.run p pins s σ H Q I (w σ H Q q)⟩
theorem ps_weak {X : Cx} {e : Stmt} {t t' : TS} (h : PS X e t) (w : ∀ D σ H, t' D σ H → t D σ H) : PS X e t' := ⟨fun pins s σ H D I q => h.run pins s σ H D I (w D σ H q)⟩
theorem pss_weak {X : Cx} {e : List Stmt} {t t' : TS} (h : PSs X e t) (w : ∀ D σ H, t' D σ H → t D σ H) : PSs X e t' := ⟨fun pins s σ H D I q => h.run pins s σ H D I (w D σ H q)⟩

section
variable {g : G} {Ex : XK} {W : Wd} {s : S} {env : En} {σ : St} {H : Hp}
/-- the first part of a bind -/
theorem tE_bind {α : Type} {m : EM} {k : PV → S → Rs α} {Q : α → S → Prop} {R : VK} (he : EnvR g.K W env σ) (hs : StR g W H s) (h : Post ((m env s).bind k) Q (XW g W Ex))
    (hk : ∀ v s1 W1 H1 u, W.Le W1 → EnvR g.K W1 env σ → StR g W1 H1 s1 → Rep g.K W1 v u → Post (k v s1) Q (XW g W1 Ex) → R u H1) : tE g Ex m σ H R :=
  ⟨W, s, env, he, hs, h.bind.mono (fun v s1 q W1 H1 u l hs1 r => hk v s1 W1 H1 u l (he.mono l) hs1 r (q.mono (fun _ _ z => z) fun _ _ _ z => z.mono l)) fun _ _ _ z => z⟩
theorem tA_bind {α : Type} {m : AM} {k : List PV → S → Rs α} {Q : α → S → Prop} {R : List V → Hp → Prop} (he : EnvR g.K W env σ) (hs : StR g W H s) (h : Post ((m env s).bind k) Q (XW g W Ex))
    (hk : ∀ v s1 W1 H1 u, W.Le W1 → EnvR g.K W1 env σ → StR g W1 H1 s1 → Reps g.K W1 v u → Post (k v s1) Q (XW g W1 Ex) → R u H1) : tA g Ex m σ H R :=
  ⟨W, s, env, he, hs, h.bind.mono (fun v s1 q W1 H1 u l hs1 r => hk v s1 W1 H1 u l (he.mono l) hs1 r (q.mono (fun _ _ z => z) fun _ _ _ z => z.mono l)) fun _ _ _ z => z⟩
theorem tT_bind {α : Type} {m : TM} {k : Bool → S → Rs α} {Q : α → S → Prop} {R : Bool → Hp → Prop} (he : EnvR g.K W env σ) (hs : StR g W H s) (h : Post ((m env s).bind k) Q (XW g W Ex))
    (hk : ∀ v s1 W1 H1, W.Le W1 → EnvR g.K W1 env σ → StR g W1 H1 s1 → Post (k v s1) Q (XW g W1 Ex) → R v H1) : tT g Ex m σ H R :=
  ⟨W, s, env, he, hs, h.bind.mono (fun v s1 q W1 H1 l hs1 => hk v s1 W1 H1 l (he.mono l) hs1 (q.mono (fun _ _ z => z) fun _ _ _ z => z.mono l)) fun _ _ _ z => z⟩
end
end Z

set_option Elab.async false
set_option linter.all false
set_option maxRecDepth 100000
set_option maxHeartbeats 4000000
/-! Z2: expressions. -/
namespace Z
open PySem PySem.Spec L2

abbrev O1 := PV → S → Option (PV × S)
abbrev O2 := PV → PV → S → Option (PV × S)
abbrev OL := List PV → S → Option (PV × S)
def lift (o : Option (PV × S)) : Rs PV :=
  match o with
  | some (v, s) => .ok v s
  | none => .fail
theorem Post.lift {o : Option (PV × S)} {Q : PV → S → Prop} {E : Str → PV → S → Prop} (h : Post (lift o) Q E) : ∃ v s, o = some (v, s) ∧ Q v s := by
  cases o with
  | none => exact h.elim
  | some p => exact ⟨p.1, p.2, rfl, h⟩

/-! ### what the computations are -/
def eV (i : Nat) : EM := fun env s =>
  match env[i]? with
  | some (some v) => .ok v s
  | _ => .fail
def eC (v : PV) : EM := fun _ s => .ok v s
def eUn (f : O1) (a : EM) : EM := fun env s => (a env s).bind fun x s1 => lift (f x s1)
def eOp (f : O2) (a b : EM) : EM := fun env s => (a env s).bind fun x s1 => (b env s1).bind fun y s2 => lift (f x y s2)
def aNil : AM := fun _ s => .ok [] s
def aCons (a : EM) (b : AM) : AM := fun env s => (a env s).bind fun x s1 => (b env s1).bind fun xs s2 => .ok (x :: xs) s2
def eLs (f : OL) (a : AM) : EM := fun env s => (a env s).bind fun xs s1 => lift (f xs s1)
def eIf (t : TM) (a b : EM) : EM := fun env s => (t env s).bind fun c s1 => if c then a env s1 else b env s1
/-- and, or, not as values: all but the last are truths -/
def eAnd (a b : EM) : EM := fun env s => (a env s).bind fun x s1 =>
  match x with
  | .bl true => b env s1
  | .bl false => .ok (.bl false) s1
  | _ => .fail
def eOr (a b : EM) : EM := fun env s => (a env s).bind fun x s1 =>
  match x with
  | .bl true => .ok (.bl true) s1
  | .bl false => b env s1
  | _ => .fail
def eNot (a : EM) : EM := fun env s => (a env s).bind fun x s1 =>
  match x with
  | .bl k => .ok (.bl (!k)) s1
  | _ => .fail
/-- tests -/
def tB (a : EM) : TM := fun env s => (a env s).bind fun x s1 =>
  match x with
  | .bl k => .ok k s1
  | _ => .fail
def tAnd (a b : TM) : TM := fun env s => (a env s).bind fun c s1 => if c then b env s1 else .ok false s1
def tOr (a b : TM) : TM := fun env s => (a env s).bind fun c s1 => if c then .ok true s1 else b env s1
def tNot (a : TM) : TM := fun env s => (a env s).bind fun c s1 => .ok (!c) s1
/-- a chain of two comparisons -/
def eCh (f f' : O2) (a b c : EM) : EM := fun env s => (a env s).bind fun x s1 => (b env s1).bind fun y s2 => (lift (f x y s2)).bind fun r s3 =>
  match r with
  | .bl true => (c env s3).bind fun z s4 => lift (f' y z s4)
  | .bl false => .ok (.bl false) s3
  | _ => .fail

section
variable {X : Cx} {Ex : XK} {pos : Pos} {a b : Expr} {ma mb : EM}

theorem se_var {i : Nat} {x : Str} (hN : X.N[i]? = some x) (hv : Vis X.env.scope x) (hd : (x == ("__debug__" : Str)) = false := by decide) (hcd : (x == ("__classdict__" : Str)) = false := by decide) : PE X (.Name x pos) (tE (gx X) Ex (eV i)) := by
  refine pe_weak (pe_var hN hv hd hcd) fun σ H Q ⟨W, s, env, he, hs, h⟩ => ?_
  unfold eV at h
  split at h
  · rename_i v e
    obtain ⟨u, e', r⟩ := he.2 i v e
    exact ⟨u, e', Cont.here h hs r⟩
  · exact h.elim
theorem se_const {e : Expr} {v : V} {pv : PV} (h : PE X e (tC v)) (r : ∀ W, Rep X.K W pv v) : PE X e (tE (gx X) Ex (eC pv)) :=
  pe_weak h fun σ H Q ⟨W, s, env, he, hs, q⟩ => Cont.here q hs (r W)
theorem se_int {i : Int} {j : Nat} : PE X (.Constant (.int i) j pos) (tE (gx X) Ex (eC (.int i))) := se_const pe_int fun _ => .int _
theorem se_bl {i : Bool} {j : Nat} : PE X (.Constant (.bool i) j pos) (tE (gx X) Ex (eC (.bl i))) := se_const pe_bl fun _ => .bl _
theorem se_non {j : Nat} : PE X (.Constant .none j pos) (tE (gx X) Ex (eC .non)) := se_const pe_non fun _ => .non
theorem se_str {x : Str} {j : Nat} : PE X (.Constant (.str x) j pos) (tE (gx X) Ex (eC (.str x))) := se_const pe_str fun _ => .str _

/-! ### operators -/
def rM (g : G) (f : O2) : R2 := fun x y H Q => ∃ W s px py v s', Rep g.K W px x ∧ Rep g.K W py y ∧ StR g W H s ∧ f px py s = some (v, s') ∧ Cont g W Q v s'
def rU1 (g : G) (f : O1) : V → Hp → VK → Prop := fun x H Q => ∃ W s px v s', Rep g.K W px x ∧ StR g W H s ∧ f px s = some (v, s') ∧ Cont g W Q v s'
def rL (g : G) (f : OL) : List V → Hp → VK → Prop := fun xs H Q => ∃ W s pxs v s', Reps g.K W pxs xs ∧ StR g W H s ∧ f pxs s = some (v, s') ∧ Cont g W Q v s'

theorem tOp_of {f : O2} {σ : L2.St} {H : Hp} {Q : VK} (h : tE (gx X) Ex (eOp f ma mb) σ H Q) : tOp (rM (gx X) f) (tE (gx X) Ex ma) (tE (gx X) Ex mb) σ H Q := by
  obtain ⟨W, s, env, he, hs, h⟩ := h
  refine tE_bind he hs h fun x s1 W1 H1 u l1 he1 hs1 r1 h1 => ?_
  refine tE_bind he1 hs1 h1 fun y s2 W2 H2 u2 l2 he2 hs2 r2 h2 => ?_
  obtain ⟨v, s', e, hc⟩ := h2.lift
  exact ⟨W2, s2, x, y, v, s', r1.mono l2, r2, hs2, e, hc.mono (l1.trans l2)⟩
theorem se_op {op : Operator} {f : O2} (ho : OpR X (binaryOp op) (rM (gx X) f)) (ha : PE X a (tE (gx X) Ex ma)) (hb : PE X b (tE (gx X) Ex mb)) : PE X (.BinOp a op b pos) (tE (gx X) Ex (eOp f ma mb)) :=
  pe_weak (pe_op ho ha hb) fun _ _ _ h => tOp_of h
theorem se_cmp {op : CmpOp} {f : O2} (ho : OpR X (compareOp op) (rM (gx X) f)) (ha : PE X a (tE (gx X) Ex ma)) (hb : PE X b (tE (gx X) Ex mb)) (hm : behindInMarks op b = false) : PE X (.Compare a [op] [b] pos) (tE (gx X) Ex (eOp f ma mb)) :=
  pe_weak (pe_cmpR ho ha hb hm) fun _ _ _ h => tOp_of h
theorem tE_bl {m : EM} {σ : L2.St} {H : Hp} {Q : Bool → Hp → Prop} (h : tT (gx X) Ex (tB m) σ H Q) : tE (gx X) Ex m σ H (fun x H1 => ∃ k, x = .bl k ∧ Q k H1) := by
  obtain ⟨W, s, env, he, hs, h⟩ := h
  refine tE_bind he hs h fun x s1 W1 H1 u l1 he1 hs1 r1 h1 => ?_
  cases x with
  | bl k => cases r1; exact ⟨k, rfl, h1 W1 H1 l1 hs1⟩
  | _ => exact h1.elim
theorem st_cmp {op : CmpOp} {f : O2} (ho : OpR X (compareOp op) (rM (gx X) f)) (ha : PE X a (tE (gx X) Ex ma)) (hb : PE X b (tE (gx X) Ex mb)) (hm : behindInMarks op b = false) : PT X (.Compare a [op] [b] pos) (tT (gx X) Ex (tB (eOp f ma mb))) :=
  pt_weak (pt_cmpR ho ha hb hm) fun _ _ _ h => tOp_of (tE_bl h)
theorem tCh_of {f f' : O2} {mc : EM} {σ : L2.St} {H : Hp} {Q : VK} (h : tE (gx X) Ex (eCh f f' ma mb mc) σ H Q) : tChain (rM (gx X) f) (rM (gx X) f') (tE (gx X) Ex ma) (tE (gx X) Ex mb) (tE (gx X) Ex mc) σ H Q := by
  obtain ⟨W, s, env, he, hs, h⟩ := h
  refine tE_bind he hs h fun x s1 W1 H1 u l1 he1 hs1 r1 h1 => ?_
  refine tE_bind he1 hs1 h1 fun y s2 W2 H2 u2 l2 he2 hs2 r2 h2 => ?_
  obtain ⟨v, s', e, hc⟩ := h2.bind.lift
  refine ⟨W2, s2, x, y, v, s', r1.mono l2, r2, hs2, e, fun W3 H3 u3 l3 hs3 r3 => ?_⟩
  cases v with
  | bl k =>
    cases r3
    refine ⟨k, rfl, ?_⟩
    cases k with
    | true =>
      rw [if_pos rfl]
      refine tE_bind (he2.mono l3) hs3 (hc.mono (fun _ _ z => z) fun _ _ _ z => z.mono l3) fun z s4 W4 H4 u4 l4 he4 hs4 r4 h4 => ?_
      obtain ⟨v', s5, e', hc'⟩ := h4.lift
      exact ⟨W4, s4, y, z, v', s5, (r2.mono l3).mono l4, r4, hs4, e', hc'.mono (((l1.trans l2).trans l3).trans l4)⟩
    | false =>
      rw [if_neg Bool.false_ne_true]
      exact hc W3 H3 _ ((l1.trans l2).trans l3) hs3 (.bl false)
  | _ => exact hc.elim
theorem se_chain {op op' : CmpOp} {f f' : O2} {c : Expr} {mc : EM} (ho : OpR X (compareOp op) (rM (gx X) f)) (ho' : OpR X (compareOp op') (rM (gx X) f')) (ha : PE X a (tE (gx X) Ex ma)) (hb : PE X b (tE (gx X) Ex mb)) (hc : PE X c (tE (gx X) Ex mc))
    (h1 : lastMarks [op, op'] [b, c] = false := by with_unfolding_all rfl) : PE X (.Compare a [op, op'] [b, c] pos) (tE (gx X) Ex (eCh f f' ma mb mc)) :=
  pe_weak (pe_chain ho ho' ha hb hc h1) fun _ _ _ h => tCh_of h
theorem st_chain {op op' : CmpOp} {f f' : O2} {c : Expr} {mc : EM} (ho : OpR X (compareOp op) (rM (gx X) f)) (ho' : OpR X (compareOp op') (rM (gx X) f')) (ha : PE X a (tE (gx X) Ex ma)) (hb : PE X b (tE (gx X) Ex mb)) (hc : PE X c (tE (gx X) Ex mc))
    (h1 : lastMarks [op, op'] [b, c] = false := by with_unfolding_all rfl) : PT X (.Compare a [op, op'] [b, c] pos) (tT (gx X) Ex (tB (eCh f f' ma mb mc))) :=
  pt_weak (pt_chain ho ho' ha hb hc h1) fun _ _ _ h => tCh_of (tE_bl h)
theorem se_un {op : UnaryOp} {f : O1} (ho : UnR X (unaryOp op) (rU1 (gx X) f)) (ha : PE X a (tE (gx X) Ex ma)) : PE X (.UnaryOp op a pos) (tE (gx X) Ex (eUn f ma)) := by
  refine pe_weak (pe_un ho ha) fun σ H Q ⟨W, s, env, he, hs, h⟩ => ?_
  refine tE_bind he hs h fun x s1 W1 H1 u l1 he1 hs1 r1 h1 => ?_
  obtain ⟨v, s', e, hc⟩ := h1.lift
  exact ⟨W1, s1, x, v, s', r1, hs1, e, hc.mono l1⟩

/-! ### and, or, not, if -/
theorem se_one {op : BoolOp} {m : EM} (h : PE X a (tE (gx X) Ex m)) : PE X (.BoolOp op [a] pos) (tE (gx X) Ex m) := pe_one h
theorem se_and {rest : List Expr} (ha : PE X a (tE (gx X) Ex ma)) (hb : PE X (.BoolOp .And (b :: rest) pos) (tE (gx X) Ex mb)) : PE X (.BoolOp .And (a :: b :: rest) pos) (tE (gx X) Ex (eAnd ma mb)) := by
  refine pe_weak (pe_and ha hb) fun σ H Q ⟨W, s, env, he, hs, h⟩ => ?_
  refine tE_bind he hs h fun x s1 W1 H1 u l1 he1 hs1 r1 h1 => ?_
  cases x with
  | bl k =>
    cases r1
    refine ⟨k, rfl, ?_⟩
    cases k with
    | true => rw [if_pos rfl]; exact ⟨W1, s1, env, he1, hs1, Post.mono h1 (fun _ _ z => z.mono l1) fun _ _ _ z => z⟩
    | false => rw [if_neg Bool.false_ne_true]; exact h1 W1 H1 _ l1 hs1 (.bl false)
  | _ => exact h1.elim
theorem se_or {rest : List Expr} (ha : PE X a (tE (gx X) Ex ma)) (hb : PE X (.BoolOp .Or (b :: rest) pos) (tE (gx X) Ex mb)) : PE X (.BoolOp .Or (a :: b :: rest) pos) (tE (gx X) Ex (eOr ma mb)) := by
  refine pe_weak (pe_or ha hb) fun σ H Q ⟨W, s, env, he, hs, h⟩ => ?_
  refine tE_bind he hs h fun x s1 W1 H1 u l1 he1 hs1 r1 h1 => ?_
  cases x with
  | bl k =>
    cases r1
    refine ⟨k, rfl, ?_⟩
    cases k with
    | true => rw [if_pos rfl]; exact h1 W1 H1 _ l1 hs1 (.bl true)
    | false => rw [if_neg Bool.false_ne_true]; exact ⟨W1, s1, env, he1, hs1, Post.mono h1 (fun _ _ z => z.mono l1) fun _ _ _ z => z⟩
  | _ => exact h1.elim
theorem se_not (ha : PE X a (tE (gx X) Ex ma)) : PE X (.UnaryOp .Not a pos) (tE (gx X) Ex (eNot ma)) := by
  refine pe_weak (pe_not ha) fun σ H Q ⟨W, s, env, he, hs, h⟩ => ?_
  refine tE_bind he hs h fun x s1 W1 H1 u l1 he1 hs1 r1 h1 => ?_
  cases x with
  | bl k => cases r1; exact ⟨k, rfl, h1 W1 H1 _ l1 hs1 (.bl _)⟩
  | _ => exact h1.elim
theorem se_if {c : Expr} {mc : TM} (hc : PT X c (tT (gx X) Ex mc)) (ha : PE X a (tE (gx X) Ex ma)) (hb : PE X b (tE (gx X) Ex mb)) : PE X (.IfExp c a b pos) (tE (gx X) Ex (eIf mc ma mb)) := by
  refine pe_weak (pe_ifExp hc ha hb) fun σ H Q ⟨W, s, env, he, hs, h⟩ => ?_
  refine tT_bind he hs h fun k s1 W1 H1 l1 he1 hs1 h1 => ?_
  cases k with
  | true => rw [if_pos rfl]; exact ⟨W1, s1, env, he1, hs1, Post.mono h1 (fun _ _ z => z.mono l1) fun _ _ _ z => z⟩
  | false => rw [if_neg Bool.false_ne_true]; exact ⟨W1, s1, env, he1, hs1, Post.mono h1 (fun _ _ z => z.mono l1) fun _ _ _ z => z⟩

/-! ### tests -/
theorem st_val {m : EM} (h : PE X a (tE (gx X) Ex m)) (he : ∀ whole, isTrue a X.env whole = (do let v ← whole; standAt a.pos; holding [v] (truthy v)) := by intro _; rfl) : PT X a (tT (gx X) Ex (tB m)) :=
  pt_weak (pt_val h he) fun _ _ _ q => tE_bl q
theorem sw_and1 {mc : TM} (h : PT X a (tT (gx X) Ex mc)) : PW X (.BoolOp .And [a] pos) (tT (gx X) Ex mc) := pw_and1 h
theorem sw_or1 {mc : TM} (h : PT X a (tT (gx X) Ex mc)) : PW X (.BoolOp .Or [a] pos) (tT (gx X) Ex mc) := pw_or1 h
theorem sw_and {rest : List Expr} {ta tb : TM} (ha : PT X a (tT (gx X) Ex ta)) (hb : PW X (.BoolOp .And (b :: rest) pos) (tT (gx X) Ex tb)) : PW X (.BoolOp .And (a :: b :: rest) pos) (tT (gx X) Ex (tAnd ta tb)) := by
  refine pw_weak (pw_and ha hb) fun σ H Q ⟨W, s, env, he, hs, h⟩ => ?_
  refine tT_bind he hs h fun k s1 W1 H1 l1 he1 hs1 h1 => ?_
  cases k with
  | true => rw [if_pos rfl]; exact ⟨W1, s1, env, he1, hs1, Post.mono h1 (fun _ _ z W' H' l => z W' H' (l1.trans l)) fun _ _ _ z => z⟩
  | false => rw [if_neg Bool.false_ne_true]; exact h1 W1 H1 l1 hs1
theorem sw_or {rest : List Expr} {ta tb : TM} (ha : PT X a (tT (gx X) Ex ta)) (hb : PW X (.BoolOp .Or (b :: rest) pos) (tT (gx X) Ex tb)) : PW X (.BoolOp .Or (a :: b :: rest) pos) (tT (gx X) Ex (tOr ta tb)) := by
  refine pw_weak (pw_or ha hb) fun σ H Q ⟨W, s, env, he, hs, h⟩ => ?_
  refine tT_bind he hs h fun k s1 W1 H1 l1 he1 hs1 h1 => ?_
  cases k with
  | true => rw [if_pos rfl]; exact h1 W1 H1 l1 hs1
  | false => rw [if_neg Bool.false_ne_true]; exact ⟨W1, s1, env, he1, hs1, Post.mono h1 (fun _ _ z W' H' l => z W' H' (l1.trans l)) fun _ _ _ z => z⟩
theorem st_w {mc : TM} (h : PW X a (tT (gx X) Ex mc)) : PT X a (tT (gx X) Ex mc) := h.pt
theorem st_not {mc : TM} (h : PT X a (tT (gx X) Ex mc)) : PT X (.UnaryOp .Not a pos) (tT (gx X) Ex (tNot mc)) := by
  refine pt_weak (pt_not h) fun σ H Q ⟨W, s, env, he, hs, h⟩ => ?_
  refine tT_bind he hs h fun k s1 W1 H1 l1 he1 hs1 h1 => h1 W1 H1 l1 hs1

/-! ### arguments, displays -/
theorem sa_nil : PA X [] (tA (gx X) Ex aNil) := pa_weak pa_nil fun σ H Q ⟨W, s, env, he, hs, h⟩ => h W H [] (Wd.Le.refl W) hs .nil
theorem sa_cons {e : Expr} {es : List Expr} {m : EM} {ms : AM} (ha : PE X e (tE (gx X) Ex m)) (hr : PA X es (tA (gx X) Ex ms)) (hs : starEach (e :: es) X.env = (false, eval e X.env) :: starEach es X.env := by rfl) : PA X (e :: es) (tA (gx X) Ex (aCons m ms)) := by
  refine pa_weak (pa_cons ha hr hs) fun σ H Q ⟨W, s, env, he, hs, h⟩ => ?_
  refine tE_bind he hs h fun x s1 W1 H1 u l1 he1 hs1 r1 h1 => ?_
  refine tA_bind he1 hs1 h1 fun xs s2 W2 H2 us l2 he2 hs2 r2 h2 => ?_
  exact h2 W2 H2 _ (l1.trans l2) hs2 (.cons (r1.mono l2) r2)

/-- what a new thing is -/
def newT (xs : List PV) (s : S) : Option (PV × S) := if xs.length ≤ 16000000 then some (.tup xs, s) else none
def newL (mu : Bool) (xs : List PV) (s : S) : Option (PV × S) :=
  if xs.length ≤ 16000000 then (if mu then some (.obj s.length, s ++ [.lst xs]) else some (.lst xs, s)) else none
theorem big_line {n : Nat} (h : n ≤ 16000000) : n ≤ sizeLine := by rw [sizeLine_eq]; omega
theorem newT_ok {g : G} {W : Wd} {H : Hp} {s s' : S} {xs : List PV} {vs : List V} {v : PV} {Q : VK} (hs : StR g W H s) (r : Reps g.K W xs vs) (e : newT xs s = some (v, s')) (hc : Cont g W Q v s') :
    vs.length ≤ sizeLine ∧ ∀ p, H p = none → Q (.ref p) (upd H p (.tup vs)) := by
  unfold newT at e
  split at e
  · rename_i hl
    cases e
    refine ⟨by rw [← r.length]; exact big_line hl, fun p hp => ?_⟩
    have l : W.Le ⟨upd W.fro p (.tup vs), W.ob, W.hid⟩ := hs.le_new hp
    exact hc _ _ _ l (hs.new hp) (.tup (.inl (.inl upd_same)) (r.mono l))
  · cases e
theorem newL_ok {g : G} {W : Wd} {H : Hp} {s s' : S} {xs : List PV} {vs : List V} {v : PV} {Q : VK} {mu : Bool} (hs : StR g W H s) (r : Reps g.K W xs vs) (e : newL mu xs s = some (v, s')) (hc : Cont g W Q v s') :
    vs.length ≤ sizeLine ∧ ∀ p, H p = none → Q (.ref p) (upd H p (.lst vs)) := by
  unfold newL at e
  split at e
  · rename_i hl
    refine ⟨by rw [← r.length]; exact big_line hl, fun p hp => ?_⟩
    cases mu with
    | true =>
      cases e
      have l : W.Le ⟨W.fro, W.ob ++ [p], W.hid⟩ := le_ob p
      exact hc _ _ _ l (hs.alloc hp (.lst upd_same (r.mono l))) (.obj (by rw [← hs.len]; simp))
    | false =>
      cases e
      have l : W.Le ⟨upd W.fro p (.lst vs), W.ob, W.hid⟩ := hs.le_new hp
      exact hc _ _ _ l (hs.new hp) (.lst upd_same (r.mono l))
  · cases e
def eTup (m : AM) : EM := eLs newT m
def eLst (mu : Bool) (m : AM) : EM := eLs (newL mu) m
theorem se_tup {es : List Expr} {m : AM} {x1} (h : PA X es (tA (gx X) Ex m)) : PE X (.Tuple es x1 pos) (tE (gx X) Ex (eTup m)) := by
  refine pe_weak (pe_tup h) fun σ H Q ⟨W, s, env, he, hs, h⟩ => ?_
  refine tA_bind he hs h fun xs s1 W1 H1 us l1 he1 hs1 r1 h1 => ?_
  obtain ⟨v, s', e, hc⟩ := h1.lift
  exact newT_ok hs1 r1 e (hc.mono l1)
theorem se_lst {es : List Expr} {m : AM} (mu : Bool) (h : PA X es (tA (gx X) Ex m)) : PE X (.List es pos) (tE (gx X) Ex (eLst mu m)) := by
  refine pe_weak (pe_lst h) fun σ H Q ⟨W, s, env, he, hs, h⟩ => ?_
  refine tA_bind he hs h fun xs s1 W1 H1 us l1 he1 hs1 r1 h1 => ?_
  obtain ⟨v, s', e, hc⟩ := h1.lift
  exact newL_ok hs1 r1 e (hc.mono l1)

/-! ### calls of built-ins by values -/
theorem tCB_of {f : OL} {m : AM} {σ : L2.St} {H : Hp} {Q : VK} (h : tE (gx X) Ex (eLs f m) σ H Q) : tCB (rL (gx X) f) (tA (gx X) Ex m) σ H Q := by
  obtain ⟨W, s, env, he, hs, h⟩ := h
  refine tA_bind he hs h fun xs s1 W1 H1 us l1 he1 hs1 r1 h1 => ?_
  obtain ⟨v, s', e, hc⟩ := h1.lift
  exact ⟨W1, s1, xs, v, s', r1, hs1, e, hc.mono l1⟩
theorem se_callB {x : Str} {id : String} {p : Pos} {e : Expr} {es : List Expr} {f : OL} {m : AM} (hc : CallR X (.builtin id) (rL (gx X) f)) (hg : Gl X x) (hm : X.mg x = none) (hv : bootBuiltins x = some (.builtin id)) (ha : PA X (e :: es) (tA (gx X) Ex m))
    (hn : x ≠ "__name__" := by decide) (hdb : (x == ("__debug__" : Str)) = false := by decide) (he : starEach (e :: es) X.env = (false, eval e X.env) :: starEach es X.env := by rfl) (hpl : (backTo pos (starEach es X.env)).any (·.1) = false := by rfl) :
    PE X (.Call (.Name x p) (e :: es) [] pos) (tE (gx X) Ex (eLs f m)) := pe_weak (pe_callB hc hg hm hv ha hn hdb he hpl) fun _ _ _ h => tCB_of h
theorem se_callTy {x : Str} {T : String} {p : Pos} {e : Expr} {es : List Expr} {f : OL} {m : AM} (hc : CallR X (.type T) (rL (gx X) f)) (hg : Gl X x) (hm : X.mg x = none) (hv : bootBuiltins x = some (.type T)) (ha : PA X (e :: es) (tA (gx X) Ex m))
    (hn : x ≠ "__name__" := by decide) (hdb : (x == ("__debug__" : Str)) = false := by decide) (he : starEach (e :: es) X.env = (false, eval e X.env) :: starEach es X.env := by rfl) (hpl : (backTo pos (starEach es X.env)).any (·.1) = false := by rfl) :
    PE X (.Call (.Name x p) (e :: es) [] pos) (tE (gx X) Ex (eLs f m)) := pe_weak (pe_callTy hc hg hm hv ha hn hdb he hpl) fun _ _ _ h => tCB_of h
end
end Z

set_option Elab.async false
set_option linter.all false
set_option maxRecDepth 100000
set_option maxHeartbeats 4000000
/-! Z3: the operators by values. -/
namespace Z
open PySem PySem.Spec L2

section
variable {X : Cx}
theorem Reps.atI {K : PySem.W.Frag} {W : Wd} {xs : List PV} {vs : List V} (r : Reps K W xs vs) {i : Int} {x : PV} (e : L2.atI xs i = some x) : ∃ v, L2.atI vs i = some v ∧ Rep K W x v := by
  unfold L2.atI at e ⊢
  rw [r.length] at e
  cases q : ixN vs.length i with
  | none => rw [q] at e; cases e
  | some j => rw [q] at e; exact r.get e
theorem tup_sq {g : G} {W : Wd} {H : Hp} {s : S} {a : Addr} {vs : List V} (hs : StR g W H s) (h : SqT g.K W.fro a vs) : SqT g.K H a vs := hs.fro.sqT h
/-- a list's items: of one that stands for ever, of a mutable one -/
def lsOf (s : S) (x : PV) : Option (List PV) :=
  match x with
  | .lst xs => some xs
  | .obj n => match s[n]? with
    | some (.lst xs) => some xs
    | _ => none
  | _ => none
theorem lsOf_ok {g : G} {W : Wd} {H : Hp} {s : S} {x : PV} {v : V} {xs : List PV} (hs : StR g W H s) (r : Rep g.K W x v) (e : lsOf s x = some xs) : ∃ a vs, v = .ref a ∧ H a = some (.lst vs) ∧ Reps g.K W xs vs := by
  cases r with
  | lst h q => cases e; exact ⟨_, _, rfl, hs.fro _ _ h, q⟩
  | obj h =>
    rename_i a n
    have e' : (match s[n]? with | some (.lst xs) => some xs | _ => none) = some xs := e
    cases hn : s[n]? with
    | none => rw [hn] at e'; cases e'
    | some o =>
      rw [hn] at e'
      have q := hs.obj h hn
      cases o with
      | lst ys => cases e'; cases q with | lst h1 q => exact ⟨_, _, rfl, h1, q⟩
      | _ => cases e'
  | _ => cases e
/-- .. the script too: what is read alone -/
def rdOf (s : S) (x : PV) : Option (List PV) :=
  match x with
  | .scr xs => some xs
  | x => lsOf s x
theorem rdOf_ok {g : G} {W : Wd} {H : Hp} {s : S} {x : PV} {v : V} {xs : List PV} (hs : StR g W H s) (r : Rep g.K W x v) (e : rdOf s x = some xs) : ∃ a vs, v = .ref a ∧ SqL g.K H a vs ∧ Reps g.K W xs vs := by
  by_cases h : ∃ ys, x = .scr ys
  · obtain ⟨ys, rfl⟩ := h
    cases e
    cases r with | scr h q => exact ⟨_, _, rfl, hs.fro.sqL h, q⟩
  · have e' : lsOf s x = some xs := by
      cases x with
      | scr ys => exact absurd ⟨ys, rfl⟩ h
      | _ => exact e
    obtain ⟨a, vs, h1, h2, h3⟩ := lsOf_ok hs r e'
    exact ⟨a, vs, h1, .inl (.inl h2), h3⟩
/-- items of a list or a tuple -/
def sqOf (s : S) (x : PV) : Option (List PV) :=
  match x with
  | .tup xs => some xs
  | x => rdOf s x
theorem sqOf_ok {g : G} {W : Wd} {H : Hp} {s : S} {x : PV} {v : V} {xs : List PV} (hs : StR g W H s) (r : Rep g.K W x v) (e : sqOf s x = some xs) : ∃ a vs, v = .ref a ∧ (SqL g.K H a vs ∨ SqT g.K H a vs) ∧ Reps g.K W xs vs := by
  by_cases h : ∃ ys, x = .tup ys
  · obtain ⟨ys, rfl⟩ := h
    cases e
    cases r with | tup h q => exact ⟨_, _, rfl, .inr (tup_sq hs h), q⟩
  · have e' : rdOf s x = some xs := by
      cases x with
      | tup ys => exact absurd ⟨ys, rfl⟩ h
      | _ => exact e
    obtain ⟨a, vs, h1, h2, h3⟩ := rdOf_ok hs r e'
    exact ⟨a, vs, h1, .inl h2, h3⟩

/-! ### + - * // % ** -/
def b2 (k : Bool) : Int := if k then 1 else 0
def oAdd (mu : Bool) : O2 := fun x y s =>
  match x, y with
  | .int i, .int j => some (.int (i + j), s)
  | .int i, .bl k => some (.int (i + b2 k), s)
  | .str a, .str b => if a.length + b.length ≤ 16000000 then some (.str (a ++ b), s) else none
  | .tup xs, .tup ys => newT (xs ++ ys) s
  | x, y => match lsOf s x, lsOf s y with
    | some xs, some ys => newL mu (xs ++ ys) s
    | _, _ => none
def oSub : O2 := fun x y s =>
  match x, y with
  | .int i, .int j => some (.int (i - j), s)
  | _, _ => none
def oMulI : O2 := fun x y s =>
  match x, y with
  | .int i, .int j => if (-(2 ^ 64) < i ∧ i < 2 ^ 64) ∨ (-(2 ^ 64) < j ∧ j < 2 ^ 64) then some (.int (i * j), s) else none
  | _, _ => none
def oRep (mu : Bool) : O2 := fun x y s =>
  match lsOf s x, y with
  | some xs, .int k => if -(2 ^ 63) ≤ k ∧ k < 2 ^ 63 then newL mu (List.replicate k.toNat xs).flatten s else none
  | _, _ => none
def oFdiv : O2 := fun x y s =>
  match x, y with
  | .int i, .int j => if j ≠ 0 ∧ j.natAbs < 1073741824 then some (.int (i.fdiv j), s) else none
  | _, _ => none
def oMod : O2 := fun x y s =>
  match x, y with
  | .int i, .int j => if j ≠ 0 then some (.int (i.fmod j), s) else none
  | _, _ => none
def oPow : O2 := fun x y s =>
  match x, y with
  | .int i, .int j => if 0 ≤ j ∧ j ≤ 1000000 ∧ i.natAbs < 2 ^ 64 then some (.int (i ^ j.toNat), s) else none
  | _, _ => none
def uNeg : O1 := fun x s =>
  match x with
  | .int i => some (.int (-i), s)
  | _ => none

theorem r_sub : OpR X (binaryOp .Sub) (rM (gx X) oSub) := by
  intro pins s σ H x y v u Q I rx ry ⟨W, st, px, py, r, s', r1, r2, hs, e, hc⟩
  unfold oSub at e
  split at e <;> try (cases e; done)
  cases e; cases r1; cases r2
  exact op_sub pins s σ H _ _ v u Q I rx ry ⟨_, _, rfl, rfl, hc.here hs (.int _)⟩
theorem r_mod : OpR X (binaryOp .Mod) (rM (gx X) oMod) := by
  intro pins s σ H x y v u Q I rx ry ⟨W, st, px, py, r, s', r1, r2, hs, e, hc⟩
  unfold oMod at e
  split at e <;> try (cases e; done)
  split at e <;> try (cases e; done)
  rename_i h
  cases e; cases r1; cases r2
  exact op_modN pins s σ H _ _ v u Q I rx ry ⟨_, _, rfl, rfl, h, hc.here hs (.int _)⟩
theorem r_fdiv : OpR X (binaryOp .FloorDiv) (rM (gx X) oFdiv) := by
  intro pins s σ H x y v u Q I rx ry ⟨W, st, px, py, r, s', r1, r2, hs, e, hc⟩
  unfold oFdiv at e
  split at e <;> try (cases e; done)
  split at e <;> try (cases e; done)
  rename_i h
  cases e; cases r1; cases r2
  exact op_fdivN pins s σ H _ _ v u Q I rx ry ⟨_, _, rfl, rfl, h, hc.here hs (.int _)⟩
theorem r_pow : OpR X (binaryOp .Pow) (rM (gx X) oPow) := by
  intro pins s σ H x y v u Q I rx ry ⟨W, st, px, py, r, s', r1, r2, hs, e, hc⟩
  unfold oPow at e
  split at e <;> try (cases e; done)
  split at e <;> try (cases e; done)
  rename_i h
  cases e; cases r1; cases r2
  exact op_pow pins s σ H _ _ v u Q I rx ry ⟨_, _, rfl, rfl, h, hc.here hs (.int _)⟩
theorem r_mulI : OpR X (binaryOp .Mult) (rM (gx X) oMulI) := by
  intro pins s σ H x y v u Q I rx ry ⟨W, st, px, py, r, s', r1, r2, hs, e, hc⟩
  unfold oMulI at e
  split at e <;> try (cases e; done)
  split at e <;> try (cases e; done)
  rename_i h
  cases e; cases r1; cases r2
  exact op_mul pins s σ H _ _ v u Q I rx ry ⟨_, _, rfl, rfl, h, hc.here hs (.int _)⟩
theorem Reps.flat {K : PySem.W.Frag} {W : Wd} {xs : List PV} {vs : List V} (r : Reps K W xs vs) : ∀ n, Reps K W (List.replicate n xs).flatten (List.replicate n vs).flatten
  | 0 => .nil
  | n + 1 => by rw [List.replicate_succ, List.replicate_succ, List.flatten_cons, List.flatten_cons]; exact r.append (Reps.flat r n)
theorem flat_len {α : Type} (xs : List α) : ∀ n, (List.replicate n xs).flatten.length = xs.length * n
  | 0 => rfl
  | n + 1 => by rw [List.replicate_succ, List.flatten_cons, List.length_append, flat_len xs n, Nat.mul_succ, Nat.add_comm]
theorem r_rep (mu : Bool) : OpR X (binaryOp .Mult) (rM (gx X) (oRep mu)) := by
  intro pins s σ H x y v u Q I rx ry ⟨W, st, px, py, r, s', r1, r2, hs, e, hc⟩
  unfold oRep at e
  split at e <;> try (cases e; done)
  rename_i xs k e1
  split at e <;> try (cases e; done)
  rename_i h
  cases r2
  obtain ⟨a, vs, rfl, h1, h2⟩ := lsOf_ok hs r1 e1
  obtain ⟨hz, q⟩ := newL_ok hs (h2.flat k.toNat) e hc
  exact op_rep pins s σ H _ _ v u Q I rx ry ⟨a, k, vs, rfl, rfl, h1, h.1, h.2, by rw [flat_len] at hz; exact hz, q⟩
theorem r_add (mu : Bool) : OpR X (binaryOp .Add) (rM (gx X) (oAdd mu)) := by
  intro pins s σ H x y v u Q I rx ry ⟨W, st, px, py, r, s', r1, r2, hs, e, hc⟩
  unfold oAdd at e
  split at e
  · cases e; cases r1; cases r2
    exact op_add pins s σ H _ _ v u Q I rx ry ⟨_, _, rfl, rfl, hc.here hs (.int _)⟩
  · cases e; cases r1; cases r2
    exact op_add_ib pins s σ H _ _ v u Q I rx ry ⟨_, _, rfl, rfl, hc.here hs (.int _)⟩
  · split at e <;> try (cases e; done)
    rename_i h
    cases e; cases r1; cases r2
    exact op_add_str pins s σ H _ _ v u Q I rx ry ⟨_, _, rfl, rfl, big_line h, hc.here hs (.str _)⟩
  · cases r1 with
    | tup h1 q1 =>
      cases r2 with
      | tup h2 q2 =>
        rename_i a xs b ys
        obtain ⟨hz, q⟩ := newT_ok hs (q1.append q2) e hc
        refine op_catA pins s σ H _ _ v u Q I rx ry ⟨_, _, _, _, rfl, rfl, tup_sq hs h1, tup_sq hs h2, by rw [List.length_append] at hz; exact hz, fun hx => ?_, fun _ hy => ?_, fun _ _ => q⟩
        · subst hx
          cases q1
          unfold newT at e
          split at e <;> cases e
          exact hc.here hs (.tup h2 q2)
        · subst hy
          cases q2
          unfold newT at e
          split at e <;> cases e
          rw [List.append_nil] at hc
          exact hc.here hs (.tup h1 q1)
  · split at e <;> try (cases e; done)
    rename_i xs ys e1 e2
    obtain ⟨a, vs, rfl, h1, q1⟩ := lsOf_ok hs r1 e1
    obtain ⟨b, us, rfl, h2, q2⟩ := lsOf_ok hs r2 e2
    obtain ⟨hz, q⟩ := newL_ok hs (q1.append q2) e hc
    exact op_cat pins s σ H _ _ v u Q I rx ry ⟨a, b, vs, us, rfl, rfl, h1, h2, by rw [List.length_append] at hz; exact hz, q⟩
theorem r_neg : UnR X (unaryOp .USub) (rU1 (gx X) uNeg) := by
  intro pins s σ H x v Q I rx ⟨W, st, px, r, s', r1, hs, e, hc⟩
  unfold uNeg at e
  split at e <;> try (cases e; done)
  cases e; cases r1
  exact un_neg pins s σ H _ v Q I rx ⟨_, rfl, hc.here hs (.int _)⟩

/-! ### order -/
def oRel (p : Int → Int → Bool) : O2 := fun x y s =>
  match x, y with
  | .int i, .int j => some (.bl (p i j), s)
  | _, _ => none
abbrev oLt := oRel fun i j => decide (i < j)
abbrev oLe := oRel fun i j => decide (i ≤ j)
abbrev oGt := oRel fun i j => decide (j < i)
abbrev oGe := oRel fun i j => decide (j ≤ i)
theorem r_rel {op : CmpOp} {p : Int → Int → Bool} (h : OpR X (compareOp op) (rI0 fun i j => .bl (p i j))) : OpR X (compareOp op) (rM (gx X) (oRel p)) := by
  intro pins s σ H x y v u Q I rx ry ⟨W, st, px, py, r, s', r1, r2, hs, e, hc⟩
  unfold oRel at e
  split at e <;> try (cases e; done)
  cases e; cases r1; cases r2
  exact h pins s σ H _ _ v u Q I rx ry ⟨_, _, rfl, rfl, hc.here hs (.bl _)⟩
theorem r_lt : OpR X (compareOp .Lt) (rM (gx X) oLt) := r_rel op_lt
theorem r_le : OpR X (compareOp .LtE) (rM (gx X) oLe) := r_rel op_le
theorem r_gt : OpR X (compareOp .Gt) (rM (gx X) oGt) := r_rel op_gt
theorem r_ge : OpR X (compareOp .GtE) (rM (gx X) oGe) := r_rel op_ge

/-! ### is None, is True -/
def oIsN : O2 := fun x y s =>
  match x, y with
  | .non, .non => some (.bl true, s)
  | _, .non => some (.bl false, s)
  | .bl a, .bl b => some (.bl (a == b), s)
  | _, _ => none
def oIsNot : O2 := fun x y s =>
  match x, y with
  | .non, .non => some (.bl false, s)
  | _, .non => some (.bl true, s)
  | .bl a, .bl b => some (.bl (!(a == b)), s)
  | _, _ => none
theorem Rep.non_iff {K : PySem.W.Frag} {W : Wd} {x : PV} {v : V} (r : Rep K W x v) (h : x ≠ .non) : decide (v = .non) = false := by
  cases r <;> first | exact absurd rfl h | rfl | exact decide_eq_false (fun z => by cases z)
theorem dec_bls (a b : Bool) : decide (a = b) = (a == b) := by cases a <;> cases b <;> rfl
theorem r_is : OpR X (compareOp .Is) (rM (gx X) oIsN) := by
  intro pins s σ H x y v u Q I rx ry ⟨W, st, px, py, r, s', r1, r2, hs, e, hc⟩
  unfold oIsN at e
  split at e
  · cases e; cases r1; cases r2
    exact op_isN pins s σ H _ _ v u Q I rx ry ⟨rfl, hc.here hs (.bl _)⟩
  · rename_i hx
    cases e; cases r2
    have hx' : px ≠ .non := fun z => hx z
    exact op_isN pins s σ H _ _ v u Q I rx ry ⟨rfl, by rw [r1.non_iff hx']; exact hc.here hs (.bl _)⟩
  · cases e; cases r1; cases r2
    exact op_isBl pins s σ H _ _ v u Q I rx ry ⟨_, _, rfl, rfl, by rw [dec_bls]; exact hc.here hs (.bl _)⟩
  · cases e
theorem r_isnot : OpR X (compareOp .IsNot) (rM (gx X) oIsNot) := by
  intro pins s σ H x y v u Q I rx ry ⟨W, st, px, py, r, s', r1, r2, hs, e, hc⟩
  unfold oIsNot at e
  split at e
  · cases e; cases r1; cases r2
    exact op_notN pins s σ H _ _ v u Q I rx ry ⟨rfl, hc.here hs (.bl _)⟩
  · rename_i hx
    cases e; cases r2
    have hx' : px ≠ .non := fun z => hx z
    exact op_notN pins s σ H _ _ v u Q I rx ry ⟨rfl, by rw [r1.non_iff hx']; exact hc.here hs (.bl _)⟩
  · cases e; cases r1; cases r2
    exact op_notBl pins s σ H _ _ v u Q I rx ry ⟨_, _, rfl, rfl, by rw [dec_bls]; exact hc.here hs (.bl _)⟩
  · cases e
end
end Z

set_option Elab.async false
set_option linter.all false
set_option maxRecDepth 100000
set_option maxHeartbeats 4000000
/-! Z4: == and != by values (printed by gen4.py). -/
namespace Z
open PySem PySem.Spec L2

mutual
def PV.depth : PV → Nat
  | .tup xs => depths xs + 1
  | .lst xs => depths xs + 1
  | _ => 0
def depths : List PV → Nat
  | [] => 0
  | x :: xs => max (PV.depth x) (depths xs)
end
mutual
def peq : PV → PV → Option Bool
  | .non, .non => some true
  | .non, .bl _ => some false
  | .non, .int _ => some false
  | .non, .str _ => some false
  | .non, .lst _ => some false
  | .non, .tup _ => some false
  | .bl _, .non => some false
  | .bl p, .bl q => some (p == q)
  | .bl p, .int q => some ((if p then 1 else 0) == q)
  | .bl _, .str _ => some false
  | .bl _, .lst _ => some false
  | .bl _, .tup _ => some false
  | .int _, .non => some false
  | .int p, .bl q => some (p == (if q then 1 else 0))
  | .int p, .int q => some (p == q)
  | .int _, .str _ => some false
  | .int _, .lst _ => some false
  | .int _, .tup _ => some false
  | .str _, .non => some false
  | .str _, .bl _ => some false
  | .str _, .int _ => some false
  | .str p, .str q => some (p == q)
  | .str _, .lst _ => some false
  | .str _, .tup _ => some false
  | .lst _, .non => some false
  | .lst _, .bl _ => some false
  | .lst _, .int _ => some false
  | .lst _, .str _ => some false
  | .lst _, .tup _ => some false
  | .tup _, .non => some false
  | .tup _, .bl _ => some false
  | .tup _, .int _ => some false
  | .tup _, .str _ => some false
  | .tup _, .lst _ => some false
  | .lst xs, .lst ys => if xs.length = ys.length then peqs xs ys else some false
  | .tup xs, .tup ys =>
    match peqs xs ys with
    | some b => some (b && xs.length == ys.length)
    | none => none
  | _, _ => none
def peqs : List PV → List PV → Option Bool
  | x :: xs, y :: ys =>
    match peq x y, peqs xs ys with
    | some a, some b => some (a && b)
    | _, _ => none
  | [], _ => some true
  | _ :: _, [] => some true
end
/-- the answers pair by pair -/
def ans (xs ys : List PV) (j : Nat) : Bool := (peq (xs.getD j .non) (ys.getD j .non)).getD false
theorem peqs_ans : ∀ (xs ys : List PV) {b : Bool}, peqs xs ys = some b → b = (List.range (min xs.length ys.length)).all (ans xs ys) ∧ ∀ (j : Nat) (x y : PV), xs[j]? = some x → ys[j]? = some y → peq x y = some (ans xs ys j)
  | [], ys, b, h => by
    unfold peqs at h
    cases h
    exact ⟨by simp, fun j x y e => by simp at e⟩
  | x :: xs, [], b, h => by
    unfold peqs at h
    cases h
    exact ⟨by simp, fun j x y _ e => by simp at e⟩
  | x :: xs, y :: ys, b, h => by
    unfold peqs at h
    split at h
    · rename_i c d e1 e2
      cases h
      obtain ⟨h1, h2⟩ := peqs_ans xs ys e2
      have z : ∀ j, ans (x :: xs) (y :: ys) (j + 1) = ans xs ys j := fun j => rfl
      have z0 : ans (x :: xs) (y :: ys) 0 = c := by show (peq x y).getD false = c; rw [e1]; rfl
      refine ⟨?_, fun j u v q1 q2 => ?_⟩
      · have e : min (x :: xs).length (y :: ys).length = min xs.length ys.length + 1 := by simp only [List.length_cons]; omega
        rw [e, List.range_succ_eq_map, List.all_cons, List.all_map, z0, h1]
        rfl
      · cases j with
        | zero => simp at q1 q2; subst q1 q2; rw [z0]; exact e1
        | succ j => rw [z]; exact h2 j u v (by simpa using q1) (by simpa using q2)
    · cases h
theorem depth_le : ∀ {xs : List PV} {j : Nat} {x : PV}, xs[j]? = some x → x.depth ≤ depths xs
  | [], _, _, e => by simp at e
  | y :: ys, 0, x, e => by simp at e; subst e; simp only [depths]; omega
  | y :: ys, j + 1, x, e => by
    have := depth_le (xs := ys) (j := j) (x := x) (by simpa using e)
    simp only [depths]; omega
/-- all three ways to ask -/
structure Eq3 (A : Around) (s : Shared) (v u : Value) (b : Bool) : Prop where
  eq : SeqAt.EqAt A s v u b
  rc : SeqAt.RcAt A s v u b
  ne : SeqAt.RcNeAt A s v u (!b)

section
variable {X : Cx} {pins : List (Addr × Obj)} {σ : L2.St} {H : Hp} {s : Shared} {W : Wd} {st : S}
theorem lst_heap (I : Inv X pins σ H s) (hs : Sub W.fro H) {a : Addr} {vs : List V} (h : W.fro a = some (.lst vs)) : ∃ its : List Value, Vals vs its ∧ s.heap.IsList a its.toArray := by
  obtain ⟨its, r, p, _⟩ := I.list (.inl (.inl (hs _ _ h)))
  exact ⟨its, r, p.isList⟩
theorem tup_heap (I : Inv X pins σ H s) (hs : Sub W.fro H) {a : Addr} {vs : List V} (h : SqT X.K W.fro a vs) : ∃ its : List Value, Vals vs its ∧ s.heap.IsTuple a its.toArray := by
  obtain ⟨its, r, p, _⟩ := I.tuple (hs.sqT h)
  exact ⟨its, r, p⟩
theorem no_both {h : Heap} {a : Addr} {x y : Array Value} (h1 : h.IsList a x) (h2 : h.IsTuple a y) : False := by
  obtain ⟨o, e, c, _⟩ := h1
  obtain ⟨o', e', c', _⟩ := h2
  rw [e] at e'; cases e'
  rw [c] at c'
  simp at c'
theorem same_list {h : Heap} {a : Addr} {x y : Array Value} (h1 : h.IsList a x) (h2 : h.IsList a y) : x = y := by
  obtain ⟨o, e, _, n, d⟩ := h1
  obtain ⟨o', e', _, n', d'⟩ := h2
  rw [e] at e'; cases e'
  rw [d] at d'; cases d'; rfl
theorem same_tup {h : Heap} {a : Addr} {x y : Array Value} (h1 : h.IsTuple a x) (h2 : h.IsTuple a y) : x = y := by
  obtain ⟨o, e, _, n, d⟩ := h1
  obtain ⟨o', e', _, n', d'⟩ := h2
  rw [e] at e'; cases e'
  rw [d] at d'; cases d'; rfl

mutual
theorem peq_refl (I : Inv X pins σ H s) (hs : Sub W.fro H) : ∀ (x y : PV) {v : V} {b : Bool}, Rep X.K W x v → Rep X.K W y v → peq x y = some b → b = true
  | .non, .non, _, _, r1, r2, e => by unfold peq at e; cases e; cases r1; cases r2; simp
  | .non, .bl q, _, _, r1, r2, e => by cases r1 <;> cases r2
  | .non, .int q, _, _, r1, r2, e => by cases r1 <;> cases r2
  | .non, .str q, _, _, r1, r2, e => by cases r1 <;> cases r2
  | .non, .lst q, _, _, r1, r2, e => by cases r1 <;> cases r2
  | .non, .tup q, _, _, r1, r2, e => by cases r1 <;> cases r2
  | .bl p, .non, _, _, r1, r2, e => by cases r1 <;> cases r2
  | .bl p, .bl q, _, _, r1, r2, e => by unfold peq at e; cases e; cases r1; cases r2; simp
  | .bl p, .int q, _, _, r1, r2, e => by cases r1 <;> cases r2
  | .bl p, .str q, _, _, r1, r2, e => by cases r1 <;> cases r2
  | .bl p, .lst q, _, _, r1, r2, e => by cases r1 <;> cases r2
  | .bl p, .tup q, _, _, r1, r2, e => by cases r1 <;> cases r2
  | .int p, .non, _, _, r1, r2, e => by cases r1 <;> cases r2
  | .int p, .bl q, _, _, r1, r2, e => by cases r1 <;> cases r2
  | .int p, .int q, _, _, r1, r2, e => by unfold peq at e; cases e; cases r1; cases r2; simp
  | .int p, .str q, _, _, r1, r2, e => by cases r1 <;> cases r2
  | .int p, .lst q, _, _, r1, r2, e => by cases r1 <;> cases r2
  | .int p, .tup q, _, _, r1, r2, e => by cases r1 <;> cases r2
  | .str p, .non, _, _, r1, r2, e => by cases r1 <;> cases r2
  | .str p, .bl q, _, _, r1, r2, e => by cases r1 <;> cases r2
  | .str p, .int q, _, _, r1, r2, e => by cases r1 <;> cases r2
  | .str p, .str q, _, _, r1, r2, e => by unfold peq at e; cases e; cases r1; cases r2; simp
  | .str p, .lst q, _, _, r1, r2, e => by cases r1 <;> cases r2
  | .str p, .tup q, _, _, r1, r2, e => by cases r1 <;> cases r2
  | .lst p, .non, _, _, r1, r2, e => by cases r1 <;> cases r2
  | .lst p, .bl q, _, _, r1, r2, e => by cases r1 <;> cases r2
  | .lst p, .int q, _, _, r1, r2, e => by cases r1 <;> cases r2
  | .lst p, .str q, _, _, r1, r2, e => by cases r1 <;> cases r2
  | .lst p, .tup q, _, _, r1, r2, e => by cases r1 with | lst h _ => (cases r2 with | tup h2 _ => exact (no_both (lst_heap I hs h).choose_spec.2 (tup_heap I hs h2).choose_spec.2).elim)
  | .tup p, .non, _, _, r1, r2, e => by cases r1 <;> cases r2
  | .tup p, .bl q, _, _, r1, r2, e => by cases r1 <;> cases r2
  | .tup p, .int q, _, _, r1, r2, e => by cases r1 <;> cases r2
  | .tup p, .str q, _, _, r1, r2, e => by cases r1 <;> cases r2
  | .tup p, .lst q, _, _, r1, r2, e => by cases r1 with | tup h _ => (cases r2 with | lst h2 _ => exact (no_both (lst_heap I hs h2).choose_spec.2 (tup_heap I hs h).choose_spec.2).elim)
  | .lst xs, .lst ys, _, b, r1, r2, e => by
    cases r1 with
    | lst h1 q1 =>
      cases r2 with
      | lst h2 q2 =>
        rename_i a vs ws
        have e3 : vs = ws := by rw [h1] at h2; cases h2; rfl
        subst e3
        unfold peq at e
        rw [if_pos (by rw [q1.length, q2.length])] at e
        exact peqs_refl I hs xs ys q1 q2 e
  | .tup xs, .tup ys, _, b, r1, r2, e => by
    cases r1 with
    | tup h1 q1 =>
      cases r2 with
      | tup h2 q2 =>
        rename_i a vs ws
        have e3 : vs = ws := I.tuple_inj (hs.sqT h1) (hs.sqT h2)
        subst e3
        unfold peq at e
        split at e
        · rename_i c e1
          cases e
          have := peqs_refl I hs xs ys q1 q2 e1
          subst this
          rw [q1.length, q2.length]; simp
        · cases e
  | .scr _, _, _, _, _, _, e => by unfold peq at e; cases e
  | .dic _, _, _, _, _, _, e => by unfold peq at e; cases e
  | .obj _, _, _, _, _, _, e => by unfold peq at e; cases e
  | .non, .scr _, _, _, _, _, e => by unfold peq at e; cases e
  | .non, .dic _, _, _, _, _, e => by unfold peq at e; cases e
  | .non, .obj _, _, _, _, _, e => by unfold peq at e; cases e
  | .bl _, .scr _, _, _, _, _, e => by unfold peq at e; cases e
  | .bl _, .dic _, _, _, _, _, e => by unfold peq at e; cases e
  | .bl _, .obj _, _, _, _, _, e => by unfold peq at e; cases e
  | .int _, .scr _, _, _, _, _, e => by unfold peq at e; cases e
  | .int _, .dic _, _, _, _, _, e => by unfold peq at e; cases e
  | .int _, .obj _, _, _, _, _, e => by unfold peq at e; cases e
  | .str _, .scr _, _, _, _, _, e => by unfold peq at e; cases e
  | .str _, .dic _, _, _, _, _, e => by unfold peq at e; cases e
  | .str _, .obj _, _, _, _, _, e => by unfold peq at e; cases e
  | .lst _, .scr _, _, _, _, _, e => by unfold peq at e; cases e
  | .lst _, .dic _, _, _, _, _, e => by unfold peq at e; cases e
  | .lst _, .obj _, _, _, _, _, e => by unfold peq at e; cases e
  | .tup _, .scr _, _, _, _, _, e => by unfold peq at e; cases e
  | .tup _, .dic _, _, _, _, _, e => by unfold peq at e; cases e
  | .tup _, .obj _, _, _, _, _, e => by unfold peq at e; cases e
theorem peqs_refl (I : Inv X pins σ H s) (hs : Sub W.fro H) : ∀ (xs ys : List PV) {vs : List V} {b : Bool}, Reps X.K W xs vs → Reps X.K W ys vs → peqs xs ys = some b → b = true
  | [], _, _, _, _, _, e => by unfold peqs at e; cases e; rfl
  | _ :: _, [], _, _, _, _, e => by unfold peqs at e; cases e; rfl
  | x :: xs, y :: ys, _, _, r1, r2, e => by
    cases r1 with
    | cons a1 t1 =>
      cases r2 with
      | cons a2 t2 =>
        unfold peqs at e
        split at e
        · rename_i c d e1 e2
          cases e
          rw [peq_refl I hs x y a1 a2 e1, peqs_refl I hs xs ys t1 t2 e2]; rfl
        · cases e
end

mutual
theorem peq_ok (I : Inv X pins σ H s) (hs : Sub W.fro H) : ∀ (x y : PV) (A : Around) {v u : V} {vv uu : Value} {b : Bool}, Rep X.K W x v → Rep X.K W y u → RelV v vv → RelV u uu → peq x y = some b → A.units + x.depth < cLine → Eq3 A s vv uu b
  | .non, .non, A, _, _, _, _, _, r1, r2, v1, v2, e, hu => by unfold peq at e; cases e; cases r1; cases v1; cases r2; cases v2; exact ⟨.same _, .none_none, .none_none⟩
  | .non, .bl q, A, _, _, _, _, _, r1, r2, v1, v2, e, hu => by unfold peq at e; cases e; cases r1; cases v1; cases r2; cases v2; exact ⟨.none_bool q, .none_bool q, .none_bool q⟩
  | .non, .int q, A, _, _, _, _, _, r1, r2, v1, v2, e, hu => by unfold peq at e; cases e; cases r1; cases v1; cases r2; obtain ⟨tq, rfl⟩ := v2; exact ⟨.none_int q tq, .none_int q tq, .none_int q tq⟩
  | .non, .str q, A, _, _, _, _, _, r1, r2, v1, v2, e, hu => by unfold peq at e; cases e; cases r1; cases v1; cases r2; obtain ⟨tq, rfl⟩ := v2; exact ⟨.none_str q tq, .none_str q tq, .none_str q tq⟩
  | .non, .lst q, A, _, _, _, _, _, r1, r2, v1, v2, e, hu => by unfold peq at e; cases e; cases r1; cases v1; cases r2 with | lst hq _ => cases v2; obtain ⟨itsq, _, hlq⟩ := lst_heap I hs hq; exact ⟨.none_list hlq (by have := hu; omega), .none_list hlq (by have := hu; omega), .none_list hlq (by have := hu; omega)⟩
  | .non, .tup q, A, _, _, _, _, _, r1, r2, v1, v2, e, hu => by unfold peq at e; cases e; cases r1; cases v1; cases r2 with | tup hq _ => cases v2; obtain ⟨itsq, _, hlq⟩ := tup_heap I hs hq; exact ⟨.none_tuple hlq (by have := hu; omega), .none_tuple hlq (by have := hu; omega), .none_tuple hlq (by have := hu; omega)⟩
  | .bl p, .non, A, _, _, _, _, _, r1, r2, v1, v2, e, hu => by unfold peq at e; cases e; cases r1; cases v1; cases r2; cases v2; exact ⟨.bool_none p, .bool_none p, .bool_none p⟩
  | .bl p, .bl q, A, _, _, _, _, _, r1, r2, v1, v2, e, hu => by unfold peq at e; cases e; cases r1; cases v1; cases r2; cases v2; exact ⟨.bool_bool p q, .bool_bool p q, .bool_bool p q⟩
  | .bl p, .int q, A, _, _, _, _, _, r1, r2, v1, v2, e, hu => by unfold peq at e; cases e; cases r1; cases v1; cases r2; obtain ⟨tq, rfl⟩ := v2; exact ⟨.bool_int p q tq, .bool_int p q tq, .bool_int p q tq⟩
  | .bl p, .str q, A, _, _, _, _, _, r1, r2, v1, v2, e, hu => by unfold peq at e; cases e; cases r1; cases v1; cases r2; obtain ⟨tq, rfl⟩ := v2; exact ⟨.bool_str p q tq, .bool_str p q tq, .bool_str p q tq⟩
  | .bl p, .lst q, A, _, _, _, _, _, r1, r2, v1, v2, e, hu => by unfold peq at e; cases e; cases r1; cases v1; cases r2 with | lst hq _ => cases v2; obtain ⟨itsq, _, hlq⟩ := lst_heap I hs hq; exact ⟨.bool_list p hlq (by have := hu; omega), .bool_list p hlq (by have := hu; omega), .bool_list p hlq (by have := hu; omega)⟩
  | .bl p, .tup q, A, _, _, _, _, _, r1, r2, v1, v2, e, hu => by unfold peq at e; cases e; cases r1; cases v1; cases r2 with | tup hq _ => cases v2; obtain ⟨itsq, _, hlq⟩ := tup_heap I hs hq; exact ⟨.bool_tuple p hlq (by have := hu; omega), .bool_tuple p hlq (by have := hu; omega), .bool_tuple p hlq (by have := hu; omega)⟩
  | .int p, .non, A, _, _, _, _, _, r1, r2, v1, v2, e, hu => by unfold peq at e; cases e; cases r1; obtain ⟨tp, rfl⟩ := v1; cases r2; cases v2; exact ⟨.int_none p tp, .int_none p tp, .int_none p tp⟩
  | .int p, .bl q, A, _, _, _, _, _, r1, r2, v1, v2, e, hu => by unfold peq at e; cases e; cases r1; obtain ⟨tp, rfl⟩ := v1; cases r2; cases v2; exact ⟨.int_bool p tp q, .int_bool p tp q, .int_bool p tp q⟩
  | .int p, .int q, A, _, _, _, _, _, r1, r2, v1, v2, e, hu => by unfold peq at e; cases e; cases r1; obtain ⟨tp, rfl⟩ := v1; cases r2; obtain ⟨tq, rfl⟩ := v2; exact ⟨.int_int p tp q tq, .int_int p tp q tq, .int_int p tp q tq⟩
  | .int p, .str q, A, _, _, _, _, _, r1, r2, v1, v2, e, hu => by unfold peq at e; cases e; cases r1; obtain ⟨tp, rfl⟩ := v1; cases r2; obtain ⟨tq, rfl⟩ := v2; exact ⟨.int_str p tp q tq, .int_str p tp q tq, .int_str p tp q tq⟩
  | .int p, .lst q, A, _, _, _, _, _, r1, r2, v1, v2, e, hu => by unfold peq at e; cases e; cases r1; obtain ⟨tp, rfl⟩ := v1; cases r2 with | lst hq _ => cases v2; obtain ⟨itsq, _, hlq⟩ := lst_heap I hs hq; exact ⟨.int_list p tp hlq (by have := hu; omega), .int_list p tp hlq (by have := hu; omega), .int_list p tp hlq (by have := hu; omega)⟩
  | .int p, .tup q, A, _, _, _, _, _, r1, r2, v1, v2, e, hu => by unfold peq at e; cases e; cases r1; obtain ⟨tp, rfl⟩ := v1; cases r2 with | tup hq _ => cases v2; obtain ⟨itsq, _, hlq⟩ := tup_heap I hs hq; exact ⟨.int_tuple p tp hlq (by have := hu; omega), .int_tuple p tp hlq (by have := hu; omega), .int_tuple p tp hlq (by have := hu; omega)⟩
  | .str p, .non, A, _, _, _, _, _, r1, r2, v1, v2, e, hu => by unfold peq at e; cases e; cases r1; obtain ⟨tp, rfl⟩ := v1; cases r2; cases v2; exact ⟨.str_none p tp, .str_none p tp, .str_none p tp⟩
  | .str p, .bl q, A, _, _, _, _, _, r1, r2, v1, v2, e, hu => by unfold peq at e; cases e; cases r1; obtain ⟨tp, rfl⟩ := v1; cases r2; cases v2; exact ⟨.str_bool p tp q, .str_bool p tp q, .str_bool p tp q⟩
  | .str p, .int q, A, _, _, _, _, _, r1, r2, v1, v2, e, hu => by unfold peq at e; cases e; cases r1; obtain ⟨tp, rfl⟩ := v1; cases r2; obtain ⟨tq, rfl⟩ := v2; exact ⟨.str_int p tp q tq, .str_int p tp q tq, .str_int p tp q tq⟩
  | .str p, .str q, A, _, _, _, _, _, r1, r2, v1, v2, e, hu => by unfold peq at e; cases e; cases r1; obtain ⟨tp, rfl⟩ := v1; cases r2; obtain ⟨tq, rfl⟩ := v2; exact ⟨.str_str p tp q tq, .str_str p tp q tq, .str_str p tp q tq⟩
  | .str p, .lst q, A, _, _, _, _, _, r1, r2, v1, v2, e, hu => by unfold peq at e; cases e; cases r1; obtain ⟨tp, rfl⟩ := v1; cases r2 with | lst hq _ => cases v2; obtain ⟨itsq, _, hlq⟩ := lst_heap I hs hq; exact ⟨.str_list p tp hlq (by have := hu; omega), .str_list p tp hlq (by have := hu; omega), .str_list p tp hlq (by have := hu; omega)⟩
  | .str p, .tup q, A, _, _, _, _, _, r1, r2, v1, v2, e, hu => by unfold peq at e; cases e; cases r1; obtain ⟨tp, rfl⟩ := v1; cases r2 with | tup hq _ => cases v2; obtain ⟨itsq, _, hlq⟩ := tup_heap I hs hq; exact ⟨.str_tuple p tp hlq (by have := hu; omega), .str_tuple p tp hlq (by have := hu; omega), .str_tuple p tp hlq (by have := hu; omega)⟩
  | .lst p, .non, A, _, _, _, _, _, r1, r2, v1, v2, e, hu => by unfold peq at e; cases e; cases r1 with | lst hp _ => cases v1; obtain ⟨itsp, _, hlp⟩ := lst_heap I hs hp; cases r2; cases v2; exact ⟨.list_none hlp (by have := hu; omega), .list_none hlp (by have := hu; omega), .list_none hlp (by have := hu; omega)⟩
  | .lst p, .bl q, A, _, _, _, _, _, r1, r2, v1, v2, e, hu => by unfold peq at e; cases e; cases r1 with | lst hp _ => cases v1; obtain ⟨itsp, _, hlp⟩ := lst_heap I hs hp; cases r2; cases v2; exact ⟨.list_bool q hlp (by have := hu; omega), .list_bool q hlp (by have := hu; omega), .list_bool q hlp (by have := hu; omega)⟩
  | .lst p, .int q, A, _, _, _, _, _, r1, r2, v1, v2, e, hu => by unfold peq at e; cases e; cases r1 with | lst hp _ => cases v1; obtain ⟨itsp, _, hlp⟩ := lst_heap I hs hp; cases r2; obtain ⟨tq, rfl⟩ := v2; exact ⟨.list_int q tq hlp (by have := hu; omega), .list_int q tq hlp (by have := hu; omega), .list_int q tq hlp (by have := hu; omega)⟩
  | .lst p, .str q, A, _, _, _, _, _, r1, r2, v1, v2, e, hu => by unfold peq at e; cases e; cases r1 with | lst hp _ => cases v1; obtain ⟨itsp, _, hlp⟩ := lst_heap I hs hp; cases r2; obtain ⟨tq, rfl⟩ := v2; exact ⟨.list_str q tq hlp (by have := hu; omega), .list_str q tq hlp (by have := hu; omega), .list_str q tq hlp (by have := hu; omega)⟩
  | .lst p, .tup q, A, _, _, _, _, _, r1, r2, v1, v2, e, hu => by unfold peq at e; cases e; cases r1 with | lst hp _ => cases v1; obtain ⟨itsp, _, hlp⟩ := lst_heap I hs hp; cases r2 with | tup hq _ => cases v2; obtain ⟨itsq, _, hlq⟩ := tup_heap I hs hq; exact ⟨.list_tuple hlp hlq (by have := hu; omega), .list_tuple hlp hlq (by have := hu; omega), .list_tuple hlp hlq (by have := hu; omega)⟩
  | .tup p, .non, A, _, _, _, _, _, r1, r2, v1, v2, e, hu => by unfold peq at e; cases e; cases r1 with | tup hp _ => cases v1; obtain ⟨itsp, _, hlp⟩ := tup_heap I hs hp; cases r2; cases v2; exact ⟨.tuple_none hlp (by have := hu; omega), .tuple_none hlp (by have := hu; omega), .tuple_none hlp (by have := hu; omega)⟩
  | .tup p, .bl q, A, _, _, _, _, _, r1, r2, v1, v2, e, hu => by unfold peq at e; cases e; cases r1 with | tup hp _ => cases v1; obtain ⟨itsp, _, hlp⟩ := tup_heap I hs hp; cases r2; cases v2; exact ⟨.tuple_bool q hlp (by have := hu; omega), .tuple_bool q hlp (by have := hu; omega), .tuple_bool q hlp (by have := hu; omega)⟩
  | .tup p, .int q, A, _, _, _, _, _, r1, r2, v1, v2, e, hu => by unfold peq at e; cases e; cases r1 with | tup hp _ => cases v1; obtain ⟨itsp, _, hlp⟩ := tup_heap I hs hp; cases r2; obtain ⟨tq, rfl⟩ := v2; exact ⟨.tuple_int q tq hlp (by have := hu; omega), .tuple_int q tq hlp (by have := hu; omega), .tuple_int q tq hlp (by have := hu; omega)⟩
  | .tup p, .str q, A, _, _, _, _, _, r1, r2, v1, v2, e, hu => by unfold peq at e; cases e; cases r1 with | tup hp _ => cases v1; obtain ⟨itsp, _, hlp⟩ := tup_heap I hs hp; cases r2; obtain ⟨tq, rfl⟩ := v2; exact ⟨.tuple_str q tq hlp (by have := hu; omega), .tuple_str q tq hlp (by have := hu; omega), .tuple_str q tq hlp (by have := hu; omega)⟩
  | .tup p, .lst q, A, _, _, _, _, _, r1, r2, v1, v2, e, hu => by unfold peq at e; cases e; cases r1 with | tup hp _ => cases v1; obtain ⟨itsp, _, hlp⟩ := tup_heap I hs hp; cases r2 with | lst hq _ => cases v2; obtain ⟨itsq, _, hlq⟩ := lst_heap I hs hq; exact ⟨.tuple_list hlp hlq (by have := hu; omega), .tuple_list hlp hlq (by have := hu; omega), .tuple_list hlp hlq (by have := hu; omega)⟩
  | .lst xs, .lst ys, A, _, _, _, _, b, r1, r2, v1, v2, e, hu => by
    have r1' := r1
    have r2' := r2
    cases r1 with
    | lst h1 q1 =>
      cases r2 with
      | lst h2 q2 =>
        cases v1
        cases v2
        rename_i a vs a' ws
        obtain ⟨its, w1, l1⟩ := lst_heap I hs h1
        obtain ⟨its', w2, l2⟩ := lst_heap I hs h2
        have hu' : A.units + (depths xs + 1) < cLine := by simpa only [PV.depth] using hu
        have n1 : its.toArray.size = xs.length := by rw [List.size_toArray, ← w1.length, q1.length]
        have n2 : its'.toArray.size = ys.length := by rw [List.size_toArray, ← w2.length, q2.length]
        have top : SeqAt.RcAt A s (.ref a) (.ref a') b ∧ SeqAt.RcNeAt A s (.ref a) (.ref a') (!b) := by
          have e' := e
          unfold peq at e'
          split at e'
          · rename_i hl
            obtain ⟨eb, el⟩ := peqs_ans xs ys e'
            have hsz : its.toArray.size = its'.toArray.size := by rw [n1, n2, hl]
            have eb' : b = (List.range its.toArray.size).all (ans xs ys) := by rw [eb, n1, ← hl, Nat.min_self]
            have he := peqs_ok I hs xs ys A.in1 its its' q1 q2 w1 w2 el (by show A.units + 1 + _ < _; omega)
            rw [eb']
            exact ⟨.lists l1 l2 hsz (by omega) (fun j h1 h2 => he j h1 h2), .lists l1 l2 hsz (by omega) (fun j h1 h2 => he j h1 h2)⟩
          · rename_i hl
            cases e'
            have hsz : (its.toArray.size != its'.toArray.size) = true := by rw [n1, n2]; simpa using hl
            exact ⟨.lists_lengths l1 l2 hsz (by omega), .lists_lengths l1 l2 hsz (by omega)⟩
        refine ⟨?_, top.1, top.2⟩
        by_cases ha : a = a'
        · subst ha
          rw [peq_refl I hs _ _ r1' r2' e]
          exact .same _
        · exact .of_refs ha top.1
  | .tup xs, .tup ys, A, _, _, _, _, b, r1, r2, v1, v2, e, hu => by
    have r1' := r1
    have r2' := r2
    cases r1 with
    | tup h1 q1 =>
      cases r2 with
      | tup h2 q2 =>
        cases v1
        cases v2
        rename_i a vs a' ws
        obtain ⟨its, w1, l1⟩ := tup_heap I hs h1
        obtain ⟨its', w2, l2⟩ := tup_heap I hs h2
        have hu' : A.units + (depths xs + 1) < cLine := by simpa only [PV.depth] using hu
        have n1 : its.toArray.size = xs.length := by rw [List.size_toArray, ← w1.length, q1.length]
        have n2 : its'.toArray.size = ys.length := by rw [List.size_toArray, ← w2.length, q2.length]
        have top : SeqAt.RcAt A s (.ref a) (.ref a') b ∧ SeqAt.RcNeAt A s (.ref a) (.ref a') (!b) := by
          have e' := e
          unfold peq at e'
          split at e'
          · rename_i c e1
            cases e'
            obtain ⟨eb, el⟩ := peqs_ans xs ys e1
            have eb' : (c && xs.length == ys.length) = ((List.range (min its.toArray.size its'.toArray.size)).all (ans xs ys) && its.toArray.size == its'.toArray.size) := by rw [eb, n1, n2]
            have he := peqs_ok I hs xs ys A.in1 its its' q1 q2 w1 w2 el (by show A.units + 1 + _ < _; omega)
            rw [eb']
            exact ⟨.tuples l1 l2 (by omega) (fun j h1 h2 => he j h1 h2), .tuples l1 l2 (by omega) (fun j h1 h2 => he j h1 h2)⟩
          · cases e'
        refine ⟨?_, top.1, top.2⟩
        by_cases ha : a = a'
        · subst ha
          rw [peq_refl I hs _ _ r1' r2' e]
          exact .same _
        · exact .of_refs ha top.1
  | .scr _, _, _, _, _, _, _, _, _, _, _, _, e, _ => by unfold peq at e; cases e
  | .dic _, _, _, _, _, _, _, _, _, _, _, _, e, _ => by unfold peq at e; cases e
  | .obj _, _, _, _, _, _, _, _, _, _, _, _, e, _ => by unfold peq at e; cases e
  | .non, .scr _, _, _, _, _, _, _, _, _, _, _, e, _ => by unfold peq at e; cases e
  | .non, .dic _, _, _, _, _, _, _, _, _, _, _, e, _ => by unfold peq at e; cases e
  | .non, .obj _, _, _, _, _, _, _, _, _, _, _, e, _ => by unfold peq at e; cases e
  | .bl _, .scr _, _, _, _, _, _, _, _, _, _, _, e, _ => by unfold peq at e; cases e
  | .bl _, .dic _, _, _, _, _, _, _, _, _, _, _, e, _ => by unfold peq at e; cases e
  | .bl _, .obj _, _, _, _, _, _, _, _, _, _, _, e, _ => by unfold peq at e; cases e
  | .int _, .scr _, _, _, _, _, _, _, _, _, _, _, e, _ => by unfold peq at e; cases e
  | .int _, .dic _, _, _, _, _, _, _, _, _, _, _, e, _ => by unfold peq at e; cases e
  | .int _, .obj _, _, _, _, _, _, _, _, _, _, _, e, _ => by unfold peq at e; cases e
  | .str _, .scr _, _, _, _, _, _, _, _, _, _, _, e, _ => by unfold peq at e; cases e
  | .str _, .dic _, _, _, _, _, _, _, _, _, _, _, e, _ => by unfold peq at e; cases e
  | .str _, .obj _, _, _, _, _, _, _, _, _, _, _, e, _ => by unfold peq at e; cases e
  | .lst _, .scr _, _, _, _, _, _, _, _, _, _, _, e, _ => by unfold peq at e; cases e
  | .lst _, .dic _, _, _, _, _, _, _, _, _, _, _, e, _ => by unfold peq at e; cases e
  | .lst _, .obj _, _, _, _, _, _, _, _, _, _, _, e, _ => by unfold peq at e; cases e
  | .tup _, .scr _, _, _, _, _, _, _, _, _, _, _, e, _ => by unfold peq at e; cases e
  | .tup _, .dic _, _, _, _, _, _, _, _, _, _, _, e, _ => by unfold peq at e; cases e
  | .tup _, .obj _, _, _, _, _, _, _, _, _, _, _, e, _ => by unfold peq at e; cases e
theorem peqs_ok (I : Inv X pins σ H s) (hs : Sub W.fro H) : ∀ (xs ys : List PV) (A : Around) (us ws : List Value) {vs vs' : List V}, Reps X.K W xs vs → Reps X.K W ys vs' → Vals vs us → Vals vs' ws →
    (∀ (j : Nat) (x y : PV), xs[j]? = some x → ys[j]? = some y → peq x y = some (ans xs ys j)) → A.units + depths xs < cLine → ∀ (j : Nat) (h1 : j < us.toArray.size) (h2 : j < ws.toArray.size), SeqAt.EqAt A s us.toArray[j] ws.toArray[j] (ans xs ys j)
  | [], _, _, _, _, _, _, r1, _, w1, _, _, _, j, h1, _ => by cases r1; cases w1; exact absurd h1 (Nat.not_lt_zero _)
  | _ :: _, [], _, _, _, _, _, _, r2, _, w2, _, _, j, _, h2 => by cases r2; cases w2; exact absurd h2 (Nat.not_lt_zero _)
  | x :: xs, y :: ys, A, us, ws, _, _, r1, r2, w1, w2, el, hu, j, h1, h2 => by
    cases r1 with
    | cons a1 t1 =>
      cases r2 with
      | cons a2 t2 =>
        cases w1 with
        | cons b1 u1 =>
          cases w2 with
          | cons b2 u2 =>
            have hu' : A.units + max x.depth (depths xs) < cLine := by simpa only [depths] using hu
            cases j with
            | zero => exact (peq_ok I hs x y A a1 a2 b1 b2 (el 0 x y rfl rfl) (by omega)).eq
            | succ j => exact peqs_ok I hs xs ys A _ _ t1 t2 u1 u2 (fun k u v q1 q2 => el (k + 1) u v q1 q2) (by omega) j (by simpa using h1) (by simpa using h2)
end

/-! ### == and != -/
def top (s : S) (x : PV) : PV :=
  match lsOf s x with
  | some xs => .lst xs
  | none => x
def oEqB (x y : PV) (s : S) : Option Bool :=
  match top s x, top s y with
  | .tup xs, .tup [] => some xs.isEmpty
  | .lst xs, .lst [] => some xs.isEmpty
  | x, y => if x.depth ≤ 60 then peq x y else none
def oEq : O2 := fun x y s =>
  match oEqB x y s with
  | some b => some (.bl b, s)
  | none => none
def oNe : O2 := fun x y s =>
  match oEqB x y s with
  | some b => some (.bl (!b), s)
  | none => none
/-- the store's list, as if it stood for ever -/
theorem top_rep (hs : StR (gx X) W H st) {x : PV} {v : V} (r : Rep X.K W x v) : Rep X.K ⟨H, W.ob, W.hid⟩ (top st x) v := by
  have l : W.Le ⟨H, W.ob, W.hid⟩ := ⟨hs.fro, rfl, [], by simp⟩
  unfold top
  cases e : lsOf st x with
  | none => exact r.mono l
  | some xs =>
    obtain ⟨a, vs, rfl, h1, h2⟩ := lsOf_ok hs r e
    exact .lst h1 (h2.mono l)
theorem oEqB_ok (I : Inv X pins σ H s) (hu : X.A.units + 64 < cLine) (hs : StR (gx X) W H st) {x y : PV} {v u : V} {vv uu : Value} {b : Bool} (r1 : Rep X.K W x v) (r2 : Rep X.K W y u) (v1 : RelV v vv) (v2 : RelV u uu) (e : oEqB x y st = some b) :
    SeqAt.RcAt X.A s vv uu b ∧ SeqAt.RcNeAt X.A s vv uu (!b) := by
  have q1 := top_rep hs r1
  have q2 := top_rep hs r2
  have hf : Sub (⟨H, W.ob, W.hid⟩ : Wd).fro H := Sub.refl H
  unfold oEqB at e
  generalize top st x = x' at q1 e
  generalize top st y = y' at q2 e
  split at e
  · rename_i xs
    cases e
    cases q1 with
    | tup h1 p1 =>
      cases q2 with
      | tup h2 p2 =>
        cases v1; cases v2
        obtain ⟨its, w1, l1⟩ := tup_heap I hf h1
        obtain ⟨its', w2, l2⟩ := tup_heap I hf h2
        cases p2; cases w2
        have n1 : its.length = xs.length := by rw [← w1.length, p1.length]
        have z : xs.isEmpty = ((List.range (min its.toArray.size ([] : List Value).toArray.size)).all (fun _ => true) && its.toArray.size == ([] : List Value).toArray.size) := by
          cases xs with
          | nil => cases its with | nil => rfl | cons _ _ => simp at n1
          | cons _ _ => cases its with | nil => simp at n1 | cons _ _ => simp
        rw [z]
        exact ⟨.tuples l1 l2 (by omega) (fun j _ h => absurd h (Nat.not_lt_zero _)), .tuples l1 l2 (by omega) (fun j _ h => absurd h (Nat.not_lt_zero _))⟩
  · rename_i xs
    cases e
    cases q1 with
    | lst h1 p1 =>
      cases q2 with
      | lst h2 p2 =>
        cases v1; cases v2
        obtain ⟨its, w1, l1⟩ := lst_heap I hf h1
        obtain ⟨its', w2, l2⟩ := lst_heap I hf h2
        cases p2; cases w2
        have n1 : its.length = xs.length := by rw [← w1.length, p1.length]
        cases xs with
        | nil =>
          cases its with
          | nil => exact ⟨.lists l1 l2 (e := fun _ => true) rfl (by omega) (fun j _ h => absurd h (Nat.not_lt_zero _)), .lists l1 l2 (e := fun _ => true) rfl (by omega) (fun j _ h => absurd h (Nat.not_lt_zero _))⟩
          | cons _ _ => simp at n1
        | cons _ _ =>
          cases its with
          | nil => simp at n1
          | cons _ _ => exact ⟨.lists_lengths l1 l2 (by simp) (by omega), .lists_lengths l1 l2 (by simp) (by omega)⟩
  · split at e
    · have := peq_ok I hf x' y' X.A q1 q2 v1 v2 e (by omega)
      exact ⟨this.rc, this.ne⟩
    · cases e
theorem r_eq (hu : X.A.units + 64 < cLine) : OpR X (compareOp .Eq) (rM (gx X) oEq) := by
  intro pins s σ H x y v u Q I rx ry ⟨W, st, px, py, r, s', r1, r2, hs, e, hc⟩
  unfold oEq at e
  split at e <;> try (cases e; done)
  rename_i b eb
  cases e
  exact (oEqB_ok I hu hs r1 r2 rx ry eb).1 _ _ _ _ ⟨.bl b, H, I, rfl, hc.here hs (.bl b)⟩
theorem r_ne (hu : X.A.units + 64 < cLine) : OpR X (compareOp .NotEq) (rM (gx X) oNe) := by
  intro pins s σ H x y v u Q I rx ry ⟨W, st, px, py, r, s', r1, r2, hs, e, hc⟩
  unfold oNe at e
  split at e <;> try (cases e; done)
  rename_i b eb
  cases e
  exact (oEqB_ok I hu hs r1 r2 rx ry eb).2 _ _ _ _ ⟨.bl (!b), H, I, rfl, hc.here hs (.bl (!b))⟩
end
end Z

set_option Elab.async false
set_option linter.all false
set_option maxRecDepth 100000
set_option maxHeartbeats 4000000
/-! Z5: in, len, isinstance, conversions, subscripts, slices, methods of built-ins. -/
namespace Z
open PySem PySem.Spec L2
section
variable {X : Cx} {Ex : XK} {pos : Pos}

/-! ### in -/
def pflat : PV → Bool
  | .non => true
  | .bl _ => true
  | .int _ => true
  | .str _ => true
  | _ => false
def feq (y x : PV) : Bool := (peq y x).getD false
theorem flat_of {K : PySem.W.Frag} {W : Wd} {x : PV} {v : V} (r : Rep K W x v) (h : pflat x = true) : flatV v = true := by
  cases r <;> first | rfl | cases h
theorem feq_of {K : PySem.W.Frag} {W : Wd} {x y : PV} {v u : V} (r1 : Rep K W y u) (r2 : Rep K W x v) (h1 : pflat y = true) (h2 : pflat x = true) : eqV u v = feq y x := by
  cases r1 <;> cases r2 <;> first | cases h1; done | cases h2; done | (unfold feq peq; rfl)
theorem any_feq {K : PySem.W.Frag} {W : Wd} {x : PV} {v : V} (r2 : Rep K W x v) (h2 : pflat x = true) : ∀ {ys : List PV} {us : List V}, Reps K W ys us → ys.all pflat = true → inV v us = ys.any fun y => feq y x
  | _, _, .nil, _ => rfl
  | y :: ys, u :: us, .cons r t, h => by
    rw [List.all_cons, Bool.and_eq_true] at h
    show (eqV u v || inV v us) = _
    rw [feq_of r r2 h.1 h2, any_feq r2 h2 t h.2, List.any_cons]
theorem all_flat {K : PySem.W.Frag} {W : Wd} : ∀ {ys : List PV} {us : List V}, Reps K W ys us → ys.all pflat = true → us.all flatV = true
  | _, _, .nil, _ => rfl
  | y :: ys, u :: us, .cons r t, h => by
    rw [List.all_cons, Bool.and_eq_true] at h
    rw [List.all_cons, flat_of r h.1, all_flat t h.2]; rfl
def inB (x y : PV) (s : S) : Option Bool :=
  match x, y with
  | .str a, .str z => if a.cps.size = 1 then some (decide (a.cps.getD 0 0 ∈ z.cps.toList)) else some (!(Builtin.Str.occurrences z a 0 z.length 1).isEmpty)
  | x, y =>
    match sqOf s y with
    | some ys => if pflat x && ys.all pflat then some (ys.any fun y => feq y x) else none
    | none => none
def oIn : O2 := fun x y s =>
  match inB x y s with
  | some b => some (.bl b, s)
  | none => none
def oNotIn : O2 := fun x y s =>
  match inB x y s with
  | some b => some (.bl (!b), s)
  | none => none
theorem one_sign {a : Str} (h : a.cps.size = 1) : a = ⟨#[a.cps.getD 0 0]⟩ := by
  obtain ⟨⟨l⟩⟩ := a
  cases l with
  | nil => simp at h
  | cons c r => cases r with | nil => rfl | cons _ _ => simp at h
theorem r_in : OpR X (compareOp .In) (rM (gx X) oIn) := by
  intro pins s σ H x y v u Q I rx ry ⟨W, st, px, py, r, s', r1, r2, hs, e, hc⟩
  unfold oIn at e
  split at e <;> try (cases e; done)
  rename_i b eb
  cases e
  unfold inB at eb
  split at eb
  · cases r1; cases r2
    rename_i a z
    split at eb
    · rename_i h
      cases eb
      exact op_in_sign pins s σ H _ _ v u Q I rx ry ⟨_, _, congrArg V.str (one_sign h), rfl, hc.here hs (.bl _)⟩
    · cases eb
      exact op_in_str pins s σ H _ _ v u Q I rx ry ⟨_, _, rfl, rfl, hc.here hs (.bl _)⟩
  · split at eb <;> try (cases eb; done)
    rename_i ys e1
    split at eb <;> try (cases eb; done)
    rename_i h
    cases eb
    rw [Bool.and_eq_true] at h
    obtain ⟨a, us, rfl, h1, h2⟩ := sqOf_ok hs r2 e1
    refine op_in_seq pins s σ H _ _ v u Q I rx ry ⟨a, us, rfl, h1, flat_of r1 h.1, all_flat h2 h.2, ?_⟩
    rw [if_neg Bool.false_ne_true, any_feq r1 h.1 h2 h.2]
    exact hc.here hs (.bl _)
theorem r_notin : OpR X (compareOp .NotIn) (rM (gx X) oNotIn) := by
  intro pins s σ H x y v u Q I rx ry ⟨W, st, px, py, r, s', r1, r2, hs, e, hc⟩
  unfold oNotIn at e
  split at e <;> try (cases e; done)
  rename_i b eb
  cases e
  unfold inB at eb
  split at eb
  · cases r1; cases r2
    rename_i a z
    split at eb
    · rename_i h
      cases eb
      exact op_notIn_sign pins s σ H _ _ v u Q I rx ry ⟨_, _, congrArg V.str (one_sign h), rfl, hc.here hs (.bl _)⟩
    · cases eb
      exact op_notIn_str pins s σ H _ _ v u Q I rx ry ⟨_, _, rfl, rfl, hc.here hs (.bl _)⟩
  · split at eb <;> try (cases eb; done)
    rename_i ys e1
    split at eb <;> try (cases eb; done)
    rename_i h
    cases eb
    rw [Bool.and_eq_true] at h
    obtain ⟨a, us, rfl, h1, h2⟩ := sqOf_ok hs r2 e1
    refine op_notIn_seq pins s σ H _ _ v u Q I rx ry ⟨a, us, rfl, h1, flat_of r1 h.1, all_flat h2 h.2, ?_⟩
    rw [if_pos rfl, any_feq r1 h.1 h2 h.2]
    exact hc.here hs (.bl _)

/-! ### len, conversions, max, min, all, any, sum -/
def bLen : OL := fun xs s =>
  match xs with
  | [.str a] => if a.length ≤ 16000000 then some (.int a.length, s) else none
  | [x] => match sqOf s x with
    | some ys => some (.int ys.length, s)
    | none => none
  | _ => none
theorem Reps.one {K : PySem.W.Frag} {W : Wd} {x : PV} {vs : List V} (r : Reps K W [x] vs) : ∃ v, vs = [v] ∧ Rep K W x v := by
  cases r with | cons h t => cases t; exact ⟨_, rfl, h⟩
theorem Reps.two {K : PySem.W.Frag} {W : Wd} {x y : PV} {vs : List V} (r : Reps K W [x, y] vs) : ∃ v u, vs = [v, u] ∧ Rep K W x v ∧ Rep K W y u := by
  cases r with | cons h t => obtain ⟨u, rfl, q⟩ := t.one; exact ⟨_, _, rfl, h, q⟩
theorem c_len : CallR X (.builtin "len") (rL (gx X) bLen) := by
  intro pins s σ H xs us Q I rs ⟨W, st, pxs, r, s', r1, hs, e, hc⟩
  unfold bLen at e
  split at e
  · split at e <;> cases e
    rename_i h
    obtain ⟨v, rfl, q⟩ := r1.one
    cases q
    exact call_len pins s σ H _ us Q I rs ⟨_, _, rfl, ⟨big_line h, rfl⟩, hc.here hs (.int _)⟩
  · split at e <;> try (cases e; done)
    rename_i ys e1
    cases e
    obtain ⟨v, rfl, q⟩ := r1.one
    obtain ⟨a, vs, rfl, h1, h2⟩ := sqOf_ok hs q e1
    refine call_len pins s σ H _ us Q I rs ⟨_, vs.length, rfl, ?_, by rw [← h2.length]; exact hc.here hs (.int _)⟩
    rcases h1 with h1 | h1
    · exact .inl ⟨vs, h1, rfl⟩
    · exact .inr ⟨vs, h1, rfl⟩
  · cases e
def bInt : OL := fun xs s =>
  match xs with
  | [.int i] => some (.int i, s)
  | [.bl k] => some (.int (b2 k), s)
  | _ => none
theorem c_int : CallR X (.type "int") (rL (gx X) bInt) := by
  intro pins s σ H xs us Q I rs ⟨W, st, pxs, r, s', r1, hs, e, hc⟩
  unfold bInt at e
  split at e <;> try (cases e; done)
  · cases e
    obtain ⟨v, rfl, q⟩ := r1.one
    cases q
    exact call_int1 pins s σ H _ us Q I rs (.inl ⟨_, rfl, hc.here hs (.int _)⟩)
  · cases e
    obtain ⟨v, rfl, q⟩ := r1.one
    cases q
    exact call_int1 pins s σ H _ us Q I rs (.inr ⟨_, rfl, hc.here hs (.int _)⟩)
def bBool : OL := fun xs s =>
  match xs with
  | [.int i] => some (.bl (i != 0), s)
  | [.bl k] => some (.bl k, s)
  | _ => none
theorem c_bool : CallR X (.type "bool") (rL (gx X) bBool) := by
  intro pins s σ H xs us Q I rs ⟨W, st, pxs, r, s', r1, hs, e, hc⟩
  unfold bBool at e
  split at e <;> try (cases e; done)
  · cases e
    obtain ⟨v, rfl, q⟩ := r1.one
    cases q
    exact call_bool1 pins s σ H _ us Q I rs (.inl ⟨_, rfl, hc.here hs (.bl _)⟩)
  · cases e
    obtain ⟨v, rfl, q⟩ := r1.one
    cases q
    exact call_bool1 pins s σ H _ us Q I rs (.inr ⟨_, rfl, hc.here hs (.bl _)⟩)
/-- str of an int -/
def bStr : OL := fun xs s =>
  match xs with
  | [.int i] => if i.natAbs.log2 < 1920 then some (.str (toString i), s) else none
  | _ => none
theorem c_str : CallR X (.type "str") (rL (gx X) bStr) := by
  intro pins s σ H xs us Q I rs ⟨W, st, pxs, r, s', r1, hs, e, hc⟩
  unfold bStr at e
  split at e <;> try (cases e; done)
  split at e <;> try (cases e; done)
  rename_i h
  cases e
  obtain ⟨v, rfl, q⟩ := r1.one
  cases q
  exact call_str_int pins s σ H _ us Q I rs ⟨_, rfl, h, hc.here hs (.str _)⟩
def bList (mu : Bool) : OL := fun xs s =>
  match xs with
  | [x] => match sqOf s x with
    | some ys => newL mu ys s
    | none => none
  | _ => none
theorem c_list (mu : Bool) : CallR X (.type "list") (rL (gx X) (bList mu)) := by
  intro pins s σ H xs us Q I rs ⟨W, st, pxs, r, s', r1, hs, e, hc⟩
  unfold bList at e
  split at e <;> try (cases e; done)
  split at e <;> try (cases e; done)
  rename_i ys e1
  obtain ⟨v, rfl, q⟩ := r1.one
  obtain ⟨a, vs, rfl, h1, h2⟩ := sqOf_ok hs q e1
  exact call_list_of pins s σ H _ us Q I rs ⟨a, vs, rfl, h1, (newL_ok hs h2 e hc).2⟩
def bTuple : OL := fun xs s =>
  match xs with
  | [.tup ys] => some (.tup ys, s)
  | [x] => match rdOf s x with
    | some ys => newT ys s
    | none => none
  | _ => none
theorem c_tuple : CallR X (.type "tuple") (rL (gx X) bTuple) := by
  intro pins s σ H xs us Q I rs ⟨W, st, pxs, r, s', r1, hs, e, hc⟩
  unfold bTuple at e
  split at e
  · cases e
    obtain ⟨v, rfl, q⟩ := r1.one
    have q' := q
    cases q with
    | tup h1 h2 => exact call_tuple_of pins s σ H _ us Q I rs ⟨_, _, rfl, .inr ⟨tup_sq hs h1, hc.here hs q'⟩⟩
  · split at e <;> try (cases e; done)
    rename_i ys e1
    obtain ⟨v, rfl, q⟩ := r1.one
    obtain ⟨a, vs, rfl, h1, h2⟩ := rdOf_ok hs q e1
    exact call_tuple_of pins s σ H _ us Q I rs ⟨a, vs, rfl, .inl ⟨h1, (newT_ok hs h2 e hc).2⟩⟩
  · cases e
def bMax2 : OL := fun xs s =>
  match xs with
  | [.int i, .int j] => some (.int (if j > i then j else i), s)
  | _ => none
theorem c_max2 (hcm : X.calm = true) : CallR X (.builtin "max") (rL (gx X) bMax2) := by
  intro pins s σ H xs us Q I rs ⟨W, st, pxs, r, s', r1, hs, e, hc⟩
  unfold bMax2 at e
  split at e <;> try (cases e; done)
  cases e
  obtain ⟨v, u, rfl, q1, q2⟩ := r1.two
  cases q1; cases q2
  exact call_max2 hcm pins s σ H _ us Q I rs ⟨_, _, rfl, hc.here hs (.int _)⟩
def bMin2 : OL := fun xs s =>
  match xs with
  | [.int i, .int j] => some (.int (if j < i then j else i), s)
  | _ => none
theorem c_min2 (hcm : X.calm = true) : CallR X (.builtin "min") (rL (gx X) bMin2) := by
  intro pins s σ H xs us Q I rs ⟨W, st, pxs, r, s', r1, hs, e, hc⟩
  unfold bMin2 at e
  split at e <;> try (cases e; done)
  cases e
  obtain ⟨v, u, rfl, q1, q2⟩ := r1.two
  cases q1; cases q2
  exact call_min2 hcm pins s σ H _ us Q I rs ⟨_, _, rfl, hc.here hs (.int _)⟩
/-- all items are truths -/
def bls : List PV → Option (List Bool)
  | [] => some []
  | .bl b :: r => match bls r with
    | some bs => some (b :: bs)
    | none => none
  | _ => none
theorem bls_ok {K : PySem.W.Frag} {W : Wd} : ∀ {xs : List PV} {vs : List V} {bs : List Bool}, Reps K W xs vs → bls xs = some bs → vs = bs.map V.bl
  | _, _, _, .nil, e => by cases e; rfl
  | x :: xs, _, bs, .cons h t, e => by
    cases x with
    | bl b =>
      cases h
      unfold bls at e
      split at e <;> cases e
      rename_i bs' e'
      rw [bls_ok t e']; rfl
    | _ => cases e
theorem bls_map (bs : List Bool) : bls (bs.map PV.bl) = some bs := by
  induction bs with
  | nil => rfl
  | cons b r ih => simp only [List.map_cons, bls, ih]
def bAll : OL := fun xs s =>
  match xs with
  | [x] => match rdOf s x with
    | some ys => match bls ys with
      | some bs => some (.bl (bs.all id), s)
      | none => none
    | none => none
  | _ => none
def bAny : OL := fun xs s =>
  match xs with
  | [x] => match rdOf s x with
    | some ys => match bls ys with
      | some bs => some (.bl (bs.any id), s)
      | none => none
    | none => none
  | _ => none
theorem c_all (hcm : X.calm = true) : CallR X (.builtin "all") (rL (gx X) bAll) := by
  intro pins s σ H xs us Q I rs ⟨W, st, pxs, r, s', r1, hs, e, hc⟩
  unfold bAll at e
  split at e <;> try (cases e; done)
  split at e <;> try (cases e; done)
  rename_i ys e1
  split at e <;> try (cases e; done)
  rename_i bs e2
  cases e
  obtain ⟨v, rfl, q⟩ := r1.one
  obtain ⟨a, vs, rfl, h1, h2⟩ := rdOf_ok hs q e1
  rw [bls_ok h2 e2] at h1
  exact cr_all hcm pins s σ H _ us Q I rs ⟨a, bs, rfl, h1, hc.here hs (.bl _)⟩
theorem c_any (hcm : X.calm = true) : CallR X (.builtin "any") (rL (gx X) bAny) := by
  intro pins s σ H xs us Q I rs ⟨W, st, pxs, r, s', r1, hs, e, hc⟩
  unfold bAny at e
  split at e <;> try (cases e; done)
  split at e <;> try (cases e; done)
  rename_i ys e1
  split at e <;> try (cases e; done)
  rename_i bs e2
  cases e
  obtain ⟨v, rfl, q⟩ := r1.one
  obtain ⟨a, vs, rfl, h1, h2⟩ := rdOf_ok hs q e1
  rw [bls_ok h2 e2] at h1
  exact cr_any hcm pins s σ H _ us Q I rs ⟨a, bs, rfl, h1, hc.here hs (.bl _)⟩
def intsOf : List PV → Option (List Int)
  | [] => some []
  | .int b :: r => match intsOf r with
    | some bs => some (b :: bs)
    | none => none
  | _ => none
theorem intsOf_ok {K : PySem.W.Frag} {W : Wd} : ∀ {xs : List PV} {vs : List V} {bs : List Int}, Reps K W xs vs → intsOf xs = some bs → vs = bs.map V.int
  | _, _, _, .nil, e => by cases e; rfl
  | x :: xs, _, bs, .cons h t, e => by
    cases x with
    | int b =>
      cases h
      unfold intsOf at e
      split at e <;> cases e
      rename_i bs' e'
      rw [intsOf_ok t e']; rfl
    | _ => cases e
theorem intsOf_map (bs : List Int) : intsOf (bs.map PV.int) = some bs := by
  induction bs with
  | nil => rfl
  | cons b r ih => simp only [List.map_cons, intsOf, ih]
def strsOf : List PV → Option (List Str)
  | [] => some []
  | .str b :: r => match strsOf r with
    | some bs => some (b :: bs)
    | none => none
  | _ => none
theorem strsOf_ok {K : PySem.W.Frag} {W : Wd} : ∀ {xs : List PV} {vs : List V} {bs : List Str}, Reps K W xs vs → strsOf xs = some bs → vs = bs.map V.str
  | _, _, _, .nil, e => by cases e; rfl
  | x :: xs, _, bs, .cons h t, e => by
    cases x with
    | str b =>
      cases h
      unfold strsOf at e
      split at e <;> cases e
      rename_i bs' e'
      rw [strsOf_ok t e']; rfl
    | _ => cases e
theorem strsOf_map (bs : List Str) : strsOf (bs.map PV.str) = some bs := by
  induction bs with
  | nil => rfl
  | cons b r ih => simp only [List.map_cons, strsOf, ih]
def bSum : OL := fun xs s =>
  match xs with
  | [x] => match rdOf s x with
    | some ys => match intsOf ys with
      | some ns => some (.int ns.sum, s)
      | none => none
    | none => none
  | _ => none
theorem c_sum (hcm : X.calm = true) : CallR X (.builtin "sum") (rL (gx X) bSum) := by
  intro pins s σ H xs us Q I rs ⟨W, st, pxs, r, s', r1, hs, e, hc⟩
  unfold bSum at e
  split at e <;> try (cases e; done)
  split at e <;> try (cases e; done)
  rename_i ys e1
  split at e <;> try (cases e; done)
  rename_i bs e2
  cases e
  obtain ⟨v, rfl, q⟩ := r1.one
  obtain ⟨a, vs, rfl, h1, h2⟩ := rdOf_ok hs q e1
  rw [intsOf_ok h2 e2] at h1
  exact cr_sum hcm pins s σ H _ us Q I rs ⟨a, bs, rfl, h1, hc.here hs (.int _)⟩
/-- the greatest, the least of a list that is not empty -/
def top1 : List Int → Option Int
  | [] => none
  | x :: xs => some (xs.foldl max x)
def bot1 : List Int → Option Int
  | [] => none
  | x :: xs => some (xs.foldl min x)
theorem foldl_max_mem : ∀ (xs : List Int) (x : Int), xs.foldl max x ∈ x :: xs
  | [], x => by simp
  | y :: ys, x => by
    rw [List.foldl_cons]
    rcases List.mem_cons.mp (foldl_max_mem ys (max x y)) with h | h
    · rcases Int.le_total x y with q | q
      · rw [Int.max_eq_right q] at h ⊢; rw [h]; simp
      · rw [Int.max_eq_left q] at h ⊢; rw [h]; simp
    · exact List.mem_cons_of_mem _ (List.mem_cons_of_mem _ h)
theorem foldl_max_ge : ∀ (xs : List Int) (x y : Int), y ∈ x :: xs → y ≤ xs.foldl max x
  | [], x, y, h => by simp at h; subst h; exact Int.le_refl _
  | z :: zs, x, y, h => by
    rw [List.foldl_cons]
    rcases List.mem_cons.mp h with h | h
    · subst h
      exact Int.le_trans (Int.le_max_left _ _) (foldl_max_ge zs _ _ (List.mem_cons_self ..))
    · rcases List.mem_cons.mp h with h | h
      · subst h
        exact Int.le_trans (Int.le_max_right _ _) (foldl_max_ge zs _ _ (List.mem_cons_self ..))
      · exact foldl_max_ge zs _ y (List.mem_cons_of_mem _ h)
theorem foldl_min_mem : ∀ (xs : List Int) (x : Int), xs.foldl min x ∈ x :: xs
  | [], x => by simp
  | y :: ys, x => by
    rw [List.foldl_cons]
    rcases List.mem_cons.mp (foldl_min_mem ys (min x y)) with h | h
    · rcases Int.le_total x y with q | q
      · rw [Int.min_eq_left q] at h ⊢; rw [h]; simp
      · rw [Int.min_eq_right q] at h ⊢; rw [h]; simp
    · exact List.mem_cons_of_mem _ (List.mem_cons_of_mem _ h)
theorem foldl_min_le : ∀ (xs : List Int) (x y : Int), y ∈ x :: xs → xs.foldl min x ≤ y
  | [], x, y, h => by simp at h; subst h; exact Int.le_refl _
  | z :: zs, x, y, h => by
    rw [List.foldl_cons]
    rcases List.mem_cons.mp h with h | h
    · subst h
      exact Int.le_trans (foldl_min_le zs _ _ (List.mem_cons_self ..)) (Int.min_le_left _ _)
    · rcases List.mem_cons.mp h with h | h
      · subst h
        exact Int.le_trans (foldl_min_le zs _ _ (List.mem_cons_self ..)) (Int.min_le_right _ _)
      · exact foldl_min_le zs _ y (List.mem_cons_of_mem _ h)
def bMaxL : OL := fun xs s =>
  match xs with
  | [x] => match rdOf s x with
    | some ys => match intsOf ys with
      | some ns => match top1 ns with
        | some m => some (.int m, s)
        | none => none
      | none => none
    | none => none
  | _ => none
def bMinL : OL := fun xs s =>
  match xs with
  | [x] => match rdOf s x with
    | some ys => match intsOf ys with
      | some ns => match bot1 ns with
        | some m => some (.int m, s)
        | none => none
      | none => none
    | none => none
  | _ => none
theorem c_maxL (hcm : X.calm = true) : CallR X (.builtin "max") (rL (gx X) bMaxL) := by
  intro pins s σ H xs us Q I rs ⟨W, st, pxs, r, s', r1, hs, e, hc⟩
  unfold bMaxL at e
  split at e <;> try (cases e; done)
  split at e <;> try (cases e; done)
  rename_i ys e1
  split at e <;> try (cases e; done)
  rename_i ns e2
  split at e <;> try (cases e; done)
  rename_i m e3
  cases e
  obtain ⟨v, rfl, q⟩ := r1.one
  obtain ⟨a, vs, rfl, h1, h2⟩ := rdOf_ok hs q e1
  rw [intsOf_ok h2 e2] at h1
  cases ns with
  | nil => cases e3
  | cons n ns =>
    cases e3
    refine cr_max hcm pins s σ H _ us Q I rs ⟨a, n :: ns, rfl, h1, by simp, fun m' hm hl => ?_⟩
    have z : m' = ns.foldl max n := Int.le_antisymm (foldl_max_ge ns n m' hm) (hl _ (foldl_max_mem ns n))
    rw [z]
    exact hc.here hs (.int _)
theorem c_minL (hcm : X.calm = true) : CallR X (.builtin "min") (rL (gx X) bMinL) := by
  intro pins s σ H xs us Q I rs ⟨W, st, pxs, r, s', r1, hs, e, hc⟩
  unfold bMinL at e
  split at e <;> try (cases e; done)
  split at e <;> try (cases e; done)
  rename_i ys e1
  split at e <;> try (cases e; done)
  rename_i ns e2
  split at e <;> try (cases e; done)
  rename_i m e3
  cases e
  obtain ⟨v, rfl, q⟩ := r1.one
  obtain ⟨a, vs, rfl, h1, h2⟩ := rdOf_ok hs q e1
  rw [intsOf_ok h2 e2] at h1
  cases ns with
  | nil => cases e3
  | cons n ns =>
    cases e3
    refine cr_min hcm pins s σ H _ us Q I rs ⟨a, n :: ns, rfl, h1, by simp, fun m' hm hl => ?_⟩
    have z : m' = ns.foldl min n := Int.le_antisymm (hl _ (foldl_min_mem ns n)) (foldl_min_le ns n m' hm)
    rw [z]
    exact hc.here hs (.int _)

/-! ### isinstance with one built-in type -/
inductive Tn where
  | int | bool | str | tuple | list | dict
  deriving DecidableEq
def Tn.nm : Tn → String
  | .int => "int"
  | .bool => "bool"
  | .str => "str"
  | .tuple => "tuple"
  | .list => "list"
  | .dict => "dict"
inductive Kn where
  | non | bool | int | str | tuple | list | dict
  deriving DecidableEq
def Kn.nm : Kn → String
  | .non => "NoneType"
  | .bool => "bool"
  | .int => "int"
  | .str => "str"
  | .tuple => "tuple"
  | .list => "list"
  | .dict => "dict"
def kn (s : S) : PV → Option Kn
  | .non => some .non
  | .bl _ => some .bool
  | .int _ => some .int
  | .str _ => some .str
  | .tup _ => some .tuple
  | .lst _ => some .list
  | .scr _ => some .list
  | .dic _ => some .dict
  | .obj n => match s[n]? with
    | some (.lst _) => some .list
    | some (.dic _) => some .dict
    | _ => none
def isi : Kn → Tn → Bool
  | .bool, .bool => true
  | .bool, .int => true
  | .int, .int => true
  | .str, .str => true
  | .tuple, .tuple => true
  | .list, .list => true
  | .dict, .dict => true
  | _, _ => false
theorem isi_ok (k : Kn) (t : Tn) : kitB k.nm t.nm = some (isi k t) := by
  cases k <;> cases t <;> decide +kernel
theorem kn_ok {W : Wd} {H : Hp} {s : S} {x : PV} {v : V} {k : Kn} (hs : StR (gx X) W H s) (r : Rep X.K W x v) (e : kn s x = some k) : TyX X.K H v (.type k.nm) := by
  have lq : ∀ {a vs}, SqL X.K H a vs → TyX X.K H (.ref a) (.type "list") := fun {a vs} h => by
    rcases h with (h | ⟨o, h⟩) | ⟨o, its, n, h, c, _⟩
    · exact .base (.lst h)
    · exact .base (.frz h)
    · exact .kList h c
  cases r with
  | non => cases e; exact .base .non
  | bl b => cases e; exact .base (.bl b)
  | int i => cases e; exact .base (.int i)
  | str z => cases e; exact .base (.str z)
  | tup h q =>
    cases e
    rcases tup_sq hs h with (h | ⟨o, h⟩) | ⟨o, its, n, h, c, _⟩
    · exact .base (.tup h)
    · exact .fTuple h
    · exact .kTuple h c
  | lst h q => cases e; exact lq (.inl (.inl (hs.fro _ _ h)))
  | scr h q => cases e; exact lq (hs.fro.sqL h)
  | dic h q => cases e; exact .base (.dK (hs.fro _ _ h))
  | obj h =>
    rename_i a n
    have e' : (match s[n]? with | some (.lst _) => some Kn.list | some (.dic _) => some Kn.dict | _ => none) = some k := e
    cases hn : s[n]? with
    | none => rw [hn] at e'; cases e'
    | some o =>
      rw [hn] at e'
      have q := hs.obj h hn
      cases o with
      | lst ys => cases e'; cases q with | lst h1 _ => exact lq (.inl (.inl h1))
      | dic ys => cases e'; cases q with | dic h1 _ => exact .base (.dK h1)
      | _ => cases e'
def uIsi (t : Tn) : O1 := fun x s =>
  match kn s x with
  | some k => some (.bl (isi k t), s)
  | none => none
theorem boot_isi : bootBuiltins "isinstance" = some (.builtin "isinstance") := by decide +kernel
theorem se_isi {e : Expr} {m : EM} {x : Str} {p q : Pos} (t : Tn) (hg : Gl X "isinstance") (hm : X.mg "isinstance" = none) (hg2 : Gl X x) (hm2 : X.mg x = none) (hv : bootBuiltins x = some (.type t.nm)) (he : PE X e (tE (gx X) Ex m))
    (hn : x ≠ "__name__" := by decide) (hd : (x == ("__debug__" : Str)) = false := by decide)
    (h1 : starEach (e :: [.Name x q]) X.env = (false, eval e X.env) :: starEach [.Name x q] X.env := by rfl) (h2 : starEach (.Name x q :: []) X.env = (false, eval (.Name x q) X.env) :: starEach [] X.env := by rfl)
    (hpl : (backTo pos (starEach [.Name x q] X.env)).any (·.1) = false := by rfl) : PE X (.Call (.Name "isinstance" p) [e, .Name x q] [] pos) (tE (gx X) Ex (eUn (uIsi t) m)) := by
  refine pe_weak (pe_callB call_isi hg hm boot_isi (pa_cons he (pa_cons (pe_bltn (v := .ty t.nm) hg2 hm2 hv rfl hn hd) pa_nil h2) h1) (by decide) (by decide) h1 hpl) fun σ H Q ⟨W, s, env, he, hs, h⟩ => ?_
  refine tE_bind he hs h fun x s1 W1 H1 u l1 he1 hs1 r1 h1 => ?_
  obtain ⟨v, s', e, hc⟩ := h1.lift
  unfold uIsi at e
  split at e <;> try (cases e; done)
  rename_i k ek
  cases e
  exact ⟨u, _, _, _, _, rfl, .ty _, kn_ok hs1 r1 ek, kit_ty (isi_ok k t), (hc.mono l1).here hs1 (.bl _)⟩
end
end Z

set_option Elab.async false
set_option linter.all false
set_option maxRecDepth 100000
set_option maxHeartbeats 4000000
/-! Z6: subscripts, slices, methods of lists and texts, dicts. -/
namespace Z
open PySem PySem.Spec L2
section
variable {X : Cx} {Ex : XK} {pos : Pos} {a b e o i value : Expr} {ma mb mo mi mv : EM}

/-! ### x[i] -/
def oIx : O2 := fun x y s =>
  match x, y with
  | .str z, .int i => if z.length ≤ 16000000 then
      match atI z.cps.toList i with
      | some c => some (.str ⟨#[c]⟩, s)
      | none => none
    else none
  | x, .int i => match sqOf s x with
    | some ys => match atI ys i with
      | some v => some (v, s)
      | none => none
    | none => none
  | _, _ => none
theorem x_ix : IxR X (rM (gx X) oIx) := by
  intro vl sl pins s σ H x y v u Q I rx ry ⟨W, st, px, py, r, s', r1, r2, hs, e, hc⟩ hp
  unfold oIx at e
  split at e
  · split at e <;> try (cases e; done)
    rename_i hz
    split at e <;> try (cases e; done)
    rename_i c ec
    cases e; cases r1; cases r2
    exact ix_str vl sl pins s σ H _ _ v u Q I rx ry ⟨_, _, _, rfl, rfl, big_line hz, ec, hc.here hs (.str _)⟩ hp
  · split at e <;> try (cases e; done)
    rename_i ys e1
    split at e <;> try (cases e; done)
    rename_i w ew
    cases e; cases r2
    obtain ⟨a, vs, rfl, h1, h2⟩ := sqOf_ok hs r1 e1
    obtain ⟨w', ew', rw'⟩ := h2.atI ew
    rcases h1 with h1 | h1
    · exact ix_list vl sl pins s σ H _ _ v u Q I rx ry ⟨_, _, _, _, rfl, rfl, h1, ew', hc.here hs rw'⟩ hp
    · exact ix_tup vl sl pins s σ H _ _ v u Q I rx ry ⟨_, _, _, _, rfl, rfl, h1, ew', hc.here hs rw'⟩ hp
  · cases e
theorem se_ix (ha : PE X a (tE (gx X) Ex ma)) (hb : PE X b (tE (gx X) Ex mb)) (hp : PlainIx b := by exact fun _ _ => rfl) : PE X (.Subscript a b pos) (tE (gx X) Ex (eOp oIx ma mb)) :=
  pe_weak (pe_ix x_ix ha hb hp) fun _ _ _ h => tOp_of h

/-! ### slices -/
def cut {α : Type} (xs : List α) (lo hi : Option Int) : List α := (xs.drop (HT.sIx xs.length 0 lo)).take (HT.sIx xs.length xs.length hi - HT.sIx xs.length 0 lo)
theorem Reps.cut {K : PySem.W.Frag} {W : Wd} {xs : List PV} {vs : List V} (r : Reps K W xs vs) (lo hi : Option Int) : Reps K W (cut xs lo hi) (cutV vs lo hi) := by
  unfold Z.cut cutV
  rw [r.length]
  exact (r.drop _).take _
def oSl (mu : Bool) (x : PV) (lo hi : Option Int) (s : S) : Option (PV × S) :=
  match x with
  | .str z => if z.length ≤ 16000000 then some (.str (cutS z lo hi), s) else none
  | .tup xs => newT (cut xs lo hi) s
  | x => match rdOf s x with
    | some xs => newL mu (cut xs lo hi) s
    | none => none
theorem HT_le (n d : Nat) (hd : d ≤ n) (o : Option Int) : HT.sIx n d o ≤ n := HT.sIx_le n d hd o
theorem x_sl (mu : Bool) : SlR X (fun x lo hi H Q => ∃ W st px v s', Rep X.K W px x ∧ StR (gx X) W H st ∧ oSl mu px lo hi st = some (v, s') ∧ Cont (gx X) W Q v s') := by
  intro pins s σ H x v vl vu lo hi sl Q I rx hsl pl pu ⟨W, st, px, r, s', r1, hs, e, hc⟩
  unfold oSl at e
  split at e
  · split at e <;> try (cases e; done)
    rename_i h
    cases e; cases r1
    exact sl_str pins s σ H _ v vl vu lo hi sl Q I rx hsl pl pu ⟨_, rfl, big_line h, hc.here hs (.str _)⟩
  · have r1' := r1
    cases r1 with
    | tup h1 h2 =>
      rename_i xs a vs
      refine sl_tupA pins s σ H _ v vl vu lo hi sl Q I rx hsl pl pu ⟨a, vs, rfl, tup_sq hs h1, fun hw => ?_, fun _ => (newT_ok hs (h2.cut lo hi) e hc).2⟩
      unfold newT at e
      split at e <;> cases e
      have z : cut xs lo hi = xs := by
        unfold cut
        rw [h2.length, hw.1, hw.2, List.drop_zero]
        exact List.take_of_length_le (by rw [h2.length]; omega)
      rw [z] at hc
      exact hc.here hs r1'
  · split at e <;> try (cases e; done)
    rename_i xs e1
    obtain ⟨a, vs, rfl, h1, h2⟩ := rdOf_ok hs r1 e1
    exact sl_list pins s σ H _ v vl vu lo hi sl Q I rx hsl pl pu ⟨a, vs, rfl, h1, (newL_ok hs (h2.cut lo hi) e hc).2⟩
/-- a part of a slice -/
abbrev PM := En → S → Rs (Option Int)
def pNo : PM := fun _ s => .ok none s
def pIs (m : EM) : PM := fun env s => (m env s).bind fun x s1 =>
  match x with
  | .int i => .ok (some i) s1
  | _ => .fail
def tP (g : G) (Ex : XK) (m : PM) : TO := fun σ H Q => ∃ W s env, EnvR g.K W env σ ∧ StR g W H s ∧ Post (m env s) (fun o s' => ∀ W' H', W.Le W' → StR g W' H' s' → Q o H') (XW g W Ex)
theorem sp_none : PO X none (tP (gx X) Ex pNo) := ⟨fun pins s σ H Q I ⟨W, st, env, he, hs, h⟩ => po_none.run pins s σ H Q I (h W H (Wd.Le.refl W) hs)⟩
theorem sp_some {m : EM} (h : PE X e (tE (gx X) Ex m)) : PO X (some e) (tP (gx X) Ex (pIs m)) := ⟨fun pins s σ H Q I ⟨W, st, env, he, hs, h1⟩ => by
  refine (po_some h).run pins s σ H Q I ?_
  refine tE_bind he hs h1 fun x s1 W1 H1 u l1 he1 hs1 r1 h2 => ?_
  cases x with
  | int i => cases r1; exact ⟨i, rfl, h2 W1 H1 l1 hs1⟩
  | _ => exact h2.elim⟩
def eSl (mu : Bool) (m : EM) (lo hi : PM) : EM := fun env s => (m env s).bind fun x s1 => (lo env s1).bind fun l s2 => (hi env s2).bind fun h s3 => lift (oSl mu x l h s3)
theorem tP_bind {α : Type} {g : G} {W : Wd} {s : S} {env : En} {σ : L2.St} {H : Hp} {m : PM} {k : Option Int → S → Rs α} {Q : α → S → Prop} {R : Option Int → Hp → Prop} (he : EnvR g.K W env σ) (hs : StR g W H s) (h : Post ((m env s).bind k) Q (XW g W Ex))
    (hk : ∀ v s1 W1 H1, W.Le W1 → EnvR g.K W1 env σ → StR g W1 H1 s1 → Post (k v s1) Q (XW g W1 Ex) → R v H1) : tP g Ex m σ H R :=
  ⟨W, s, env, he, hs, h.bind.mono (fun v s1 q W1 H1 l hs1 => hk v s1 W1 H1 l (he.mono l) hs1 (q.mono (fun _ _ z => z) fun _ _ _ z => z.mono l)) fun _ _ _ z => z⟩
theorem se_slice {lo hi : Option Expr} {p2 : Pos} {m : EM} {ml mh : PM} (mu : Bool) (he : PE X e (tE (gx X) Ex m)) (hl : PO X lo (tP (gx X) Ex ml)) (hh : PO X hi (tP (gx X) Ex mh)) :
    PE X (.Subscript e (.Slice lo hi none p2) pos) (tE (gx X) Ex (eSl mu m ml mh)) := by
  refine pe_weak (pe_slice (x_sl mu) he hl hh) fun σ H Q ⟨W, s, env, he, hs, h⟩ => ?_
  refine tE_bind he hs h fun x s1 W1 H1 u l1 he1 hs1 r1 h1 => ?_
  refine tP_bind he1 hs1 h1 fun y s2 W2 H2 l2 he2 hs2 h2 => ?_
  refine tP_bind he2 hs2 h2 fun z s3 W3 H3 l3 he3 hs3 h3 => ?_
  obtain ⟨v, s', e, hc⟩ := h3.lift
  exact ⟨W3, s3, x, v, s', (r1.mono l2).mono l3, hs3, e, hc.mono ((l1.trans l2).trans l3)⟩
/-- a list turned round -/
def uRevL (mu : Bool) : O1 := fun x s =>
  match rdOf s x with
  | some xs => newL mu xs.reverse s
  | none => none
theorem se_revL {k : Nat} {p1 p2 p3 : Pos} (mu : Bool) {m : EM} (he : PE X e (tE (gx X) Ex m)) : PE X (.Subscript e (.Slice none none (some (.UnaryOp .USub (.Constant (.int 1) k p1) p2)) p3) pos) (tE (gx X) Ex (eUn (uRevL mu) m)) := by
  refine pe_weak (pe_revL he) fun σ H Q ⟨W, s, env, he, hs, h⟩ => ?_
  refine tE_bind he hs h fun x s1 W1 H1 u l1 he1 hs1 r1 h1 => ?_
  obtain ⟨v, s', e, hc⟩ := h1.lift
  unfold uRevL at e
  split at e <;> try (cases e; done)
  rename_i xs e1
  obtain ⟨a, vs, rfl, q1, q2⟩ := rdOf_ok hs1 r1 e1
  exact ⟨a, vs, rfl, q1, (newL_ok hs1 q2.reverse e (hc.mono l1)).2⟩

/-! ### methods of built-in types -/
abbrev OM := PV → List PV → S → Option (PV × S)
def rMt (g : G) (f : OM) : V → List V → Hp → VK → Prop := fun x xs H Q => ∃ W s px pxs v s', Rep g.K W px x ∧ Reps g.K W pxs xs ∧ StR g W H s ∧ f px pxs s = some (v, s') ∧ Cont g W Q v s'
/-- the receiver is of this type -/
def isTy (T : Kn) (x : PV) (s : S) : Bool := match kn s x with
  | some k => decide (k = T)
  | none => false
def eMt (T : Kn) (f : OM) (m : EM) (ms : AM) : EM := fun env s => (m env s).bind fun x s1 => if isTy T x s1 then (ms env s1).bind fun xs s2 => lift (f x xs s2) else .fail
theorem tyV_of {W : Wd} {H : Hp} {s : S} {x : PV} {v : V} {T : Kn} (hs : StR (gx X) W H s) (r : Rep X.K W x v) (h : isTy T x s = true) (hT : T = .str ∨ T = .list ∨ T = .dict) : tyV X.K T.nm v H := by
  unfold isTy at h
  split at h <;> try (cases h; done)
  rename_i k ek
  have := of_decide_eq_true h
  subst this
  cases r with
  | str z => cases ek; rfl
  | lst h1 _ => cases ek; exact .inl ⟨rfl, _, .inl (.inl (hs.fro _ _ h1))⟩
  | scr h1 _ => cases ek; exact .inl ⟨rfl, _, hs.fro.sqL h1⟩
  | dic h1 _ => cases ek; exact .inr (.inr (.inl ⟨rfl, .inl ⟨_, hs.fro _ _ h1⟩⟩))
  | obj h1 =>
    rename_i a n
    have e' : (match s[n]? with | some (.lst _) => some Kn.list | some (.dic _) => some Kn.dict | _ => none) = some k := ek
    cases hn : s[n]? with
    | none => rw [hn] at e'; cases e'
    | some o =>
      rw [hn] at e'
      have q := hs.obj h1 hn
      cases o with
      | lst ys => cases e'; cases q with | lst h2 _ => exact .inl ⟨rfl, _, .inl (.inl h2)⟩
      | dic ys => cases e'; cases q with | dic h2 _ => exact .inr (.inr (.inl ⟨rfl, .inl ⟨_, h2⟩⟩))
      | _ => cases e'
  | non => cases ek; simp at hT
  | bl b => cases ek; simp at hT
  | int i => cases ek; simp at hT
  | tup _ _ => cases ek; simp at hT
section
variable {name : Str} {apos cpos : Pos} {T : Kn} {id : String} {f : OM} {es : List Expr} {m : EM} {ms : AM}
theorem se_bm0 (pa : PlainAttrs T.nm) (slot : Slot T.nm name id) (hty : typeOf (.builtin id) = pure (.type "method_descriptor")) (hm : MtR X id (rMt (gx X) f)) (ho : PE X o (tE (gx X) Ex m)) (hT : T = .str ∨ T = .list ∨ T = .dict := by decide)
    (hbase : attributeBase o name X.env (eval o X.env) = eval o X.env := by rfl) (hline : (apos.endLine == cpos.line) = true := by rfl) : PE X (.Call (.Attribute o name apos) [] [] cpos) (tE (gx X) Ex (eMt T f m aNil)) := by
  refine pe_weak (pe_bm0 pa slot hty hm ho hbase hline) fun σ H Q ⟨W, s, env, he, hs, h⟩ => ?_
  refine tE_bind he hs h fun x s1 W1 H1 u l1 he1 hs1 r1 h1 => ?_
  split at h1 <;> try (exact h1.elim)
  rename_i ht
  obtain ⟨v, s', e, hc⟩ := h1.bind.lift
  exact ⟨tyV_of hs1 r1 ht hT, W1, s1, x, [], v, s', r1, .nil, hs1, e, hc.mono l1⟩
theorem se_bm (pa : PlainAttrs T.nm) (slot : Slot T.nm name id) (hty : typeOf (.builtin id) = pure (.type "method_descriptor")) (hm : MtR X id (rMt (gx X) f)) (ho : PE X o (tE (gx X) Ex m)) (ha : PA X (e :: es) (tA (gx X) Ex ms)) (hT : T = .str ∨ T = .list ∨ T = .dict := by decide)
    (hbase : attributeBase o name X.env (eval o X.env) = eval o X.env := by rfl)
    (hfew : ((backTo cpos (starEach (e :: es) X.env)).all (fun x => !x.1) && (backToKw cpos (keywordEach [] X.env)).all (fun x => x.1.isSome) && decide ((e :: es).length + ([] : List Keyword).length + (if ([] : List Keyword).isEmpty then 0 else 1) < 30)) = true := by rfl)
    (hline : (apos.endLine == cpos.line) = true := by rfl) (hs : starEach (e :: es) X.env = (false, eval e X.env) :: starEach es X.env := by rfl) (hpl : (backTo cpos (starEach es X.env)).any (·.1) = false := by rfl) :
    PE X (.Call (.Attribute o name apos) (e :: es) [] cpos) (tE (gx X) Ex (eMt T f m ms)) := by
  refine pe_weak (pe_bm pa slot hty hm ho ha hbase hfew hline hs hpl) fun σ H Q ⟨W, s, env, he, hs, h⟩ => ?_
  refine tE_bind he hs h fun x s1 W1 H1 u l1 he1 hs1 r1 h1 => ?_
  split at h1 <;> try (exact h1.elim)
  rename_i ht
  refine ⟨tyV_of hs1 r1 ht hT, ?_⟩
  refine tA_bind he1 hs1 h1 fun xs s2 W2 H2 us l2 he2 hs2 r2 h2 => ?_
  obtain ⟨v, s', e, hc⟩ := h2.lift
  exact ⟨W2, s2, x, xs, v, s', r1.mono l2, r2, hs2, e, hc.mono (l1.trans l2)⟩
end
/-- a mutable list of the store -/
def mlst (s : S) (x : PV) : Option (Nat × List PV) :=
  match x with
  | .obj n => match s[n]? with
    | some (.lst xs) => some (n, xs)
    | _ => none
  | _ => none
theorem mlst_ok {g : G} {W : Wd} {H : Hp} {s : S} {x : PV} {v : V} {n : Nat} {xs : List PV} (hs : StR g W H s) (r : Rep g.K W x v) (e : mlst s x = some (n, xs)) :
    ∃ a vs, v = .ref a ∧ W.ob[n]? = some a ∧ s[n]? = some (.lst xs) ∧ H a = some (.lst vs) ∧ Reps g.K W xs vs := by
  cases r with
  | obj h =>
    rename_i a m
    have e' : (match s[m]? with | some (.lst xs) => some (m, xs) | _ => none) = some (n, xs) := e
    cases hn : s[m]? with
    | none => rw [hn] at e'; cases e'
    | some o =>
      rw [hn] at e'
      have q := hs.obj h hn
      cases o with
      | lst ys => cases e'; cases q with | lst h1 q => exact ⟨_, _, rfl, h, hn, h1, q⟩
      | _ => cases e'
  | _ => cases e
/-- the store with another list -/
theorem put_lst {g : G} {W : Wd} {H : Hp} {s : S} {n : Nat} {a : Addr} {xs ys : List PV} {vs : List V} (hs : StR g W H s) (ha : W.ob[n]? = some a) (ho : s[n]? = some (.lst xs)) (r : Reps g.K W ys vs) : StR g W (upd H a (.lst vs)) (s.set n (.lst ys)) :=
  hs.put ha ho (fun z => by cases z) (.lst upd_same r)
def mAppend : OM := fun x xs s =>
  match mlst s x, xs with
  | some (n, ys), [y] => if ys.length < 16000000 then some (.non, s.set n (.lst (ys ++ [y]))) else none
  | _, _ => none
theorem m_append : MtR X "list.append" (rMt (gx X) mAppend) := by
  intro pins s σ H x xs v us Q I rx rs ⟨W, st, px, pxs, r, s', r1, r2, hs, e, hc⟩
  unfold mAppend at e
  split at e <;> try (cases e; done)
  rename_i n ys y e1
  split at e <;> cases e
  rename_i hz
  obtain ⟨a, vs, rfl, ha, ho, h1, h2⟩ := mlst_ok hs r1 e1
  obtain ⟨u, rfl, q⟩ := r2.one
  refine mt_append pins s σ H _ _ v us Q I rx rs ⟨a, vs, u, rfl, rfl, h1, ?_, hc.here (put_lst hs ha ho (h2.append (.cons q .nil))) .non⟩
  rw [← h2.length, sizeLine_eq]; omega
def mPop : OM := fun x xs s =>
  match mlst s x, xs with
  | some (n, ys), [] => match ys.getLast? with
    | some y => some (y, s.set n (.lst ys.dropLast))
    | none => none
  | _, _ => none
theorem Reps.dropLast {K : PySem.W.Frag} {W : Wd} {xs : List PV} {vs : List V} (r : Reps K W xs vs) : Reps K W xs.dropLast vs.dropLast := by
  rw [List.dropLast_eq_take, List.dropLast_eq_take, r.length]; exact r.take _
theorem m_pop : MtR X "list.pop" (rMt (gx X) mPop) := by
  intro pins s σ H x xs v us Q I rx rs ⟨W, st, px, pxs, r, s', r1, r2, hs, e, hc⟩
  unfold mPop at e
  split at e <;> try (cases e; done)
  rename_i n ys e1
  split at e <;> cases e
  rename_i y hy
  obtain ⟨a, vs, rfl, ha, ho, h1, h2⟩ := mlst_ok hs r1 e1
  cases r2
  rw [List.getLast?_eq_getElem?] at hy
  obtain ⟨u, hu, q⟩ := h2.get hy
  exact mt_pop pins s σ H _ _ v us Q I rx rs ⟨a, vs, u, rfl, rfl, h1, by rw [← h2.length]; exact hu, hc.here (put_lst hs ha ho h2.dropLast) q⟩
def mPopAt : OM := fun x xs s =>
  match mlst s x, xs with
  | some (n, ys), [.int i] => if -(2 ^ 63) ≤ i ∧ i < 2 ^ 63 then match seqIndex? i ys.length with
      | some k => match ys[k]? with
        | some y => some (y, s.set n (.lst (ys.eraseIdx k)))
        | none => none
      | none => none
    else none
  | _, _ => none
theorem Reps.erase {K : PySem.W.Frag} {W : Wd} : ∀ {xs : List PV} {vs : List V} (k : Nat), Reps K W xs vs → Reps K W (xs.eraseIdx k) (vs.eraseIdx k)
  | _, _, _, .nil => .nil
  | _, _, 0, .cons _ t => t
  | _, _, k + 1, .cons h t => .cons h (Reps.erase k t)
theorem m_popAt : MtR X "list.pop" (rMt (gx X) mPopAt) := by
  intro pins s σ H x xs v us Q I rx rs ⟨W, st, px, pxs, r, s', r1, r2, hs, e, hc⟩
  unfold mPopAt at e
  split at e <;> try (cases e; done)
  rename_i n ys i e1
  split at e <;> try (cases e; done)
  rename_i hi
  split at e <;> try (cases e; done)
  rename_i k hk
  split at e <;> cases e
  rename_i y hy
  obtain ⟨a, vs, rfl, ha, ho, h1, h2⟩ := mlst_ok hs r1 e1
  obtain ⟨w, rfl, q0⟩ := r2.one
  cases q0
  obtain ⟨u, hu, q⟩ := h2.get hy
  exact mt_popAt pins s σ H _ _ v us Q I rx rs ⟨a, vs, i, k, u, rfl, rfl, h1, hi.1, hi.2, by rw [← h2.length]; exact hk, hu, hc.here (put_lst hs ha ho (h2.erase k)) q⟩
def mExtend : OM := fun x xs s =>
  match mlst s x, xs with
  | some (n, ys), [y] => match lsOf s y with
    | some zs => if ys.length + zs.length ≤ 16000000 then some (.non, s.set n (.lst (ys ++ zs))) else none
    | none => none
  | _, _ => none
theorem m_extend : MtR X "list.extend" (rMt (gx X) mExtend) := by
  intro pins s σ H x xs v us Q I rx rs ⟨W, st, px, pxs, r, s', r1, r2, hs, e, hc⟩
  unfold mExtend at e
  split at e <;> try (cases e; done)
  rename_i n ys y e1
  split at e <;> try (cases e; done)
  rename_i zs e2
  split at e <;> cases e
  rename_i hz
  obtain ⟨a, vs, rfl, ha, ho, h1, h2⟩ := mlst_ok hs r1 e1
  obtain ⟨u, rfl, q⟩ := r2.one
  obtain ⟨b, us', rfl, h3, h4⟩ := lsOf_ok hs q e2
  refine mt_extend pins s σ H _ _ v us Q I rx rs ⟨a, b, vs, us', rfl, rfl, h1, h3, ?_, hc.here (put_lst hs ha ho (h2.append h4)) .non⟩
  rw [← h2.length, ← h4.length]; exact big_line hz
/-- join of a list of texts -/
def mJoin : OM := fun x xs s =>
  match x, xs with
  | .str a, [y] => match sqOf s y with
    | some zs => match strsOf zs with
      | some ts => if (ts.map (·.length)).sum + ts.length * a.length ≤ 16000000 then some (.str (Txt.join a ts), s) else none
      | none => none
    | none => none
  | _, _ => none
theorem m_join : MtR X "str.join" (rMt (gx X) mJoin) := by
  intro pins s σ H x xs v us Q I rx rs ⟨W, st, px, pxs, r, s', r1, r2, hs, e, hc⟩
  unfold mJoin at e
  split at e <;> try (cases e; done)
  split at e <;> try (cases e; done)
  rename_i zs e1
  split at e <;> try (cases e; done)
  rename_i ts e2
  split at e <;> cases e
  rename_i hz
  cases r1
  obtain ⟨u, rfl, q⟩ := r2.one
  obtain ⟨b, us', rfl, h3, h4⟩ := sqOf_ok hs q e1
  rw [strsOf_ok h4 e2] at h3
  exact mt_join pins s σ H _ _ v us Q I rx rs ⟨_, b, ts, rfl, rfl, h3, by omega, hc.here hs (.str _)⟩
def mUpper : OM := fun x xs s =>
  match x, xs with
  | .str a, [] => if a.length ≤ 5592405 then some (.str (Txt.upper a), s) else none
  | _, _ => none
theorem m_upper : MtR X "str.upper" (rMt (gx X) mUpper) := by
  intro pins s σ H x xs v us Q I rx rs ⟨W, st, px, pxs, r, s', r1, r2, hs, e, hc⟩
  unfold mUpper at e
  split at e <;> try (cases e; done)
  split at e <;> cases e
  rename_i hz
  cases r1; cases r2
  exact mt_upper pins s σ H _ _ v us Q I rx rs ⟨_, rfl, rfl, hz, hc.here hs (.str _)⟩
def mEndswith : OM := fun x xs s =>
  match x, xs with
  | .str a, [.str b] => some (.bl (Txt.endswith a b), s)
  | _, _ => none
theorem m_endswith : MtR X "str.endswith" (rMt (gx X) mEndswith) := by
  intro pins s σ H x xs v us Q I rx rs ⟨W, st, px, pxs, r, s', r1, r2, hs, e, hc⟩
  unfold mEndswith at e
  split at e <;> try (cases e; done)
  cases e
  cases r1
  obtain ⟨u, rfl, q⟩ := r2.one
  cases q
  exact mt_endswith pins s σ H _ _ v us Q I rx rs ⟨_, _, rfl, rfl, hc.here hs (.bl _)⟩

/-! ### dicts with int and text keys -/
def kP : PV → Option Key
  | .int i => some (.inl i)
  | .str x => some (.inr x)
  | _ => none
theorem kP_ok {K : PySem.W.Frag} {W : Wd} {x : PV} {v : V} {k : Key} (r : Rep K W x v) (e : kP x = some k) : v = kV k := by
  cases r <;> first | (cases e; rfl) | cases e
def valP (kvs : List (Key × PV)) (k : Key) : Option PV := (kvs.find? fun kv => decide (kv.1 = k)).map (·.2)
def putP (kvs : List (Key × PV)) (k : Key) (v : PV) : List (Key × PV) :=
  if kvs.any (fun kv => decide (kv.1 = k)) then kvs.map fun kv => if kv.1 = k then (kv.1, v) else kv else kvs ++ [(k, v)]
theorem KReps.val {K : PySem.W.Frag} {W : Wd} : ∀ {xs : List (Key × PV)} {vs : List (Key × V)} (k : Key), KReps K W xs vs → (∀ x, valP xs k = some x → ∃ v, valV vs k = some v ∧ Rep K W x v) ∧ (valP xs k = none → valV vs k = none)
  | _, _, k, .nil => ⟨fun x e => (by cases e), fun _ => rfl⟩
  | _, _, k, .cons (k := j) (x := y) (v := u) (xs := xs) (vs := vs) h t => by
    have ih := KReps.val k t
    by_cases e : j = k
    · have e1 : valP ((j, y) :: xs) k = some y := by unfold valP; rw [List.find?_cons]; simp [e]
      have e2 : valV ((j, u) :: vs) k = some u := by unfold valV; rw [List.find?_cons]; simp [e]
      rw [e1, e2]
      exact ⟨fun x q => (by cases q; exact ⟨u, rfl, h⟩), fun q => (by cases q)⟩
    · have e1 : valP ((j, y) :: xs) k = valP xs k := by unfold valP; rw [List.find?_cons]; simp [e]
      have e2 : valV ((j, u) :: vs) k = valV vs k := by unfold valV; rw [List.find?_cons]; simp [e]
      rw [e1, e2]; exact ih
theorem KReps.any {K : PySem.W.Frag} {W : Wd} {k : Key} : ∀ {xs : List (Key × PV)} {vs : List (Key × V)}, KReps K W xs vs → (xs.any fun kv => decide (kv.1 = k)) = vs.any fun kv => decide (kv.1 = k)
  | _, _, .nil => rfl
  | _, _, .cons h t => by rw [List.any_cons, List.any_cons, KReps.any t]
theorem KReps.mapAt {K : PySem.W.Frag} {W : Wd} {k : Key} {y : PV} {u : V} (q : Rep K W y u) : ∀ {xs : List (Key × PV)} {vs : List (Key × V)}, KReps K W xs vs → KReps K W (xs.map fun kv => if kv.1 = k then (kv.1, y) else kv) (vs.map fun kv => if kv.1 = k then (kv.1, u) else kv)
  | _, _, .nil => .nil
  | _, _, .cons (k := j) h t => by
    rw [List.map_cons, List.map_cons]
    by_cases e : j = k
    · rw [if_pos e, if_pos e]; exact .cons q (KReps.mapAt q t)
    · rw [if_neg e, if_neg e]; exact .cons h (KReps.mapAt q t)
theorem KReps.snoc {K : PySem.W.Frag} {W : Wd} {k : Key} {y : PV} {u : V} (q : Rep K W y u) : ∀ {xs : List (Key × PV)} {vs : List (Key × V)}, KReps K W xs vs → KReps K W (xs ++ [(k, y)]) (vs ++ [(k, u)])
  | _, _, .nil => .cons q .nil
  | _, _, .cons h t => .cons h (KReps.snoc q t)
theorem KReps.put {K : PySem.W.Frag} {W : Wd} {xs : List (Key × PV)} {vs : List (Key × V)} (r : KReps K W xs vs) (k : Key) {y : PV} {u : V} (q : Rep K W y u) : KReps K W (putP xs k y) (putK vs k u) := by
  unfold putP putK
  rw [r.any]
  by_cases h : (vs.any fun kv => decide (kv.1 = k)) = true
  · rw [if_pos h, if_pos h]; exact r.mapAt q
  · rw [if_neg h, if_neg h]; exact r.snoc q
/-- a dict's pairs -/
def dcOf (s : S) (x : PV) : Option (List (Key × PV)) :=
  match x with
  | .dic kvs => some kvs
  | .obj n => match s[n]? with
    | some (.dic kvs) => some kvs
    | _ => none
  | _ => none
theorem dcOf_ok {g : G} {W : Wd} {H : Hp} {s : S} {x : PV} {v : V} {kvs : List (Key × PV)} (hs : StR g W H s) (r : Rep g.K W x v) (e : dcOf s x = some kvs) : ∃ a ws, v = .ref a ∧ H a = some (.dK ws) ∧ KReps g.K W kvs ws := by
  cases r with
  | dic h q => cases e; exact ⟨_, _, rfl, hs.fro _ _ h, q⟩
  | obj h =>
    rename_i a n
    have e' : (match s[n]? with | some (.dic xs) => some xs | _ => none) = some kvs := e
    cases hn : s[n]? with
    | none => rw [hn] at e'; cases e'
    | some o =>
      rw [hn] at e'
      have q := hs.obj h hn
      cases o with
      | dic ys => cases e'; cases q with | dic h1 q => exact ⟨_, _, rfl, h1, q⟩
      | _ => cases e'
  | _ => cases e
def oDGet : O2 := fun x y s =>
  match dcOf s x, kP y with
  | some kvs, some k => match valP kvs k with
    | some v => some (v, s)
    | none => none
  | _, _ => none
theorem se_dget (hu : X.A.units + 1 < cLine) (ha : PE X a (tE (gx X) Ex ma)) (hb : PE X b (tE (gx X) Ex mb)) (hp : NoSl b := by exact fun _ _ => rfl) : PE X (.Subscript a b pos) (tE (gx X) Ex (eOp oDGet ma mb)) := by
  refine pe_weak (pe_dget hu ha hb hp) fun σ H Q ⟨W, s, env, he, hs, h⟩ => ?_
  refine tE_bind he hs h fun x s1 W1 H1 u l1 he1 hs1 r1 h1 => ?_
  refine tE_bind he1 hs1 h1 fun y s2 W2 H2 u2 l2 he2 hs2 r2 h2 => ?_
  obtain ⟨v, s', e, hc⟩ := h2.lift
  unfold oDGet at e
  split at e <;> try (cases e; done)
  rename_i kvs k e1 e2
  split at e <;> cases e
  rename_i e3
  obtain ⟨a, ws, rfl, h3, h4⟩ := dcOf_ok hs2 (r1.mono l2) e1
  obtain ⟨w, h5, h6⟩ := (h4.val k).1 _ e3
  exact ⟨a, w, rfl, by rw [kP_ok r2 e2, ← h5]; exact DGet.k h3, (hc.mono (l1.trans l2)).here hs2 h6⟩
def oDIn : O2 := fun y x s =>
  match dcOf s x, kP y with
  | some kvs, some k => some (.bl (valP kvs k).isSome, s)
  | _, _ => none
def oDNotIn : O2 := fun y x s =>
  match dcOf s x, kP y with
  | some kvs, some k => some (.bl (!(valP kvs k).isSome), s)
  | _, _ => none
theorem isSome_of {K : PySem.W.Frag} {W : Wd} {xs : List (Key × PV)} {vs : List (Key × V)} (k : Key) (r : KReps K W xs vs) : (valV vs k).isSome = (valP xs k).isSome := by
  cases e : valP xs k with
  | none => rw [(r.val k).2 e]; rfl
  | some x => obtain ⟨v, h, _⟩ := (r.val k).1 x e; rw [h]; rfl
theorem tDIn_of {σ : L2.St} {H : Hp} {Q : VK} (h : tE (gx X) Ex (eOp oDIn ma mb) σ H Q) : tDIn (tE (gx X) Ex ma) (tE (gx X) Ex mb) σ H Q := by
  obtain ⟨W, s, env, he, hs, h⟩ := h
  refine tE_bind he hs h fun x s1 W1 H1 u l1 he1 hs1 r1 h1 => ?_
  refine tE_bind he1 hs1 h1 fun y s2 W2 H2 u2 l2 he2 hs2 r2 h2 => ?_
  obtain ⟨v, s', e, hc⟩ := h2.lift
  unfold oDIn at e
  split at e <;> try (cases e; done)
  rename_i kvs k e1 e2
  cases e
  obtain ⟨a, ws, rfl, h3, h4⟩ := dcOf_ok hs2 r2 e1
  refine ⟨a, valV ws k, rfl, by rw [kP_ok (r1.mono l2) e2]; exact DGet.k h3, ?_⟩
  rw [isSome_of k h4]
  exact (hc.mono (l1.trans l2)).here hs2 (.bl _)
theorem tDNotIn_of {σ : L2.St} {H : Hp} {Q : VK} (h : tE (gx X) Ex (eOp oDNotIn ma mb) σ H Q) : tDNotIn (tE (gx X) Ex ma) (tE (gx X) Ex mb) σ H Q := by
  obtain ⟨W, s, env, he, hs, h⟩ := h
  refine tE_bind he hs h fun x s1 W1 H1 u l1 he1 hs1 r1 h1 => ?_
  refine tE_bind he1 hs1 h1 fun y s2 W2 H2 u2 l2 he2 hs2 r2 h2 => ?_
  obtain ⟨v, s', e, hc⟩ := h2.lift
  unfold oDNotIn at e
  split at e <;> try (cases e; done)
  rename_i kvs k e1 e2
  cases e
  obtain ⟨a, ws, rfl, h3, h4⟩ := dcOf_ok hs2 r2 e1
  refine ⟨a, valV ws k, rfl, by rw [kP_ok (r1.mono l2) e2]; exact DGet.k h3, ?_⟩
  rw [isSome_of k h4]
  exact (hc.mono (l1.trans l2)).here hs2 (.bl _)
theorem se_din (hu : X.A.units + 1 < cLine) (ha : PE X a (tE (gx X) Ex ma)) (hb : PE X b (tE (gx X) Ex mb)) (hm : behindInMarks .In b = false := by rfl) : PE X (.Compare a [.In] [b] pos) (tE (gx X) Ex (eOp oDIn ma mb)) :=
  pe_weak (pe_cmp (pc_din hu ha hb) hm) fun _ _ _ h => tDIn_of h
theorem st_din (hu : X.A.units + 1 < cLine) (ha : PE X a (tE (gx X) Ex ma)) (hb : PE X b (tE (gx X) Ex mb)) (hm : behindInMarks .In b = false := by rfl) : PT X (.Compare a [.In] [b] pos) (tT (gx X) Ex (tB (eOp oDIn ma mb))) :=
  pt_weak (pt_cmp (pc_din hu ha hb) hm) fun _ _ _ h => tDIn_of (tE_bl h)
theorem se_dnotin (hu : X.A.units + 1 < cLine) (ha : PE X a (tE (gx X) Ex ma)) (hb : PE X b (tE (gx X) Ex mb)) (hm : behindInMarks .NotIn b = false := by rfl) : PE X (.Compare a [.NotIn] [b] pos) (tE (gx X) Ex (eOp oDNotIn ma mb)) :=
  pe_weak (pe_cmp (pc_dnotin hu ha hb) hm) fun _ _ _ h => tDNotIn_of h
theorem st_dnotin (hu : X.A.units + 1 < cLine) (ha : PE X a (tE (gx X) Ex ma)) (hb : PE X b (tE (gx X) Ex mb)) (hm : behindInMarks .NotIn b = false := by rfl) : PT X (.Compare a [.NotIn] [b] pos) (tT (gx X) Ex (tB (eOp oDNotIn ma mb))) :=
  pt_weak (pt_cmp (pc_dnotin hu ha hb) hm) fun _ _ _ h => tDNotIn_of (tE_bl h)
/-- a mutable dict of the store -/
def mdic (s : S) (x : PV) : Option (Nat × List (Key × PV)) :=
  match x with
  | .obj n => match s[n]? with
    | some (.dic xs) => some (n, xs)
    | _ => none
  | _ => none
theorem mdic_ok {g : G} {W : Wd} {H : Hp} {s : S} {x : PV} {v : V} {n : Nat} {xs : List (Key × PV)} (hs : StR g W H s) (r : Rep g.K W x v) (e : mdic s x = some (n, xs)) :
    ∃ a vs, v = .ref a ∧ W.ob[n]? = some a ∧ s[n]? = some (.dic xs) ∧ H a = some (.dK vs) ∧ KReps g.K W xs vs := by
  cases r with
  | obj h =>
    rename_i a m
    have e' : (match s[m]? with | some (.dic xs) => some (m, xs) | _ => none) = some (n, xs) := e
    cases hn : s[m]? with
    | none => rw [hn] at e'; cases e'
    | some o =>
      rw [hn] at e'
      have q := hs.obj h hn
      cases o with
      | dic ys => cases e'; cases q with | dic h1 q => exact ⟨_, _, rfl, h, hn, h1, q⟩
      | _ => cases e'
  | _ => cases e
theorem put_dic {g : G} {W : Wd} {H : Hp} {s : S} {n : Nat} {a : Addr} {xs ys : List (Key × PV)} {vs : List (Key × V)} (hs : StR g W H s) (ha : W.ob[n]? = some a) (ho : s[n]? = some (.dic xs)) (r : KReps g.K W ys vs) : StR g W (upd H a (.dK vs)) (s.set n (.dic ys)) :=
  hs.put ha ho (fun z => by cases z) (.dic upd_same r)
/-- d[k] = v: value, dict, key -/
def sDPut (mv mo mi : EM) : SM := fun env s => (mv env s).bind fun v s1 => (mo env s1).bind fun x s2 => (mi env s2).bind fun y s3 =>
  match mdic s3 x, kP y with
  | some (n, kvs), some k => if kvs.length < 16000000 then .ok (.nx env) (s3.set n (.dic (putP kvs k v))) else .fail
  | _, _ => .fail
theorem ss_dput (hu : X.A.units + 1 < cLine) {pos' : Pos} (ho : PE X o (tE (gx X) Ex mo)) (hi : PE X i (tE (gx X) Ex mi)) (hv : PE X value (tE (gx X) Ex mv)) (hsw : swapsWith value (some (.Subscript o i pos')) pos.line X.env = pure false := by rfl) :
    PS X (.Assign [.Subscript o i pos'] value pos) (tS (gx X) Ex (sDPut mv mo mi)) := by
  refine ps_weak (ps_dput hu ho hi hv hsw) fun D σ H ⟨W, s, env, he, hs, h⟩ => ?_
  refine tE_bind he hs h fun v s1 W1 H1 u l1 he1 hs1 r1 h1 => ?_
  refine tE_bind he1 hs1 h1 fun x s2 W2 H2 u2 l2 he2 hs2 r2 h2 => ?_
  refine tE_bind he2 hs2 h2 fun y s3 W3 H3 u3 l3 he3 hs3 r3 h3 => ?_
  split at h3 <;> try (exact h3.elim)
  rename_i n kvs k e1 e2
  split at h3 <;> try (exact h3.elim)
  rename_i hz
  obtain ⟨a, vs, rfl, ha, ho, h4, h5⟩ := mdic_ok hs3 (r2.mono l3) e1
  refine ⟨a, _, rfl, by rw [kP_ok r3 e2]; exact DPut.k h4 (by rw [← h5.length, sizeLine_eq]; omega), ?_⟩
  exact h3 W3 _ σ ((l1.trans l2).trans l3) (put_dic hs3 ha ho (h5.put k ((r1.mono l2).mono l3))) he3
/-- {} -/
def eDic0 (mu : Bool) : EM := fun _ s => if mu then .ok (.obj s.length) (s ++ [.dic []]) else .ok (.dic []) s
theorem se_dic0 (mu : Bool) : PE X (.Dict [] [] pos) (tE (gx X) Ex (eDic0 mu)) := by
  refine pe_weak pe_dnewK fun σ H Q ⟨W, s, env, he, hs, h⟩ => ?_
  intro p hp
  cases mu with
  | true => exact h ⟨W.fro, W.ob ++ [p], W.hid⟩ _ _ (le_ob p) (hs.alloc hp (.dic upd_same .nil)) (.obj (by rw [← hs.len]; simp))
  | false => exact h ⟨upd W.fro p (.dK []), W.ob, W.hid⟩ _ _ (hs.le_new hp) (hs.new hp) (.dic upd_same .nil)
/-- the pairs of a display -/
abbrev DM := En → S → Rs (List (PV × PV))
def dNil : DM := fun _ s => .ok [] s
def dCons (k v : EM) (r : DM) : DM := fun env s => (k env s).bind fun x s1 => (v env s1).bind fun y s2 => (r env s2).bind fun ps s3 => .ok ((x, y) :: ps) s3
def keys : List (PV × PV) → Option (List (Key × PV))
  | [] => some []
  | (x, y) :: r => match kP x, keys r with
    | some k, some kvs => some ((k, y) :: kvs)
    | _, _ => none
def mergeP (kvs more : List (Key × PV)) : List (Key × PV) := more.foldl (fun acc kv => putP acc kv.1 kv.2) kvs
theorem KReps.merge {K : PySem.W.Frag} {W : Wd} : ∀ {ys : List (Key × PV)} {us : List (Key × V)}, KReps K W ys us → ∀ {xs : List (Key × PV)} {vs : List (Key × V)}, KReps K W xs vs → KReps K W (mergeP xs ys) (mergeK vs us)
  | _, _, .nil => fun r => r
  | _, _, .cons h t => fun r => KReps.merge t (r.put _ h)
def eDisp (mu : Bool) (d : DM) : EM := fun env s => (d env (s ++ [.dic []])).bind fun ps s1 =>
  match s1[s.length]?, keys ps with
  | some (.dic []), some kvs => if kvs.length ≤ 15 then
      (if mu then .ok (.obj s.length) (s1.set s.length (.dic (mergeP [] kvs))) else .ok (.dic (mergeP [] kvs)) (s1.set s.length .dead))
    else .fail
  | _, _ => .fail
/-- what a display's rule asks of its parts -/
inductive PRs (K : PySem.W.Frag) (W : Wd) : List (PV × PV) → List (V × V) → Prop
  | nil : PRs K W [] []
  | cons {x y : PV} {u v : V} {ps : List (PV × PV)} {us : List (V × V)} : Rep K W x u → Rep K W y v → PRs K W ps us → PRs K W ((x, y) :: ps) ((u, v) :: us)
theorem PRs.mono {K : PySem.W.Frag} {W W' : Wd} (l : W.Le W') {ps : List (PV × PV)} {us : List (V × V)} (r : PRs K W ps us) : PRs K W' ps us := by
  induction r with
  | nil => exact .nil
  | cons h1 h2 _ ih => exact .cons (h1.mono l) (h2.mono l) ih
def DOk (g : G) (Ex : XK) (trs : List (TE × TE)) (d : DM) : Prop := ∀ (σ : L2.St) (H : Hp) (W : Wd) (s : S) (env : En) (Q : List (V × V) → Hp → Prop), EnvR g.K W env σ → StR g W H s →
  Post (d env s) (fun ps s' => ∀ W' H' us, W.Le W' → StR g W' H' s' → PRs g.K W' ps us → Q us H') (XW g W Ex) → tPairs trs σ H Q
theorem dok_nil {g : G} : DOk g Ex [] dNil := fun σ H W s env Q he hs h => h W H [] (Wd.Le.refl W) hs .nil
theorem dok_cons {g : G} {mk mv : EM} {trs : List (TE × TE)} {d : DM} (h : DOk g Ex trs d) : DOk g Ex ((tE g Ex mk, tE g Ex mv) :: trs) (dCons mk mv d) := fun σ H W s env Q he hs q => by
  refine tE_bind he hs q fun x s1 W1 H1 u l1 he1 hs1 r1 h1 => ?_
  refine tE_bind he1 hs1 h1 fun y s2 W2 H2 u2 l2 he2 hs2 r2 h2 => ?_
  refine h σ H2 W2 s2 env _ he2 hs2 (h2.bind.mono (fun ps s3 h3 W3 H3 us l3 hs3 r3 => ?_) fun _ _ _ z => z)
  exact h3 W3 H3 _ ((l1.trans l2).trans l3) hs3 (.cons ((r1.mono l2).mono l3) (r2.mono l3) r3)
theorem keys_ok {K : PySem.W.Frag} {W : Wd} {ps : List (PV × PV)} {us : List (V × V)} (r : PRs K W ps us) : ∀ {kvs : List (Key × PV)}, keys ps = some kvs → ∃ ws, us = ws.map (fun kv => (kV kv.1, kv.2)) ∧ KReps K W kvs ws := by
  induction r with
  | nil => intro kvs e; cases e; exact ⟨[], rfl, .nil⟩
  | cons h1 h2 _ ih =>
    intro kvs e
    unfold keys at e
    split at e <;> cases e
    rename_i k kvs' e1 e2
    obtain ⟨ws, rfl, q⟩ := ih e2
    exact ⟨(k, _) :: ws, by rw [List.map_cons, kP_ok h1 e1], .cons h2 q⟩
theorem se_disp (mu : Bool) {ks : List (Option Expr)} {vs : List Expr} {trs : List (TE × TE)} {d : DM} (h : PPs X pos ks vs trs) (hd : DOk (gx X) Ex trs d) (hall : ks.all (·.isSome) = true := by rfl) (hl : ks.length = vs.length := by rfl) (h0 : ks ≠ [] := by exact fun z => by cases z)
    (h15 : ks.length ≤ 15 := by decide) : PE X (.Dict ks vs pos) (tE (gx X) Ex (eDisp mu d)) := by
  refine pe_weak (pe_disp h hall hl h0 h15) fun σ H Q ⟨W, s, env, he, hs, h⟩ => ?_
  intro p hp
  have l0 : W.Le ⟨W.fro, W.ob ++ [p], W.hid⟩ := le_ob p
  have hs0 := hs.alloc (m := .dic []) hp (.dic upd_same .nil)
  refine hd σ _ ⟨W.fro, W.ob ++ [p], W.hid⟩ _ env _ (he.mono l0) hs0 (h.bind.mono (fun ps s1 h1 W1 H1 us l1 hs1 r1 => ?_) fun _ _ _ z => z.mono l0)
  have hob : W1.ob[s.length]? = some p := l1.at (by rw [← hs.len]; simp)
  split at h1 <;> try (exact h1.elim)
  rename_i kvs e1 e2
  split at h1 <;> try (exact h1.elim)
  rename_i hz
  obtain ⟨ws, rfl, q⟩ := keys_ok r1 e2
  have hp1 : H1 p = some (.dK []) := by
    cases hs1.obj hob e1 with
    | dic h2 h3 => cases h3; exact h2
  refine ⟨hp1, ws, rfl, by rw [← q.length]; exact hz, ?_⟩
  have st2 := hs1.put hob e1 (fun z => by cases z) (o' := .dic (mergeP [] kvs)) (u := .dK (mergeK [] ws)) (.dic upd_same (q.merge .nil))
  cases mu with
  | true => exact h1 W1 _ _ (l0.trans l1) st2 (.obj hob)
  | false =>
    have e3 : (s1.set s.length (.dic (mergeP [] kvs)))[s.length]? = some (.dic (mergeP [] kvs)) := List.getElem?_set_self (List.getElem?_eq_some_iff.mp e1).1
    have st3 := st2.freeze hob e3 (fun z => by cases z) (u := .dK (mergeK [] ws)) upd_same
    have l2 := st2.le_freeze (u := .dK (mergeK [] ws)) hob e3 (fun z => by cases z)
    rw [List.set_set] at st3
    exact h1 _ _ _ ((l0.trans l1).trans l2) st3 (.dic upd_same ((q.merge .nil).mono l2))
end
end Z

set_option Elab.async false
set_option linter.all false
set_option maxRecDepth 100000
set_option maxHeartbeats 4000000
/-! Z7: targets, iterators, statements, loops, list comprehensions. -/
namespace Z
open PySem PySem.Spec L2

/-! ### worlds without the hidden part -/
structure Wd.Lo (W W' : Wd) : Prop where
  fro : Sub W.fro W'.fro
  ob : ∃ m, W'.ob = W.ob ++ m
theorem Wd.Le.lo {W W' : Wd} (l : W.Le W') : W.Lo W' := ⟨l.fro, l.ob⟩
theorem Wd.Lo.trans {W W1 W2 : Wd} (a : W.Lo W1) (b : W1.Lo W2) : W.Lo W2 := by
  obtain ⟨m, e⟩ := a.ob
  obtain ⟨m', e'⟩ := b.ob
  exact ⟨a.fro.trans b.fro, m ++ m', by rw [e', e, List.append_assoc]⟩
theorem Wd.Lo.at {W W' : Wd} (l : W.Lo W') {n : Nat} {a : Addr} (h : W.ob[n]? = some a) : W'.ob[n]? = some a := by
  obtain ⟨m, e⟩ := l.ob
  rw [e, List.getElem?_append_left (List.getElem?_eq_some_iff.mp h).1]; exact h
abbrev Wd.re (W : Wd) (h : Hp) : Wd := ⟨W.fro, W.ob, h⟩
theorem Wd.lo_re (W : Wd) (h : Hp) : W.Lo (W.re h) := ⟨Sub.refl _, [], by simp⟩
theorem Wd.re_lo (W : Wd) (h : Hp) : (W.re h).Lo W := ⟨Sub.refl _, [], by simp⟩
theorem Wd.Lo.le {W W' : Wd} (l : W.Lo W') : W.Le (W'.re W.hid) := ⟨l.fro, rfl, l.ob⟩
section
variable {K : PySem.W.Frag} {W W' : Wd}
mutual
theorem Rep.lo (l : W.Lo W') : ∀ {x : PV} {v : V}, Rep K W x v → Rep K W' x v
  | _, _, .non => .non
  | _, _, .bl b => .bl b
  | _, _, .int i => .int i
  | _, _, .str x => .str x
  | _, _, .tup h r => .tup (l.fro.sqT h) (Reps.lo l r)
  | _, _, .lst h r => .lst (l.fro _ _ h) (Reps.lo l r)
  | _, _, .scr h r => .scr (l.fro.sqL h) (Reps.lo l r)
  | _, _, .dic h r => .dic (l.fro _ _ h) (KReps.lo l r)
  | _, _, .obj h => .obj (l.at h)
theorem Reps.lo (l : W.Lo W') : ∀ {x : List PV} {v : List V}, Reps K W x v → Reps K W' x v
  | _, _, .nil => .nil
  | _, _, .cons r t => .cons (Rep.lo l r) (Reps.lo l t)
theorem KReps.lo (l : W.Lo W') : ∀ {x : List (Key × PV)} {v : List (Key × V)}, KReps K W x v → KReps K W' x v
  | _, _, .nil => .nil
  | _, _, .cons r t => .cons (Rep.lo l r) (KReps.lo l t)
end
theorem FReps.lo (l : W.Lo W') {x : List (Str × PV)} {v : List (Str × V)} (r : FReps K W x v) : FReps K W' x v := by
  induction r with
  | nil => exact .nil
  | cons h _ ih => exact .cons (h.lo l) ih
theorem EnvR.lo {env : En} {σ : St} (h : EnvR K W env σ) (l : W.Lo W') : EnvR K W' env σ :=
  ⟨h.1, fun i v e => let ⟨u, e', r⟩ := h.2 i v e; ⟨u, e', r.lo l⟩⟩
end
section
variable {g : G} {W : Wd} {H : Hp} {s : S}
theorem ORel.lo {W' : Wd} {H' : Hp} {a : Addr} {o : MO} (r : ORel g W H a o) (l : W.Lo W') (e : H' a = H a) : ORel g W' H' a o := by
  cases r with
  | dead => exact .dead
  | lst h q => exact .lst (e.trans h) (q.lo l)
  | dic h q => exact .dic (e.trans h) (q.lo l)
  | ins c h q => exact .ins c (e.trans h) (q.lo l)
/-- a thing that no value leads to changes: h0 the hidden part without it -/
theorem StR.hide {p : Addr} {o : HO} {h0 : Hp} (h : StR g W H s) (hf : W.fro p = none) (ho : ∀ (n : Nat) (a : Addr), W.ob[n]? = some a → a ≠ p) (hs : ∀ b, b ≠ p → W.hid b = h0 b) : StR g (W.re (upd h0 p o)) (upd H p o) s := by
  refine ⟨fun b u e => ?_, h.len, h.nd, fun n a e => ?_, h.off, fun n a o' e e' => ?_, fun b u e => ?_, fun n a e => ?_, fun b q => ?_⟩
  · have : b ≠ p := fun z => by rw [z] at e; rw [show W.fro p = _ from e] at hf; cases hf
    rw [upd_ne this]; exact h.fro _ _ e
  · rw [upd_ne (ho n a e)]; exact h.alive n a e
  · exact (h.has n a o' e e').lo (W.lo_re _) (upd_ne (ho n a e))
  · have e' : upd h0 p o b = some u := e
    by_cases hb : b = p
    · subst hb; rw [upd_same] at e' ⊢; exact e'
    · rw [upd_ne hb] at e' ⊢; exact h.hid _ _ ((hs b hb).trans e')
  · show upd h0 p o a = none
    rw [upd_ne (ho n a e), ← hs a (ho n a e)]; exact h.hno n a e
  · show W.fro b = none
    by_cases hb : b = p
    · rw [hb]; exact hf
    · have q' : upd h0 p o b ≠ none := q
      rw [upd_ne hb, ← hs b hb] at q'
      exact h.hnf b q'
/-- .. it is from here on a thing that stands for ever -/
theorem StR.show {p : Addr} {o : HO} {h0 : Hp} (h : StR g W H s) (hh : W.hid = upd h0 p o) (h0p : h0 p = none) : StR g ⟨upd W.fro p o, W.ob, h0⟩ H s := by
  have hp : H p = some o := h.hid p o (by rw [hh, upd_same])
  have ho : ∀ (n : Nat) (a : Addr), W.ob[n]? = some a → a ≠ p := fun n a e z => by
    have := h.hno n a e
    rw [z, hh, upd_same] at this; cases this
  have hf : W.fro p = none := h.hnf p (by rw [hh, upd_same]; simp)
  have lo : W.Lo ⟨upd W.fro p o, W.ob, h0⟩ := ⟨Sub.upd hf, [], by simp⟩
  refine ⟨fun b u e => ?_, h.len, h.nd, h.alive, fun n a o' e e' d => ?_, fun n a o' e e' => (h.has n a o' e e').lo lo rfl, fun b u e => ?_, fun n a e => ?_, fun b q => ?_⟩
  · have e' : upd W.fro p o b = some u := e
    by_cases hb : b = p
    · subst hb; rw [upd_same] at e'; rw [hp]; exact e'
    · rw [upd_ne hb] at e'; exact h.fro _ _ e'
  · show upd W.fro p o a = none
    rw [upd_ne (ho n a e)]; exact h.off n a o' e e' d
  · refine h.hid b u ?_
    have e' : h0 b = some u := e
    have : b ≠ p := fun z => by rw [z, h0p] at e'; cases e'
    rw [hh, upd_ne this]; exact e'
  · show h0 a = none
    have := h.hno n a e
    rwa [hh, upd_ne (ho n a e)] at this
  · show upd W.fro p o b = none
    have hb : b ≠ p := fun z => q (by show h0 b = none; rw [z]; exact h0p)
    rw [upd_ne hb]
    refine h.hnf b ?_
    rw [hh, upd_ne hb]; exact q
/-- .. or a mutable one -/
theorem StR.showO {p : Addr} {o : HO} {h0 : Hp} {m : MO} (h : StR g W H s) (hh : W.hid = upd h0 p o) (h0p : h0 p = none) (r : ORel g ⟨W.fro, W.ob ++ [p], h0⟩ H p m) : StR g ⟨W.fro, W.ob ++ [p], h0⟩ H (s ++ [m]) := by
  have hp : H p = some o := h.hid p o (by rw [hh, upd_same])
  have ho : ∀ (n : Nat) (a : Addr), W.ob[n]? = some a → a ≠ p := fun n a e z => by
    have := h.hno n a e
    rw [z, hh, upd_same] at this; cases this
  have hf : W.fro p = none := h.hnf p (by rw [hh, upd_same]; simp)
  have lo : W.Lo ⟨W.fro, W.ob ++ [p], h0⟩ := ⟨Sub.refl _, [p], rfl⟩
  have key : ∀ {n : Nat} {a : Addr} {o' : MO}, (W.ob ++ [p])[n]? = some a → (s ++ [m])[n]? = some o' → (W.ob[n]? = some a ∧ s[n]? = some o') ∨ (a = p ∧ o' = m) := by
    intro n a o' e e'
    have hl := h.len
    rcases get_append_one e with q | ⟨q1, q2⟩
    · have : n < s.length := by rw [← hl]; exact (List.getElem?_eq_some_iff.mp q).1
      rw [List.getElem?_append_left this] at e'
      exact .inl ⟨q, e'⟩
    · rcases get_append_one e' with q' | ⟨_, q'⟩
      · have := (List.getElem?_eq_some_iff.mp q').1
        omega
      · exact .inr ⟨q2, q'⟩
  refine ⟨h.fro, by simp [h.len], ?_, fun n a e => ?_, fun n a o' e e' d => ?_, fun n a o' e e' => ?_, fun b u e => ?_, fun n a e => ?_, fun b q => ?_⟩
  · refine List.nodup_append.mpr ⟨h.nd, by simp, fun a ha b hb => ?_⟩
    obtain ⟨n, hn⟩ := List.getElem?_of_mem ha
    have : b = p := by simpa using hb
    rw [this]; exact ho n a hn
  · rcases get_append_one e with q | ⟨_, q⟩
    · exact h.alive n a q
    · rw [q, hp]; simp
  · rcases key e e' with ⟨q, q'⟩ | ⟨q, _⟩
    · exact h.off n a o' q q' d
    · rw [q]; exact hf
  · rcases key e e' with ⟨q, q'⟩ | ⟨q, q'⟩
    · exact (h.has n a o' q q').lo lo rfl
    · rw [q, q']; exact r
  · refine h.hid b u ?_
    have e' : h0 b = some u := e
    have : b ≠ p := fun z => by rw [z, h0p] at e'; cases e'
    rw [hh, upd_ne this]; exact e'
  · show h0 a = none
    rcases get_append_one e with q | ⟨_, q⟩
    · have := h.hno n a q
      rwa [hh, upd_ne (ho n a q)] at this
    · rw [q]; exact h0p
  · have hb : b ≠ p := fun z => q (by show h0 b = none; rw [z]; exact h0p)
    show W.fro b = none
    refine h.hnf b ?_
    rw [hh, upd_ne hb]; exact q
end

/-! ### targets -/
def Same (ix : List Nat) (σ σ' : St) : Prop := σ'.length = σ.length ∧ ∀ j, j ∉ ix → σ'[j]? = σ[j]?
theorem Same.refl (ix : List Nat) (σ : St) : Same ix σ σ := ⟨rfl, fun _ _ => rfl⟩
theorem Same.trans {ix ix' : List Nat} {σ σ' σ'' : St} (a : Same ix σ σ') (b : Same ix' σ' σ'') : Same (ix ++ ix') σ σ'' :=
  ⟨b.1.trans a.1, fun j h => by
    have : j ∉ ix ∧ j ∉ ix' := by simpa [not_or] using h
    rw [b.2 j this.2, a.2 j this.1]⟩
theorem wipe_in {σ : St} {i : Nat} : ∀ {vs : List Nat}, i ∈ vs → i < σ.length → (wipe σ vs)[i]? = some none
  | v :: vs, h, hl => by
    unfold wipe
    by_cases hi : v = i
    · subst hi; rw [List.getElem?_set_self (by rw [wipe_length]; exact hl)]
    · rw [List.getElem?_set_ne hi]
      rcases List.mem_cons.mp h with q | q
      · exact absurd q.symm hi
      · exact wipe_in q hl
theorem Same.wipe {ix vs : List Nat} {σ σ' : St} (h : Same ix σ σ') (hv : ∀ i ∈ ix, i ∈ vs) : wipe σ' vs = wipe σ vs := by
  refine List.ext_getElem? fun j => ?_
  by_cases hj : j ∈ vs
  · by_cases hl : j < σ.length
    · rw [wipe_in hj hl, wipe_in hj (by rw [h.1]; exact hl)]
    · rw [List.getElem?_eq_none (by rw [wipe_length, h.1]; omega), List.getElem?_eq_none (by rw [wipe_length]; omega)]
  · rw [wipe_out hj, wipe_out hj]
    exact h.2 j fun q => hj (hv j q)
abbrev GM := PV → En → S → Option En
abbrev GMs := List PV → En → S → Option En
def mName (i : Nat) : GM := fun x env _ => some (env.set i (some x))
def mNil : GMs := fun xs env _ =>
  match xs with
  | [] => some env
  | _ => none
def mCons (t : GM) (u : GMs) : GMs := fun xs env s =>
  match xs with
  | [] => none
  | x :: r => (t x env s).bind fun env' => u r env' s
def mTup (t : GMs) : GM := fun x env s =>
  match x with
  | .tup xs => t xs env s
  | _ => none
def tG (g : G) (ix : List Nat) (m : GM) : TG := fun v σ H Q => ∃ W s env px env', EnvR g.K W env σ ∧ StR g W H s ∧ Rep g.K W px v ∧ m px env s = some env' ∧ ∀ σ', EnvR g.K W env' σ' → Same ix σ σ' → Q σ' H
def tGs (g : G) (ix : List Nat) (n : Nat) (m : GMs) : TGs := fun vs σ H Q => ∃ W s env pxs env', EnvR g.K W env σ ∧ StR g W H s ∧ Reps g.K W pxs vs ∧ m pxs env s = some env' ∧ ∀ σ', EnvR g.K W env' σ' → Same ix σ σ' → Q σ' H
section
variable {X : Cx} {pos : Pos}
theorem pg_weak {e : Expr} {t t' : TG} (h : PG X e t) (w : ∀ v σ H Q, t' v σ H Q → t v σ H Q) : PG X e t' := ⟨fun pins s σ H v u Q I r q => h.run pins s σ H v u Q I r (w v σ H Q q)⟩
theorem pgs_weak {e : List Expr} {t t' : TGs} (h : PGs X e t) (w : ∀ v σ H Q, t' v σ H Q → t v σ H Q) : PGs X e t' := ⟨fun pins s σ H v u Q I r q => h.run pins s σ H v u Q I r (w v σ H Q q)⟩
theorem sg_name {i : Nat} {x : Str} (hN : X.N.Nodup) (hi : X.N[i]? = some x) (hx : Loc X.env.scope x) (hf : X.fn x = true ∨ X.env.scope.names.lookup x = some .local) : PG X (.Name x pos) (tG (gx X) [i] (mName i)) := by
  refine pg_weak (pg_name hN hi hx hf) fun v σ H Q ⟨W, s, env, px, env', he, hs, r, e, h⟩ => ?_
  cases e
  refine h _ (he.set i r) ⟨by simp, fun j hj => ?_⟩
  rw [List.getElem?_set_ne (fun q => hj (by simp [q]))]
theorem sgs_nil : PGs X [] (tGs (gx X) [] 0 mNil) := by
  refine pgs_weak pgs_nil fun v σ H Q ⟨W, s, env, px, env', he, hs, r, e, h⟩ => ?_
  cases px with
  | nil => cases r; cases e; exact ⟨rfl, h σ he (Same.refl _ _)⟩
  | cons _ _ => cases e
theorem sgs_cons {e : Expr} {es : List Expr} {t : GM} {u : GMs} {ix ix' : List Nat} {n : Nat} (h1 : PG X e (tG (gx X) ix t)) (h2 : PGs X es (tGs (gx X) ix' n u))
    (hs : (assignEach (e :: es) X.env).map (·.2) = assign e X.env :: (assignEach es X.env).map (·.2) := by rfl) : PGs X (e :: es) (tGs (gx X) (ix ++ ix') (n + 1) (mCons t u)) := by
  refine pgs_weak (pgs_cons h1 h2 hs) fun v σ H Q ⟨W, s, env, px, env', he, hs, r, e, h⟩ => ?_
  cases px with
  | nil => cases e
  | cons x xs =>
    cases r with
    | cons r0 rr =>
      have e' : ((t x env s).bind fun env' => u xs env' s) = some env' := e
      obtain ⟨e1, q1, q2⟩ := Option.bind_eq_some_iff.mp e'
      exact ⟨_, _, rfl, W, s, env, x, e1, he, hs, r0, q1, fun σ1 he1 m1 => ⟨W, s, e1, xs, env', he1, hs, rr, q2, fun σ2 he2 m2 => h σ2 he2 (m1.trans m2)⟩⟩
theorem mlen {g : G} {ix : List Nat} {n : Nat} {m : GMs} {vs : List V} {σ : St} {H : Hp} {Q : St → Hp → Prop} (h : tGs g ix n m vs σ H Q) : True := trivial
/-- n targets take n items -/
def Arity (n : Nat) (m : GMs) : Prop := ∀ xs env s env', m xs env s = some env' → xs.length = n
theorem ar_nil : Arity 0 mNil := fun xs env s env' e => by cases xs with | nil => rfl | cons _ _ => cases e
theorem ar_cons {t : GM} {u : GMs} {n : Nat} (h : Arity n u) : Arity (n + 1) (mCons t u) := fun xs env s env' e => by
  cases xs with
  | nil => cases e
  | cons x r =>
    have e' : ((t x env s).bind fun env' => u r env' s) = some env' := e
    obtain ⟨e1, q1, q2⟩ := Option.bind_eq_some_iff.mp e'
    simp [h r e1 s env' q2]
theorem sg_tup {es : List Expr} {k : Nat} {t : GMs} {n : Nat} {ix : List Nat} (hc : X.calm = true) (h : PGs X es (tGs (gx X) ix n t)) (ha : Arity n t)
    (hn : (assignEach es X.env).length = n := by rfl) (hst : (assignEach es X.env).findIdx? (·.1) = none := by rfl) : PG X (.Tuple es k pos) (tG (gx X) ix (mTup t)) := by
  refine pg_weak (pg_tup hc h hn hst) fun v σ H Q ⟨W, s, env, px, env', he, hs, r, e, hq⟩ => ?_
  cases px with
  | tup xs =>
    cases r with
    | tup q rr => exact ⟨_, _, rfl, tup_sq hs q, by rw [← rr.length]; exact ha xs env s env' e, W, s, env, xs, env', he, hs, rr, e, hq⟩
  | _ => cases e
end

/-! ### iterators -/
/-- a mutable list that is walked, its items at the start -/
abbrev Ck := Option (Nat × List PV)
def ckOk (c : Ck) (s : S) : Prop :=
  match c with
  | none => True
  | some (n, xs) => s[n]? = some (.lst xs)
abbrev IM := En → S → Rs (List PV × Ck)
def ItOf (g : G) (W : Wd) (J : It) (xs : List PV) (c : Ck) : Prop := ∀ i W' H' s, W.Lo W' → StR g W' H' s → ckOk c s →
  (i < xs.length → J.go i H' ∧ ∀ x H'', J.yld i H' x H'' → ∃ W'', W'.Le W'' ∧ StR g W'' H'' s ∧ ∀ px, xs[i]? = some px → Rep g.K W'' px x) ∧ (xs.length ≤ i → J.stop i H')
def tI (g : G) (Ex : XK) (m : IM) : TI := fun σ H R => ∃ W s env, EnvR g.K W env σ ∧ StR g W H s ∧ Post (m env s) (fun p s' => ∀ W' H' J, W.Le W' → StR g W' H' s' → ItOf g W' J p.1 p.2 → R J H') (XW g W Ex)
def chs (x : Str) : List PV := x.cps.toList.map fun c => .str ⟨#[c]⟩
def itOf (v : PV) (s : S) : Option (List PV × Ck) :=
  match v with
  | .str x => some (chs x, none)
  | .tup xs => some (xs, none)
  | .lst xs => some (xs, none)
  | .scr xs => some (xs, none)
  | .obj n => match s[n]? with
    | some (.lst xs) => some (xs, some (n, xs))
    | _ => none
  | _ => none
def liftI (o : Option (List PV × Ck)) (s : S) : Rs (List PV × Ck) :=
  match o with
  | some p => .ok p s
  | none => .fail
def iAny (m : EM) : IM := fun env s => (m env s).bind fun v s1 => liftI (itOf v s1) s1
def ups (lo : Int) (n : Nat) : List PV := (List.range n).map fun i => .int (lo + (i : Nat))
def iR1 (m : AM) : IM := fun env s => (m env s).bind fun vs s1 =>
  match vs with
  | [.int j] => if j < 4000000000000000000 ∧ -4000000000000000000 < j then .ok (ups 0 j.toNat, none) s1 else .fail
  | _ => .fail
def iR2 (m : AM) : IM := fun env s => (m env s).bind fun vs s1 =>
  match vs with
  | [.int i, .int j] => if (j < 4000000000000000000 ∧ -4000000000000000000 < j) ∧ (i < 4000000000000000000 ∧ -4000000000000000000 < i) then .ok (ups i (j - i).toNat, none) s1 else .fail
  | _ => .fail
def nums (xs : List PV) : List PV := xs.mapIdx fun i x => .tup [.int (i : Nat), x]
def lsCk (s : S) (v : PV) : Option (List PV × Ck) :=
  match v with
  | .lst xs => some (xs, none)
  | .scr xs => some (xs, none)
  | .obj n => match s[n]? with
    | some (.lst xs) => some (xs, some (n, xs))
    | _ => none
  | _ => none
def iEn (m : AM) : IM := fun env s => (m env s).bind fun vs s1 =>
  match vs with
  | [v] => liftI ((lsCk s1 v).map fun p => (nums p.1, p.2)) s1
  | _ => .fail

section
variable {X : Cx} {Ex : XK} {g : G} {W : Wd} {tg : Expr}
theorem scr_list {H : Hp} {s : S} {v : PV} {u : V} {xs : List PV} {c : Ck} (hs : StR g W H s) (r : Rep g.K W v u) (e : lsCk s v = some (xs, c)) : ∃ a, u = .ref a ∧ (∃ vs, SqL g.K H a vs) ∧ ckOk c s ∧
    ∀ W' H' s', W.Lo W' → StR g W' H' s' → ckOk c s' → ∃ vs, SqL g.K H' a vs ∧ Reps g.K W' xs vs := by
  cases r with
  | lst h q => cases e; exact ⟨_, rfl, ⟨_, .inl (.inl (hs.fro _ _ h))⟩, trivial, fun W' H' s' l hs' _ => ⟨_, .inl (.inl (hs'.fro _ _ (l.fro _ _ h))), q.lo l⟩⟩
  | scr h q => cases e; exact ⟨_, rfl, ⟨_, hs.fro.sqL h⟩, trivial, fun W' H' s' l hs' _ => ⟨_, (l.fro.trans hs'.fro).sqL h, q.lo l⟩⟩
  | obj h =>
    rename_i a n
    have e' : (match s[n]? with | some (.lst xs) => some (xs, some (n, xs)) | _ => none) = some (xs, c) := e
    cases hn : s[n]? with
    | none => rw [hn] at e'; cases e'
    | some o =>
      rw [hn] at e'
      cases o with
      | lst ys =>
        cases e'
        cases hs.obj h hn with
        | lst h1 q => exact ⟨a, rfl, ⟨_, .inl (.inl h1)⟩, hn, fun W' H' s' l hs' ck => by
            cases hs'.obj (l.at h) ck with
            | lst h2 q2 => exact ⟨_, .inl (.inl h2), q2⟩⟩
      | _ => cases e'
  | _ => cases e
theorem it_list {a : Addr} {xs : List PV} {c : Ck} (h : ∀ W' H' s', W.Lo W' → StR g W' H' s' → ckOk c s' → ∃ vs, SqL g.K H' a vs ∧ Reps g.K W' xs vs) : ItOf g W (Itl g.K a) xs c := by
  intro i W' H' s' l hs' ck
  obtain ⟨vs, hq, r⟩ := h W' H' s' l hs' ck
  refine ⟨fun hi => ?_, fun hi => ⟨vs, hq, by rw [← r.length]; exact hi⟩⟩
  obtain ⟨v, e, rv⟩ := r.get (List.getElem?_eq_getElem hi)
  refine ⟨⟨vs, v, hq, e⟩, fun x H'' y => ?_⟩
  obtain ⟨rfl, y⟩ := y
  have := y vs hq
  rw [e] at this; cases this
  refine ⟨W', Wd.Le.refl _, hs', fun px e' => ?_⟩
  rw [List.getElem?_eq_getElem hi] at e'; cases e'
  exact rv
theorem it_tup {a : Addr} {xs : List PV} {vs : List V} (h : SqT g.K W.fro a vs) (r : Reps g.K W xs vs) : ItOf g W (Itt g.K a) xs none := by
  intro i W' H' s' l hs' ck
  have hq : SqT g.K H' a vs := (l.fro.trans hs'.fro).sqT h
  have r := r.lo l
  refine ⟨fun hi => ?_, fun hi => ⟨vs, hq, by rw [← r.length]; exact hi⟩⟩
  obtain ⟨v, e, rv⟩ := r.get (List.getElem?_eq_getElem hi)
  refine ⟨⟨vs, v, hq, e⟩, fun x H'' y => ?_⟩
  obtain ⟨rfl, y⟩ := y
  have := y vs hq
  rw [e] at this; cases this
  refine ⟨W', Wd.Le.refl _, hs', fun px e' => ?_⟩
  rw [List.getElem?_eq_getElem hi] at e'; cases e'
  exact rv
theorem it_str {x : Str} : ItOf g W (Its x) (chs x) none := by
  intro i W' H' s' l hs' ck
  have hl : (chs x).length = x.cps.size := by simp [chs]
  rw [hl]
  refine ⟨fun hi => ⟨hi, fun v H'' y => ?_⟩, fun hi => hi⟩
  obtain ⟨rfl, c, e, rfl⟩ := y
  refine ⟨W', Wd.Le.refl _, hs', fun px e' => ?_⟩
  have : px = .str ⟨#[c]⟩ := by
    simp only [chs, List.getElem?_map, Array.getElem?_toList] at e'
    rw [e] at e'
    exact (Option.some.inj e').symm
  rw [this]; exact .str _
theorem it_rng {lo : Int} {n : Nat} : ItOf g W (Itr lo n) (ups lo n) none := by
  intro i W' H' s' l hs' ck
  have hl : (ups lo n).length = n := by simp [ups]
  rw [hl]
  refine ⟨fun hi => ⟨hi, fun v H'' y => ?_⟩, fun hi => hi⟩
  obtain ⟨rfl, rfl⟩ := y
  refine ⟨W', Wd.Le.refl _, hs', fun px e' => ?_⟩
  have : px = .int (lo + (i : Nat)) := by
    simp only [ups, List.getElem?_map] at e'
    rw [List.getElem?_range hi] at e'
    exact (Option.some.inj e').symm
  rw [this]; exact .int _
theorem pi_weak {e : Expr} {t t' : TI} (h : PI X tg e t) (w : ∀ σ H R, t' σ H R → t σ H R) : PI X tg e t' := ⟨fun pins s σ H R I q => h.run pins s σ H R I (w σ H R q)⟩
theorem si_any {e : Expr} {m : EM} (he : PE X e (tE (gx X) Ex m)) : PI X tg e (tI (gx X) Ex (iAny m)) := by
  refine ⟨fun pins s σ H R I ⟨W, st, env, hE, hs, h⟩ => ?_⟩
  have hq : ∀ (T : VK), (∀ v s1 W1 H1 u p, m env st = .ok v s1 → W.Le W1 → StR (gx X) W1 H1 s1 → Rep X.K W1 v u → itOf v s1 = some p → (∀ J, ItOf (gx X) W1 J p.1 p.2 → R J H1) → T u H1) → tE (gx X) Ex m σ H T := fun T hT => by
    refine ⟨W, st, env, hE, hs, ?_⟩
    have h1 := h.bind
    cases hm : m env st with
    | ok v s1 =>
      rw [hm] at h1
      have h1 : Post (liftI (itOf v s1) s1) _ _ := h1
      intro W1 H1 u l1 hs1 r1
      cases hi : itOf v s1 with
      | none => rw [hi] at h1; exact h1.elim
      | some p => rw [hi] at h1; exact hT v s1 W1 H1 u p hm l1 hs1 r1 hi fun J q => h1 W1 H1 J l1 hs1 q
    | exc c x s1 => rw [hm] at h1; exact h1
    | fail => rw [hm] at h1; exact h1.elim
  have main : iList X.K (tE (gx X) Ex m) σ H R ∨ iTup X.K (tE (gx X) Ex m) σ H R ∨ iStr (tE (gx X) Ex m) σ H R := by
    cases hm : m env st with
    | ok v s1 =>
      cases v with
      | str x => exact .inr (.inr (hq _ fun v' s1' W1 H1 u p e l1 hs1 r1 hi hJ => by
          rw [hm] at e; cases e; cases hi; cases r1
          exact ⟨x, rfl, hJ _ it_str⟩))
      | tup xs => exact .inr (.inl (hq _ fun v' s1' W1 H1 u p e l1 hs1 r1 hi hJ => by
          rw [hm] at e; cases e; cases hi
          cases r1 with
          | tup h2 r2 => exact ⟨_, rfl, ⟨_, tup_sq hs1 h2⟩, hJ _ (it_tup h2 r2)⟩))
      | lst xs => exact .inl (hq _ fun v' s1' W1 H1 u p e l1 hs1 r1 hi hJ => by
          rw [hm] at e; cases e
          obtain ⟨a, rfl, hx, ck, q⟩ := scr_list (xs := p.1) (c := p.2) hs1 r1 hi
          exact ⟨a, rfl, hx, hJ _ (it_list q)⟩)
      | scr xs => exact .inl (hq _ fun v' s1' W1 H1 u p e l1 hs1 r1 hi hJ => by
          rw [hm] at e; cases e
          obtain ⟨a, rfl, hx, ck, q⟩ := scr_list (xs := p.1) (c := p.2) hs1 r1 hi
          exact ⟨a, rfl, hx, hJ _ (it_list q)⟩)
      | obj n => exact .inl (hq _ fun v' s1' W1 H1 u p e l1 hs1 r1 hi hJ => by
          rw [hm] at e; cases e
          obtain ⟨a, rfl, hx, ck, q⟩ := scr_list (xs := p.1) (c := p.2) hs1 r1 hi
          exact ⟨a, rfl, hx, hJ _ (it_list q)⟩)
      | _ => exact .inl (hq _ fun v' s1' W1 H1 u p e l1 hs1 r1 hi hJ => by rw [hm] at e; cases e; cases hi)
    | exc c x s1 => exact .inl (hq _ fun v' s1' W1 H1 u p e => by rw [hm] at e; cases e)
    | fail => exact .inl (hq _ fun v' s1' W1 H1 u p e => by rw [hm] at e; cases e)
  rcases main with q | q | q
  · exact (pi_list he).run pins s σ H R I q
  · exact (pi_tup he).run pins s σ H R I q
  · exact (pi_str he).run pins s σ H R I q
theorem si_range1 {a : Expr} {m : AM} {p pos : Pos} (hg : Gl X "range") (hm : X.mg "range" = none) (ha : PA X [a] (tA (gx X) Ex m)) (hs : starEach [a] X.env = [(false, eval a X.env)] := by rfl) : PI X tg (.Call (.Name "range" p) [a] [] pos) (tI (gx X) Ex (iR1 m)) := by
  refine pi_weak (pi_range1 hg hm ha hs) fun σ H R ⟨W, st, env, hE, hs, h⟩ => ?_
  refine tA_bind hE hs h fun vs s1 W1 H1 us l1 he1 hs1 r1 h1 => ?_
  split at h1
  · rename_i j
    split at h1
    · rename_i hj
      cases r1 with
      | cons r rr =>
        cases rr; cases r
        exact ⟨j, rfl, by omega, by omega, h1 W1 H1 _ l1 hs1 it_rng⟩
    · exact h1.elim
  · exact h1.elim
theorem si_range2 {a b : Expr} {m : AM} {p pos : Pos} (hg : Gl X "range") (hm : X.mg "range" = none) (ha : PA X [a, b] (tA (gx X) Ex m)) (hs : starEach [a, b] X.env = [(false, eval a X.env), (false, eval b X.env)] := by rfl) (hs2 : starEach [b] X.env = [(false, eval b X.env)] := by rfl) :
    PI X tg (.Call (.Name "range" p) [a, b] [] pos) (tI (gx X) Ex (iR2 m)) := by
  refine pi_weak (pi_range2 hg hm ha hs hs2) fun σ H R ⟨W, st, env, hE, hs, h⟩ => ?_
  refine tA_bind hE hs h fun vs s1 W1 H1 us l1 he1 hs1 r1 h1 => ?_
  split at h1
  · rename_i i j
    split at h1
    · rename_i hj
      cases r1 with
      | cons r rr =>
        cases r
        cases rr with
        | cons r rr =>
          cases rr; cases r
          exact ⟨i, j, rfl, by omega, h1 W1 H1 _ l1 hs1 it_rng⟩
    · exact h1.elim
  · exact h1.elim
theorem it_enum {a : Addr} {xs : List PV} {c : Ck} (h : ∀ W' H' s', W.Lo W' → StR g W' H' s' → ckOk c s' → ∃ vs, SqL g.K H' a vs ∧ Reps g.K W' xs vs) : ItOf g W (Ite g.K a) (nums xs) c := by
  intro i W' H' s' l hs' ck
  obtain ⟨vs, hq, r⟩ := h W' H' s' l hs' ck
  have hl : (nums xs).length = xs.length := by simp [nums]
  rw [hl]
  refine ⟨fun hi => ?_, fun hi => ⟨vs, hq, by rw [← r.length]; exact hi⟩⟩
  obtain ⟨v, e, rv⟩ := r.get (List.getElem?_eq_getElem hi)
  refine ⟨⟨vs, v, hq, e⟩, fun x H'' y => ?_⟩
  obtain ⟨T, x', rfl, hT, rfl, y⟩ := y
  have := y vs hq
  rw [e] at this; cases this
  have l2 : W'.Le ⟨upd W'.fro T (.tup [.int (i : Nat), v]), W'.ob, W'.hid⟩ := hs'.le_new hT
  refine ⟨_, l2, hs'.new hT, fun px e' => ?_⟩
  have : px = .tup [.int (i : Nat), xs[i]] := by
    simp only [nums, List.getElem?_mapIdx] at e'
    rw [List.getElem?_eq_getElem hi] at e'
    exact (Option.some.inj e').symm
  rw [this]
  exact .tup (.inl (.inl upd_same)) (.cons (.int _) (.cons (rv.mono l2) .nil))
theorem si_enum {e : Expr} {m : AM} {p pos tpos : Pos} {elts : List Expr} {kk : Nat} (hg : Gl X "enumerate") (hm : X.mg "enumerate" = none) (ha : PA X [e] (tA (gx X) Ex m)) (hs : starEach [e] X.env = [(false, eval e X.env)] := by rfl) :
    PI X (.Tuple elts kk tpos) (.Call (.Name "enumerate" p) [e] [] pos) (tI (gx X) Ex (iEn m)) := by
  refine pi_weak (pi_enum hg hm ha hs) fun σ H R ⟨W, st, env, hE, hs, h⟩ => ?_
  refine tA_bind hE hs h fun vs s1 W1 H1 us l1 he1 hs1 r1 h1 => ?_
  split at h1
  · rename_i v
    cases r1 with
    | cons r rr =>
      cases rr
      cases hi : lsCk s1 v with
      | none => rw [hi] at h1; exact h1.elim
      | some p =>
        rw [hi] at h1
        obtain ⟨a, rfl, ⟨ws, hx⟩, ck, q⟩ := scr_list (xs := p.1) (c := p.2) hs1 r hi
        exact ⟨a, ws, rfl, hx, h1 W1 H1 _ l1 hs1 (it_enum q)⟩
  · exact h1.elim
end
end Z

set_option Elab.async false
set_option linter.all false
set_option maxRecDepth 100000
set_option maxHeartbeats 4000000
/-! Z8: statements, loops, list comprehensions. -/
namespace Z
open PySem PySem.Spec L2

def sNil : SM := fun env s => .ok (.nx env) s
def flK (k : SM) (f : Fl) (s : S) : Rs Fl :=
  match f with
  | .nx e => k e s
  | .ret v => .ok (.ret v) s
  | .brk e => .ok (.brk e) s
  | .cnt e => .ok (.cnt e) s
def sSeq (a b : SM) : SM := fun env s => (a env s).bind (flK b)
def sBrk : SM := fun env s => .ok (.brk env) s
def sCnt : SM := fun env s => .ok (.cnt env) s
def sRet (m : EM) : SM := fun env s => (m env s).bind fun v s1 => .ok (.ret v) s1
def sRetN : SM := fun env s => .ok (.ret .non) s
def sIf (t : TM) (a b : SM) : SM := fun env s => (t env s).bind fun c s1 => if c then a env s1 else b env s1
def sExpr (m : EM) : SM := fun env s => (m env s).bind fun _ s1 => .ok (.nx env) s1
def liftE (o : Option En) (s : S) : Rs Fl :=
  match o with
  | some e => .ok (.nx e) s
  | none => .fail
def sAsg (m : EM) (t : GM) : SM := fun env s => (m env s).bind fun v s1 => liftE (t v env s1) s1
def sAsg2 (m : EM) (t t' : GM) : SM := fun env s => (m env s).bind fun v s1 => liftE ((t v env s1).bind fun e => t' v e s1) s1
def sPar (i j : Nat) (m : AM) : SM := fun env s => (m env s).bind fun vs s1 =>
  match vs with
  | [a, b] => .ok (.nx ((env.set i (some a)).set j (some b))) s1
  | _ => .fail
def sPar3 (i j l : Nat) (m : AM) : SM := fun env s => (m env s).bind fun vs s1 =>
  match vs with
  | [a, b, c] => .ok (.nx (((env.set i (some a)).set j (some b)).set l (some c))) s1
  | _ => .fail
def sDead : SM := fun _ _ => .fail
/-- in-place operators by values, no list -/
def sAug (i : Nat) (f : O2) (m : EM) : SM := fun env s =>
  match env[i]? with
  | some (some x) => (m env s).bind fun y s1 => (lift (f x y s1)).bind fun z s2 => .ok (.nx (env.set i (some z))) s2
  | _ => .fail
def sWhile (t : TM) (b : SM) : Nat → SM
  | 0 => fun _ _ => .fail
  | n + 1 => fun env s => (t env s).bind fun c s1 => if c then (b env s1).bind fun f s2 =>
      match f with
      | .nx e => sWhile t b n e s2
      | .cnt e => sWhile t b n e s2
      | .brk e => .ok (.nx e) s2
      | .ret v => .ok (.ret v) s2
    else .ok (.nx env) s1
open Classical in
noncomputable def forL (c : Ck) (t : GM) (b : SM) : List PV → En → S → Rs Fl
  | [], env, s => if ckOk c s then .ok (.nx env) s else .fail
  | x :: xs, env, s => if ckOk c s then
      match t x env s with
      | none => .fail
      | some e1 => (b e1 s).bind fun f s2 =>
        match f with
        | .nx e => forL c t b xs e s2
        | .cnt e => forL c t b xs e s2
        | .brk e => .ok (.nx e) s2
        | .ret v => .ok (.ret v) s2
    else .fail
noncomputable def sFor (it : IM) (t : GM) (b : SM) : SM := fun env s => (it env s).bind fun p s1 => forL p.2 t b p.1 env s1

section
variable {X : Cx} {Ex : XK} {pos : Pos} {st : Stmt} {rest : List Stmt} {a b : SM} {e : Expr} {m : EM}
theorem FlC.ends {g : G} {W : Wd} {D D' : Ends} {f : Fl} {s : S} (h : FlC g W D f s) (n : ∀ σ H, D.nx σ H → D'.nx σ H) (r : ∀ v H, D.rt v H → D'.rt v H) (k : ∀ σ H, D.bk σ H → D'.bk σ H) (c : ∀ σ H, D.ct σ H → D'.ct σ H) : FlC g W D' f s := by
  cases f with
  | nx env => exact fun W' H' σ' l q p => n _ _ (h W' H' σ' l q p)
  | ret v => exact fun W' H' σ' l q p => r _ _ (h W' H' σ' l q p)
  | brk env => exact fun W' H' σ' l q p => k _ _ (h W' H' σ' l q p)
  | cnt env => exact fun W' H' σ' l q p => c _ _ (h W' H' σ' l q p)
theorem sss_nil : PSs X [] (tS (gx X) Ex sNil) := pss_weak pss_nil fun D σ H ⟨W, s, env, he, hs, h⟩ => h W H σ (Wd.Le.refl W) hs he
theorem sss_cons (h1 : PS X st (tS (gx X) Ex a)) (h2 : PSs X rest (tS (gx X) Ex b)) : PSs X (st :: rest) (tS (gx X) Ex (sSeq a b)) := by
  refine pss_weak (pss_cons h1 h2) fun D σ H ⟨W, s, env, he, hs, h⟩ => ⟨W, s, env, he, hs, h.bind.mono (fun f s1 q => ?_) fun _ _ _ z => z⟩
  cases f with
  | nx e => exact fun W' H' σ' l q' p => ⟨W', s1, e, p, q', Post.mono q (fun f s z => z.mono l) fun _ _ _ z => z.mono l⟩
  | ret v => exact q
  | brk e => exact q
  | cnt e => exact q
theorem sss_one (h1 : PS X st (tS (gx X) Ex a)) : PSs X [st] (tS (gx X) Ex a) := pss_one h1
theorem ss_dead : PS X st (tS (gx X) Ex sDead) := ps_weak ps_never fun D σ H ⟨W, s, env, he, hs, h⟩ => h
theorem sss_dead {sts : List Stmt} : PSs X sts (tS (gx X) Ex sDead) := pss_weak pss_never fun D σ H ⟨W, s, env, he, hs, h⟩ => h
theorem ss_pass : PS X (.Pass pos) (tS (gx X) Ex sNil) := ps_weak ps_pass fun D σ H ⟨W, s, env, he, hs, h⟩ => h W H σ (Wd.Le.refl W) hs he
theorem ss_doc {x j pos'} : PS X (.Expr (.Constant (.str x) j pos) pos') (tS (gx X) Ex sNil) := ps_weak ps_doc fun D σ H ⟨W, s, env, he, hs, h⟩ => h W H σ (Wd.Le.refl W) hs he
theorem ss_break : PS X (.Break pos) (tS (gx X) Ex sBrk) := ps_weak ps_break fun D σ H ⟨W, s, env, he, hs, h⟩ => h W H σ (Wd.Le.refl W) hs he
theorem ss_continue : PS X (.Continue pos) (tS (gx X) Ex sCnt) := ps_weak ps_continue fun D σ H ⟨W, s, env, he, hs, h⟩ => h W H σ (Wd.Le.refl W) hs he
theorem ss_expr (he : PE X e (tE (gx X) Ex m)) (hsw : swapsWith e none pos.line X.env = pure false := by rfl) : PS X (.Expr e pos) (tS (gx X) Ex (sExpr m)) := by
  refine ps_weak (ps_expr he hsw) fun D σ H ⟨W, s, env, hE, hs, h⟩ => ?_
  exact tE_bind hE hs h fun v s1 W1 H1 u l1 he1 hs1 r1 h1 => h1 W1 H1 σ l1 hs1 he1
theorem ss_ret (he : PE X e (tE (gx X) Ex m)) : PS X (.Return (some e) pos) (tS (gx X) Ex (sRet m)) := by
  refine ps_weak (ps_ret he) fun D σ H ⟨W, s, env, hE, hs, h⟩ => ?_
  exact tE_bind hE hs h fun v s1 W1 H1 u l1 he1 hs1 r1 h1 => h1 W1 H1 u l1 hs1 r1
theorem ss_retN : PS X (.Return none pos) (tS (gx X) Ex sRetN) := ps_weak ps_retN fun D σ H ⟨W, s, env, hE, hs, h⟩ => h W H _ (Wd.Le.refl W) hs .non
theorem ss_if {c : Expr} {p q : List Stmt} {t : TM} (hc : PT X c (tT (gx X) Ex t)) (ha : PSs X p (tS (gx X) Ex a)) (hb : PSs X q (tS (gx X) Ex b)) : PS X (.If c p q pos) (tS (gx X) Ex (sIf t a b)) := by
  refine ps_weak (ps_if hc ha hb) fun D σ H ⟨W, s, env, hE, hs, h⟩ => ?_
  refine tT_bind hE hs h fun k s1 W1 H1 l1 he1 hs1 h1 => ?_
  cases k with
  | true => rw [if_pos rfl]; exact ⟨W1, s1, env, he1, hs1, Post.mono h1 (fun f s z => z.mono l1) fun _ _ _ z => z⟩
  | false => rw [if_neg Bool.false_ne_true]; exact ⟨W1, s1, env, he1, hs1, Post.mono h1 (fun f s z => z.mono l1) fun _ _ _ z => z⟩
theorem liftE_ok {g : G} {W : Wd} {D : Ends} {o : Option En} {s : S} {E : Str → PV → S → Prop} (h : Post (liftE o s) (FlC g W D) E) : ∃ e, o = some e ∧ ∀ W' H' σ', W.Le W' → StR g W' H' s → EnvR g.K W' e σ' → D.nx σ' H' := by
  cases o with
  | none => exact h.elim
  | some e => exact ⟨e, rfl, h⟩
theorem ss_asg {tg : Expr} {t : GM} {ix : List Nat} (he : PE X e (tE (gx X) Ex m)) (hg : PG X tg (tG (gx X) ix t)) (hsw : swapsWithSole [tg] e pos.line X.env = pure false := by rfl) (hw : swappedStores [tg] e X.env = pure none := by rfl)
    (h1 : (assignEach [tg] X.env).map (·.2) = [assign tg X.env] := by rfl) : PS X (.Assign [tg] e pos) (tS (gx X) Ex (sAsg m t)) := by
  refine ps_weak (ps_asg he hg hsw hw h1) fun D σ H ⟨W, s, env, hE, hs, h⟩ => ?_
  refine tE_bind hE hs h fun v s1 W1 H1 u l1 he1 hs1 r1 h1 => ?_
  obtain ⟨e', q, hn⟩ := liftE_ok h1
  exact ⟨W1, s1, env, v, e', he1, hs1, r1, q, fun σ' p _ => hn W1 H1 σ' l1 hs1 p⟩
theorem ss_set {i : Nat} {x : Str} {pos' : Pos} (hN : X.N.Nodup) (hi : X.N[i]? = some x) (hx : Loc X.env.scope x) (hf : X.fn x = true ∨ X.env.scope.names.lookup x = some .local) (he : PE X e (tE (gx X) Ex m)) (hsw : swapsWith e (some (.Name x pos')) pos.line X.env = pure false := by rfl) :
    PS X (.Assign [.Name x pos'] e pos) (tS (gx X) Ex (sAsg m (mName i))) := by
  refine ps_weak (ps_set hN hi hx he hsw hf) fun D σ H ⟨W, s, env, hE, hs, h⟩ => ?_
  refine tE_bind hE hs h fun v s1 W1 H1 u l1 he1 hs1 r1 h1 => ?_
  obtain ⟨e', q, hn⟩ := liftE_ok h1
  cases q
  exact hn W1 H1 _ l1 hs1 (he1.set i r1)
theorem ss_par {i j : Nat} {x y : Str} {p q : Expr} {px py pt : Pos} {kt k2 pt2} {ms : AM} (hc : X.calm = true) (hN : X.N.Nodup) (hi : X.N[i]? = some x) (hj : X.N[j]? = some y) (hij : i ≠ j)
    (hx : X.env.scope.names.lookup x = some .local) (hy : X.env.scope.names.lookup y = some .local) (ha : PA X [p, q] (tA (gx X) Ex ms))
    (hw : swappedStores [.Tuple [.Name x px, .Name y py] kt pt] (.Tuple [p, q] k2 pt2) X.env = pure (some [x, y]) := by rfl)
    (hsw : swapsWithSole [.Tuple [.Name x px, .Name y py] kt pt] (.Tuple [p, q] k2 pt2) pos.line X.env = pure false := by rfl) :
    PS X (.Assign [.Tuple [.Name x px, .Name y py] kt pt] (.Tuple [p, q] k2 pt2) pos) (tS (gx X) Ex (sPar i j ms)) := by
  refine ps_weak (ps_par hc hN hi hj hij hx hy ha hw hsw) fun D σ H ⟨W, s, env, hE, hs, h⟩ => ?_
  refine tA_bind hE hs h fun vs s1 W1 H1 us l1 he1 hs1 r1 h1 => ?_
  split at h1
  · cases r1 with
    | cons r rr =>
      cases rr with
      | cons r' rr => cases rr; exact ⟨_, _, rfl, h1 W1 H1 _ l1 hs1 ((he1.set i r).set j r')⟩
  · exact h1.elim
theorem ss_par3 {i j l : Nat} {x y z : Str} {p q r : Expr} {px py pz pt : Pos} {kt k2 pt2} {ms : AM} (hc : X.calm = true) (hN : X.N.Nodup) (hi : X.N[i]? = some x) (hj : X.N[j]? = some y) (hl : X.N[l]? = some z) (hij : i ≠ j) (hil : i ≠ l) (hjl : j ≠ l)
    (hx : X.env.scope.names.lookup x = some .local) (hy : X.env.scope.names.lookup y = some .local) (hz : X.env.scope.names.lookup z = some .local) (ha : PA X [p, q, r] (tA (gx X) Ex ms))
    (hw : swappedStores [.Tuple [.Name x px, .Name y py, .Name z pz] kt pt] (.Tuple [p, q, r] k2 pt2) X.env = pure (some [x, y, z]) := by rfl)
    (hsw : swapsWithSole [.Tuple [.Name x px, .Name y py, .Name z pz] kt pt] (.Tuple [p, q, r] k2 pt2) pos.line X.env = pure false := by rfl) :
    PS X (.Assign [.Tuple [.Name x px, .Name y py, .Name z pz] kt pt] (.Tuple [p, q, r] k2 pt2) pos) (tS (gx X) Ex (sPar3 i j l ms)) := by
  refine ps_weak (ps_par3 hc hN hi hj hl hij hil hjl hx hy hz ha hw hsw) fun D σ H ⟨W, s, env, hE, hs, h⟩ => ?_
  refine tA_bind hE hs h fun vs s1 W1 H1 us l1 he1 hs1 r1 h1 => ?_
  split at h1
  · cases r1 with
    | cons r rr =>
      cases rr with
      | cons r' rr =>
        cases rr with
        | cons r'' rr => cases rr; exact ⟨_, _, _, rfl, h1 W1 H1 _ l1 hs1 (((he1.set i r).set j r').set l r'')⟩
  · exact h1.elim
theorem ss_while {c : Expr} {body : List Stmt} {t : TM} (n : Nat) (hp : PassesOwn (model X.prog X.w) X.A X.env X.xe) (hc : PT X c (tT (gx X) Ex t)) (hb : PSs X body (tS (gx X) Ex b)) : PS X (.While c body [] pos) (tS (gx X) Ex (sWhile t b n)) := by
  refine ps_weak (ps_while hp hc hb) fun D σ H ⟨W, s, env, hE, hs, h⟩ => ?_
  refine ⟨fun k σ H => ∃ W' s env, W.Le W' ∧ EnvR X.K W' env σ ∧ StR (gx X) W' H s ∧ Post (sWhile t b k env s) (FlC (gx X) W' D) (XW (gx X) W' Ex), ⟨n, W, s, env, Wd.Le.refl W, hE, hs, h⟩, ?_⟩
  rintro k σ H ⟨W, s, env, l0, hE, hs, h⟩
  cases k with
  | zero => exact h.elim
  | succ k =>
    refine tT_bind hE hs h fun c s1 W1 H1 l1 he1 hs1 h1 => ?_
    cases c with
    | false => rw [if_neg Bool.false_ne_true]; exact h1 W1 H1 σ l1 hs1 he1
    | true =>
      rw [if_pos rfl]
      have h1 : Post ((b env s1).bind _) _ _ := h1
      refine ⟨_, fun σ' H' q => ⟨k, Nat.lt_succ_self k, q⟩, W1, s1, env, he1, hs1, h1.bind.mono (fun f s2 q => ?_) fun _ _ _ z => z⟩
      cases f with
      | nx e => exact fun W' H' σ' l q' p => ⟨W', s2, e, (l0.trans l1).trans l, p, q', Post.mono q (fun f s z => z.mono (l1.trans l)) fun _ _ _ z => z.mono l⟩
      | cnt e => exact fun W' H' σ' l q' p => ⟨W', s2, e, (l0.trans l1).trans l, p, q', Post.mono q (fun f s z => z.mono (l1.trans l)) fun _ _ _ z => z.mono l⟩
      | brk e => exact fun W' H' σ' l q' p => q W' H' σ' (l1.trans l) q' p
      | ret v => exact fun W' H' σ' l q' p => q W' H' σ' (l1.trans l) q' p
theorem ss_for {tg iter : Expr} {body : List Stmt} {it : IM} {t : GM} {ix : List Nat} (hp : PassesOwn (model X.prog X.w) X.A X.env X.xe) (hc : X.calm = true) (hi : PI X tg iter (tI (gx X) Ex it)) (hg : PG X tg (tG (gx X) ix t)) (hb : PSs X body (tS (gx X) Ex b))
    (hfs : ∀ x, foldedSetIterable iter X.env x = pure x := by intro _; rfl) : PS X (.For tg iter body [] pos) (tS (gx X) Ex (sFor it t b)) := by
  refine ps_weak (ps_for hp hc hi hg hb hfs) fun D σ H ⟨W, s, env, hE, hs, h⟩ => ?_
  refine ⟨W, s, env, hE, hs, h.bind.mono (fun p s1 h1 W1 H1 J l1 hs1 hJ => ?_) fun _ _ _ z => z⟩
  obtain ⟨xs, c⟩ := p
  refine ⟨fun i k σ H => k = xs.length - i ∧ i ≤ xs.length ∧ ∃ W' s env, W1.Le W' ∧ EnvR X.K W' env σ ∧ StR (gx X) W' H s ∧ Post (forL c t b (xs.drop i) env s) (FlC (gx X) W' D) (XW (gx X) W' Ex),
    ⟨_, rfl, Nat.zero_le _, W1, s1, env, Wd.Le.refl W1, hE.mono l1, hs1, Post.mono h1 (fun f s z => z.mono l1) fun _ _ _ z => z.mono l1⟩, ?_⟩
  rintro i k σ H ⟨rfl, hle, W2, s2, env2, l2, he2, hs2, h2⟩
  by_cases hi : i < xs.length
  · right
    rw [List.drop_eq_getElem_cons hi] at h2
    unfold forL at h2
    split at h2
    · rename_i hck
      split at h2
      · exact h2.elim
      · rename_i e1 ht
        obtain ⟨g1, y1⟩ := (hJ i W2 H s2 l2.lo hs2 hck).1 hi
        refine ⟨g1, _, fun σ' H' q => ⟨xs.length - (i + 1), by omega, q⟩, fun x H' y => ?_⟩
        obtain ⟨W3, l3, hs3, r3⟩ := y1 x H' y
        refine ⟨W3, s2, env2, xs[i], e1, he2.mono l3, hs3, r3 _ (List.getElem?_eq_getElem hi), ht, fun σ' he' _ => ?_⟩
        refine ⟨W3, s2, e1, he', hs3, h2.bind.mono (fun f s4 q => ?_) fun _ _ _ z => z.mono l3⟩
        cases f with
        | nx e => exact fun W' H' σ' l q' p => ⟨rfl, hi, W', s4, e, (l2.trans l3).trans l, p, q', Post.mono q (fun f s z => z.mono (l3.trans l)) fun _ _ _ z => z.mono (l3.trans l)⟩
        | cnt e => exact fun W' H' σ' l q' p => ⟨rfl, hi, W', s4, e, (l2.trans l3).trans l, p, q', Post.mono q (fun f s z => z.mono (l3.trans l)) fun _ _ _ z => z.mono (l3.trans l)⟩
        | brk e => exact fun W' H' σ' l q' p => q W' H' σ' (l3.trans l) q' p
        | ret v => exact fun W' H' σ' l q' p => q W' H' σ' (l3.trans l) q' p
    · exact h2.elim
  · left
    rw [List.drop_eq_nil_of_le (by omega)] at h2
    unfold forL at h2
    split at h2
    · rename_i hck
      exact ⟨(hJ i W2 H s2 l2.lo hs2 hck).2 (show xs.length ≤ i by omega), h2 W2 H σ (Wd.Le.refl _) hs2 he2⟩
    · exact h2.elim
end

/-! ### list comprehensions -/
def wipeE (env : En) : List Nat → En
  | [] => env
  | v :: vs => (wipeE env vs).set v none
theorem EnvR.wipe {K : PySem.W.Frag} {W : Wd} {env : En} {σ : St} (h : EnvR K W env σ) : ∀ vs : List Nat, EnvR K W (wipeE env vs) (wipe σ vs)
  | [] => h
  | v :: vs => by unfold wipeE L2.wipe; exact (h.wipe vs).unset v
def noX {α : Type} (r : Rs α) : Rs α :=
  match r with
  | .exc _ _ _ => .fail
  | r => r
theorem Post.noX {α : Type} {r : Rs α} {Q : α → S → Prop} {E E' : Str → PV → S → Prop} (h : Post (noX r) Q E) : Post r Q E' := by
  cases r with
  | ok a s => exact h
  | exc c x s => exact h.elim
  | fail => exact h
theorem noX_bind {α β : Type} {r : Rs α} {k : α → S → Rs β} {Q : β → S → Prop} {E : Str → PV → S → Prop} (h : Post ((noX r).bind k) Q E) (E' : Str → PV → S → Prop) : Post r (fun a s => Post (k a s) Q E) E' := Post.noX h.bind
open Classical in
noncomputable def lcL (c : Ck) (t : GM) (ts : TM) (e : EM) (env : En) : List PV → S → Rs (List PV)
  | [], s => if ckOk c s then .ok [] s else .fail
  | x :: xs, s => if ckOk c s then
      match t x env s with
      | none => .fail
      | some e1 => (noX (ts e1 s)).bind fun k s1 => if k then (noX (e e1 s1)).bind fun y s2 => (lcL c t ts e env xs s2).bind fun ys s3 => .ok (y :: ys) s3 else lcL c t ts e env xs s1
    else .fail
noncomputable def eLc (mu : Bool) (it : IM) (t : GM) (ts : TM) (e : EM) (vs : List Nat) : EM := fun env s => (it env s).bind fun p s1 =>
  if p.1.length ≤ 16000000 then (lcL p.2 t ts e (wipeE env vs) p.1 s1).bind fun ys s2 => lift (newL mu ys s2) else .fail
def tYesM : TM := fun _ s => .ok true s
abbrev noK : XK := fun _ _ _ => False
section
variable {X : Cx} {Ex : XK} {pos : Pos} {e : Expr}
theorem sts_nil : PTs X [] (tT (gx X) Ex tYesM) := ⟨fun pins s σ H Q I ⟨W, st, env, hE, hs, h⟩ => pts_nil.run pins s σ H Q I (h W H (Wd.Le.refl W) hs)⟩
theorem sts_one {c : Expr} {t : TM} (h : PT X c (tT (gx X) Ex t)) : PTs X [c] (tT (gx X) Ex t) := pts_one h
theorem tLc_of {g : G} {mu : Bool} {it : IM} {ix vs : List Nat} {t : GM} {ts : TM} {m : EM} (hv : ∀ i ∈ ix, i ∈ vs) {σ : L2.St} {H : Hp} {Q : VK} (h : tE g Ex (eLc mu it t ts m vs) σ H Q) : tLc (tI g Ex it) (tG g ix t) (tT g noK ts) (tE g noK m) vs σ H Q := by
  obtain ⟨W, s, env, hE, hs, h⟩ := h
  refine ⟨W, s, env, hE, hs, h.bind.mono (fun p s1 h1 W1 H1 J l1 hs1 hJ => ?_) fun _ _ _ z => z⟩
  obtain ⟨xs, c⟩ := p
  split at h1
  · rename_i hbig
    have hbig : xs.length ≤ 16000000 := hbig
    intro D hD
    have hf : W1.fro D = none := hs1.fro.free hD
    have hh : W1.hid D = none := hs1.hid.free hD
    have hob : ∀ (n : Nat) (a : Addr), W1.ob[n]? = some a → a ≠ D := fun n a q z => hs1.alive n a q (z ▸ hD)
    refine ⟨fun i k H => k = xs.length - i ∧ i ≤ xs.length ∧ ∃ W2 s2 acc us, W1.Lo W2 ∧ W2.hid = upd W1.hid D (.lst us) ∧ StR g W2 H s2 ∧ Reps g.K W2 acc us ∧ acc.length ≤ i ∧
      Post ((lcL c t ts m (wipeE env vs) (xs.drop i) s2).bind fun ys s3 => lift (newL mu (acc ++ ys) s3)) (fun v s' => Cont g W Q v s') (XW g W Ex), ⟨_, rfl, Nat.zero_le _, W1.re (upd W1.hid D (.lst [])), s1, [], [], W1.lo_re _, rfl, hs1.hide hf hob (fun _ _ => rfl), .nil, Nat.le_refl _, by simpa using h1⟩, ?_⟩
    rintro i k H ⟨rfl, hle, W2, s2, acc, us, l2, hhid, hs2, racc, hacc, h2⟩
    by_cases hi : i < xs.length
    · right
      rw [List.drop_eq_getElem_cons hi] at h2
      unfold lcL at h2
      split at h2
      · rename_i hck
        split at h2
        · exact h2.elim
        · rename_i e1 ht
          obtain ⟨g1, y1⟩ := (hJ i W2 H s2 l2 hs2 hck).1 hi
          refine ⟨g1, _, fun H' q => ⟨xs.length - (i + 1), by omega, q⟩, fun x H' y => ?_⟩
          obtain ⟨W3, l3, hs3, r3⟩ := y1 x H' y
          have he3 : EnvR g.K W3 (wipeE env vs) (wipe σ vs) := ((hE.mono l1).lo (l2.trans l3.lo)).wipe vs
          refine ⟨W3, s2, _, xs[i], e1, he3, hs3, r3 _ (List.getElem?_eq_getElem hi), ht, fun σ' he' sm => ?_⟩
          have hw : wipe σ' vs = wipe σ vs := by
            have hww := sm.wipe hv
            rw [hww]
            refine List.ext_getElem? fun j => ?_
            by_cases hj : j ∈ vs
            · by_cases hl : j < σ.length
              · rw [wipe_in hj (by rw [wipe_length]; exact hl), wipe_in hj hl]
              · rw [List.getElem?_eq_none (by rw [wipe_length, wipe_length]; omega), List.getElem?_eq_none (by rw [wipe_length]; omega)]
            · rw [wipe_out hj]
          refine ⟨hw, ?_⟩
          have h3 := noX_bind h2.bind (XW g W3 noK)
          refine ⟨W3, s2, e1, he', hs3, h3.mono (fun b s4 h4 W4 H4 l4 hs4 => ?_) fun _ _ _ z => z⟩
          cases b with
          | false =>
            rw [if_neg Bool.false_ne_true]
            refine ⟨rfl, hi, W4, s4, acc, us, (l2.trans l3.lo).trans l4.lo, l4.hid.trans (l3.hid.trans hhid), hs4, racc.lo (l3.lo.trans l4.lo), by omega, ?_⟩
            rw [if_neg Bool.false_ne_true] at h4
            exact Post.of_bind h4
          | true =>
            rw [if_pos rfl]
            rw [if_pos rfl] at h4
            have h5 := noX_bind h4 (XW g W4 noK)
            refine ⟨W4, s4, e1, he'.mono l4, hs4, h5.mono (fun y s5 h6 W5 H5 u l5 hs5 r5 => ?_) fun _ _ _ z => z⟩
            have hid5 : W5.hid = upd W1.hid D (.lst us) := l5.hid.trans (l4.hid.trans (l3.hid.trans hhid))
            have hD5 : H5 D = some (.lst us) := hs5.hid D _ (by rw [hid5, upd_same])
            have racc5 : Reps g.K W5 acc us := racc.lo (l3.lo.trans (l4.lo.trans l5.lo))
            refine ⟨us, hD5, ?_, ?_⟩
            · rw [← racc.length]
              rw [sizeLine_eq]; omega
            · have hf5 : W5.fro D = none := hs5.hnf D (by rw [hid5, upd_same]; simp)
              have hob5 : ∀ (n : Nat) (a : Addr), W5.ob[n]? = some a → a ≠ D := fun n a q z => by
                have := hs5.hno n a q
                rw [z, hid5, upd_same] at this; cases this
              have hs6 := hs5.hide (o := .lst (us ++ [u])) (h0 := W1.hid) hf5 hob5 fun b hb => by rw [hid5, upd_ne hb]
              have lo6 := W5.lo_re (upd W1.hid D (.lst (us ++ [u])))
              refine ⟨rfl, hi, _, s5, acc ++ [y], us ++ [u], ((l2.trans l3.lo).trans (l4.lo.trans l5.lo)).trans lo6, rfl, hs6, (racc5.append (.cons r5 .nil)).lo lo6, by simp; omega, ?_⟩
              refine Post.of_bind (h6.bind.mono (fun ys s7 h7 => ?_) fun _ _ _ z => z)
              have h7 : Post (lift (newL mu (acc ++ (y :: ys)) s7)) _ _ := h7
              rw [List.append_assoc]
              exact h7
      · exact h2.elim
    · left
      have h2' := h2
      rw [List.drop_eq_nil_of_le (by omega)] at h2
      unfold lcL at h2
      split at h2
      · rename_i hck
        refine ⟨(hJ i W2 H s2 l2 hs2 hck).2 (show xs.length ≤ i by omega), ?_⟩
        have h2 : Post (lift (newL mu (acc ++ []) s2)) _ _ := h2
        obtain ⟨v, s3, e3, hc3⟩ := h2.lift
        rw [List.append_nil] at e3
        unfold newL at e3
        split at e3
        · cases mu with
          | true =>
            cases e3
            have l3 : W2.Lo ⟨W2.fro, W2.ob ++ [D], W1.hid⟩ := ⟨Sub.refl _, [D], rfl⟩
            have hs3 := hs2.showO (m := .lst acc) hhid hh (.lst (hs2.hid D _ (by rw [hhid, upd_same])) (racc.lo l3))
            exact hc3 _ _ _ (l1.trans ⟨(l2.trans l3).fro, rfl, (l2.trans l3).ob⟩) hs3 (.obj (by rw [← hs2.len]; simp))
          | false =>
            cases e3
            have hf2 : W2.fro D = none := hs2.hnf D (by rw [hhid, upd_same]; simp)
            have l3 : W2.Lo ⟨upd W2.fro D (.lst us), W2.ob, W1.hid⟩ := ⟨Sub.upd hf2, [], by simp⟩
            have hs3 := hs2.show hhid hh
            exact hc3 _ _ _ (l1.trans ⟨(l2.trans l3).fro, rfl, (l2.trans l3).ob⟩) hs3 (.lst upd_same (racc.lo l3))
        · cases e3
      · exact h2.elim
  · exact h1.elim
theorem se_lc {elt tg iter : Expr} {ifs : List Expr} {scope : Scope} {own : List (Str × Nat)} {it : IM} {t : GM} {ts : TM} {m : EM} {ix : List Nat} (mu : Bool) (hc : X.calm = true) (hN : X.N.Nodup) (hi : PI X tg iter (tI (gx X) Ex it)) (ok : BlkOk X.N X.env.scope scope own)
    (hg : ∀ (s : Shared) (H : Hp) (C : Addr) (cl : List (Str × Addr)) (fp : List Addr), PG (X.blk s H scope (compEnvC scope cl C X.env) fp) tg (tG (gx X) ix t)) (ht : ∀ (s : Shared) (H : Hp) (C : Addr) (cl : List (Str × Addr)) (fp : List Addr), PTs (X.blk s H scope (compEnvC scope cl C X.env) fp) ifs (tT (gx X) noK ts))
    (he : ∀ (s : Shared) (H : Hp) (C : Addr) (cl : List (Str × Addr)) (fp : List Addr), PE (X.blk s H scope (compEnvC scope cl C X.env) fp) elt (tE (gx X) noK m)) (hv : ∀ i ∈ ix, i ∈ own.map (·.2) := by decide) (hfs : ∀ x, foldedSetIterable iter X.env x = pure x := by intro _; rfl) :
    PE X (.ListComp elt [⟨tg, iter, ifs, 0⟩] scope pos) (tE (gx X) Ex (eLc mu it t ts m (own.map (·.2)))) :=
  pe_weak (pe_lc hc hN hi ok hg ht he hfs) fun σ H Q h => tLc_of hv h
theorem ss_setLc {i : Nat} {y : Str} {py : Pos} {elt tg iter : Expr} {ifs : List Expr} {scope : Scope} {own : List (Str × Nat)} {spos : Pos} {it : IM} {t : GM} {ts : TM} {m : EM} {ix : List Nat} (mu : Bool) (hc : X.calm = true) (hN : X.N.Nodup) (hy : X.N[i]? = some y) (hyl : X.env.scope.names.lookup y = some .local)
    (hsw : swapsWith (.ListComp elt [⟨tg, iter, ifs, 0⟩] scope pos) (some (.Name y py)) spos.line X.env = pure true) (hi : PI X tg iter (tI (gx X) Ex it)) (ok : BlkOk X.N X.env.scope scope own)
    (hg : ∀ (s : Shared) (H : Hp) (C : Addr) (cl : List (Str × Addr)) (fp : List Addr), PG (X.blk s H scope (compEnvC scope cl C X.env) fp) tg (tG (gx X) ix t)) (ht : ∀ (s : Shared) (H : Hp) (C : Addr) (cl : List (Str × Addr)) (fp : List Addr), PTs (X.blk s H scope (compEnvC scope cl C X.env) fp) ifs (tT (gx X) noK ts))
    (he : ∀ (s : Shared) (H : Hp) (C : Addr) (cl : List (Str × Addr)) (fp : List Addr), PE (X.blk s H scope (compEnvC scope cl C X.env) fp) elt (tE (gx X) noK m)) (hv : ∀ i ∈ ix, i ∈ own.map (·.2) := by decide) (hfs : ∀ x, foldedSetIterable iter X.env x = pure x := by intro _; rfl) :
    PS X (.Assign [.Name y py] (.ListComp elt [⟨tg, iter, ifs, 0⟩] scope pos) spos) (tS (gx X) Ex (sAsg (eLc mu it t ts m (own.map (·.2))) (mName i))) := by
  refine ps_weak (ps_setLc hc hN hy hyl hsw hi ok hg ht he hfs) fun D σ H ⟨W, s, env, hE, hs, h⟩ => ?_
  refine tLc_of (mu := mu) (ts := ts) hv ?_
  refine tE_bind hE hs h fun v s1 W1 H1 u l1 he1 hs1 r1 h1 => ?_
  obtain ⟨e', q, hn⟩ := liftE_ok h1
  cases q
  exact hn W1 H1 _ l1 hs1 (he1.set i r1)
end
end Z

set_option Elab.async false
set_option linter.all false
set_option maxRecDepth 100000
set_option maxHeartbeats 4000000
/-! Z9: defs, calls, the end of a law. A def's promise is asked only where no repr is under way. -/
namespace Z
open PySem PySem.Spec PyProof.Rows L2

abbrev FM := List PV → S → Rs PV
def startE (N : List Str) (vs : List PV) : En := vs.map some ++ List.replicate (N.length - vs.length) none
def flEnd (f : Fl) (s : S) : Rs PV :=
  match f with
  | .nx _ => .ok .non s
  | .ret v => .ok v s
  | _ => .fail
/-- a def by its body -/
def fnM (n : Nat) (N : List Str) (m : SM) : FM := fun vs s => if vs.length = n then (m (startE N vs) s).bind flEnd else .fail
def spZ (g : G) (f : FM) : Sp := fun vs H Q E => ∃ W s pvs, Reps g.K W pvs vs ∧ StR g W H s ∧ Post (f pvs s) (Cont g W Q) (XW g W E)

structure FnZ (P : Program) (w : World) (K : PySem.W.Frag) (mg : Str → Option Value) (base : Heap) (CX : CXT) (k : Nat) (a : Addr) (fd : FuncData) (ps : List Str) (f : FM) : Prop where
  arity : ∀ pvs s, pvs.length ≠ ps.length → f pvs s = .fail
  runs : ∀ (A : Around) (outer : List Env) (sh : Shared) (H : Hp) (args : Args) (us : List Value) (vs : List V) (Q : VK) (E : XK), Room k A → A.guards = some [] → Env0 P w K mg base A outer sh H → BindsTo sh fd args (ps.zip us) → Vals vs us → spZ ⟨K, mg⟩ f vs H Q E →
    codeAny (model P w) A (.call (.ref a) args) (CR CX outer P w H sh Q E) sh

section
variable {P : Program} {w : World} {K : PySem.W.Frag} {mg : Str → Option Value} {base : Heap} {CX : CXT} {k : Nat} {a : Addr} {fd : FuncData} {ps : List Str} {f : FM}
theorem FnZ.up {j : Nat} (F : FnZ P w K mg base CX j a fd ps f) (h : j ≤ k) : FnZ P w K mg base CX k a fd ps f :=
  ⟨F.arity, fun A outer sh H args us vs Q E hr => F.runs A outer sh H args us vs Q E (hr.mono h)⟩
theorem EnvR.start {W : Wd} {N : List Str} {pvs : List PV} {vs : List V} (r : Reps K W pvs vs) : EnvR K W (startE N pvs) (start N vs) := by
  have hl := r.length
  refine ⟨by simp [startE, L2.start, hl], fun i v e => ?_⟩
  unfold startE at e
  unfold L2.start
  by_cases hi : i < pvs.length
  · rw [List.getElem?_append_left (by simpa using hi), List.getElem?_map] at e
    cases q : pvs[i]? with
    | none => rw [q] at e; cases e
    | some x =>
      rw [q] at e; cases e
      obtain ⟨u, e', ru⟩ := r.get q
      exact ⟨u, by rw [List.getElem?_append_left (by simp; omega), List.getElem?_map, e']; rfl, ru⟩
  · rw [List.getElem?_append_right (by simpa using hi), List.getElem?_replicate] at e
    split at e <;> cases e
/-- THE RULE: a def by its body -/
theorem fnz_of {x qual : Str} {params : Arguments} {body : List Stmt} {scope : Scope} {dvs : List V} {kws : List (Str × V)} {N : List Str} {m : SM} (F : FunD K x qual params body scope dvs kws a fd) (Sc : FnScope N ps scope)
    (hb : ∀ (cdv : Value) (A : Around) (outer : List Env) (sh : Shared) (H : Hp) (E : XK), Room k (A.deeper (envOfC qual scope sh.heap.objs.size a cdv)) → (A.deeper (envOfC qual scope sh.heap.objs.size a cdv)).guards = some [] →
      PSs (cxOf CX P w K mg base N qual scope a cdv A outer sh H E) body (tS ⟨K, mg⟩ E m)) : FnZ P w K mg base CX (k + 1) a fd ps (fnM ps.length N m) := by
  obtain ⟨oc, od, dV, kV, doc, pm, an, cdv, ct, osl, rfl, lk, hcd, _, _⟩ := F.ex
  refine ⟨fun pvs s h => if_neg h, fun A outer sh H args us vs Q E room gd e0 bd rel hsp => ?_⟩
  obtain ⟨W, s, pvs, rp, st, post⟩ := hsp
  unfold fnM at post
  by_cases hn : pvs.length = ps.length
  case neg => rw [if_neg hn] at post; exact post.elim
  rw [if_pos hn] at post
  have hlen : vs.length = ps.length := by rw [← rp.length]; exact hn
  have kin := e0.mod.kin.keeps fun b o e => (e0.bs b o e).1
  have names : ∀ y ∈ ps.zip us, scope.names.lookup y.1 = some .local ∨ (scope.names.lookup y.1 = some .cell ∧ ((cellsFrom (sh.heap.objs.size + 1) scope.names []).lookup y.1).isSome = true) := by
    rintro ⟨n, v⟩ hy
    rcases Sc.par n (List.of_mem_zip hy).1 with q | q
    · exact .inl q
    · exact .inr ⟨q, PySem.W.cellsFrom_some _ _ _ (.inl q)⟩
  refine codeAny_call_function room.depth (kin _ _ lk) rfl Sc.co Sc.gen rfl (PySem.W.codeRec_of kin hcd) (bd _ _ _ _ (wpAny_newFunctionEnv_cells Sc.kind names fun env he s1 inn => ?_))
  subst he
  refine ⟨(e0.mod.nolimit.keeps fun b o e => (e0.bs b o e).1).keeps inn.toInCall.keep, codeAny_func ?_⟩
  have start := inv_start (CX := CX) (E := E) Sc room.hd e0 hlen rel inn
  have body := (hb cdv A outer sh H E (room.deeper _) gd).run [] s1 (L2.start N vs) H { nx := fun _ H' => Q .non H', rt := Q } start
    ⟨W, s, startE N pvs, EnvR.start rp, st, post.bind.mono (fun fl s' q => by
      cases fl with
      | nx e => exact fun W' H' σ' l hs _ => q W' H' .non l hs .non
      | ret v => exact q
      | brk e => exact q.elim
      | cnt e => exact q.elim) fun _ _ _ z => z⟩
  refine wpAny_mono body (fun fl s' fin => ?_) fun e s' h => h
  cases fl with
  | ret u => obtain ⟨v, σ', H', J, rv, q⟩ := fin; exact ⟨v, H', J.os, J.bare, J.base, J.hok, rv, q⟩
  | next => obtain ⟨σ', H', J, q⟩ := fin; exact ⟨.non, H', J.os, J.bare, J.base, J.hok, rfl, q⟩
  | brk => obtain ⟨_, _, _, q⟩ := fin; exact q.elim
  | cont => obtain ⟨_, _, _, q⟩ := fin; exact q.elim
end

/-! ### calls -/
def eCall (f : FM) (m : AM) : EM := fun env s => (m env s).bind fun vs s1 => f vs s1
section
variable {X : Cx} {CX : CXT} {k : Nat} {a : Addr} {fd : FuncData} {ps : List Str} {f : FM} {Ex : XK} {x : Str} {p pos : Pos} {e : Expr} {es : List Expr} {m : AM}
theorem call_fz {pins : List (Addr × Obj)} {σ : L2.St} {H : Hp} {sh : Shared} {Q : VK} {us : List Value} {vs : List V} (F : FnZ X.prog X.w X.K X.mg X.base CX k a fd ps f) (hr : Room k X.A) (gd : X.A.guards = some []) (hb : Binds X.K fd ps []) (hx : Passes CX X Ex)
    (I : Inv X pins σ H sh) (r : Vals vs us) (h : spZ (gx X) f vs H Q Ex) : wpAny (model X.prog X.w) X.A (call (.ref a) us) (EP X pins σ Q) X.xe sh := by
  have hlen : (us ++ []).length = ps.length := by
    obtain ⟨W, s, pvs, rp, st, post⟩ := h
    rw [List.append_nil, ← r.length, ← rp.length]
    by_cases hn : pvs.length = ps.length
    · exact hn
    · rw [F.arity _ _ hn] at post; exact post.elim
  have hbd := hb sh us I.kIn hlen
  rw [List.append_nil] at hbd
  refine wpAny_call (codeAny_mono (F.runs X.A X.stack sh H ⟨us, []⟩ us vs Q Ex hr gd I.env0 hbd r h) fun res s' fin => ?_)
  cases res with
  | error err => exact hx pins σ H sh err s' I fin
  | ok fl =>
    cases fl with
    | ret u => exact I.after fin
    | next => exact fin.elim
    | brk => exact fin.elim
    | cont => exact fin.elim
theorem spz_of {m : AM} {σ : L2.St} {H : Hp} {Q : VK} (h : tE (gx X) Ex (eCall f m) σ H Q) : tA (gx X) Ex m σ H fun vs H1 => spZ (gx X) f vs H1 Q Ex := by
  obtain ⟨W, s, env, he, hs, h⟩ := h
  exact tA_bind he hs h fun xs s1 W1 H1 us l1 he1 hs1 r1 h1 => ⟨W1, s1, xs, r1, hs1, h1.mono (fun _ _ z => z.mono l1) fun _ _ _ z => z⟩
theorem se_call (F : FnZ X.prog X.w X.K X.mg X.base CX k a fd ps f) (hr : Room k X.A) (gd : X.A.guards = some []) (hg : Gl X x) (hm : X.mg x = some (.ref a)) (hk : PySem.W.keepIn X.K (.ref a) = true) (hb : Binds X.K fd ps []) (hx : Passes CX X Ex)
    (ha : PA X (e :: es) (tA (gx X) Ex m)) (hdb : (x == ("__debug__" : Str)) = false := by decide) (he : starEach (e :: es) X.env = (false, eval e X.env) :: starEach es X.env := by rfl) (hpl : (backTo pos (starEach es X.env)).any (·.1) = false := by rfl) :
    PE X (.Call (.Name x p) (e :: es) [] pos) (tE (gx X) Ex (eCall f m)) := by
  refine ⟨fun pins sh σ H Q I h => wpAny_Call_Name_kw (ld_glob I hg hm ?_ hdb)⟩
  exact PySem.W.callWith_K (h₀ := X.base) I.ok.mod.kin hk (thn (ha.run pos pins sh σ H _ I (spz_of h)) fun us s1 ⟨vs, H1, I1, r, q⟩ => ⟨I1.kIn, call_fz F hr gd hb hx I1 r q⟩) he hpl
theorem se_call0 (F : FnZ X.prog X.w X.K X.mg X.base CX k a fd ps f) (hr : Room k X.A) (gd : X.A.guards = some []) (hg : Gl X x) (hm : X.mg x = some (.ref a)) (hk : PySem.W.keepIn X.K (.ref a) = true) (hb : Binds X.K fd ps []) (hx : Passes CX X Ex)
    (hdb : (x == ("__debug__" : Str)) = false := by decide) : PE X (.Call (.Name x p) [] [] pos) (tE (gx X) Ex (eCall f aNil)) := by
  refine ⟨fun pins sh σ H Q I h => wpAny_Call_Name_kw (ld_glob I hg hm ?_ hdb)⟩
  have q := spz_of (X := X) (m := aNil) h
  obtain ⟨W, s, env, he, hs, post⟩ := q
  exact PySem.W.callWith_K0 I.kIn hk (call_fz (us := []) F hr gd hb hx I .nil (post W H [] (Wd.Le.refl W) hs .nil))
/-- keywords' values -/
theorem sk_nil : PK X [] (tA (gx X) Ex aNil) := ⟨fun pos pins sh σ H Q I ⟨W, s, env, he, hs, h⟩ => pk_nil.run pos pins sh σ H Q I (h W H [] (Wd.Le.refl W) hs .nil)⟩
theorem sk_cons {e : Expr} {kws : List Keyword} {nm : Option Str} {kpos : Pos} {m : EM} {ms : AM} (ha : PE X e (tE (gx X) Ex m)) (hr : PK X kws (tA (gx X) Ex ms)) : PK X (⟨nm, e, kpos⟩ :: kws) (tA (gx X) Ex (aCons m ms)) := by
  refine ⟨fun pos pins sh σ H Q I ⟨W, s, env, he, hs, h⟩ => (pk_cons (nm := nm) (kpos := kpos) ha hr).run pos pins sh σ H Q I ?_⟩
  refine tE_bind he hs h fun x s1 W1 H1 u l1 he1 hs1 r1 h1 => ?_
  refine tA_bind he1 hs1 h1 fun xs s2 W2 H2 us l2 he2 hs2 r2 h2 => ?_
  exact h2 W2 H2 _ (l1.trans l2) hs2 (.cons (r1.mono l2) r2)
/-- n values by place, the rest by keyword in any order: the order is ix's -/
def pick (ix : List Nat) (n : Nat) {α : Type} (us ws : List α) : List α := us ++ ix.filterMap fun i => ws[i]?
def eCallK (f : FM) (ix : List Nat) (n : Nat) (m mk : AM) : EM := fun env s => (m env s).bind fun vs s1 => (mk env s1).bind fun zs s2 => if vs.length = n ∧ zs.length = ix.length then f (pick ix n vs zs) s2 else .fail
theorem reps_pick {K : PySem.W.Frag} {W : Wd} {ix : List Nat} {n : Nat} {us ws : List PV} {vs zs : List V} (r : Reps K W us vs) (q : Reps K W ws zs) : Reps K W (pick ix n us ws) (pick ix n vs zs) := by
  refine r.append ?_
  induction ix with
  | nil => exact .nil
  | cons i ix ih =>
    simp only [List.filterMap_cons]
    cases e : ws[i]? with
    | none =>
      have : zs[i]? = none := by
        rw [List.getElem?_eq_none_iff] at e ⊢
        rw [← q.length]; exact e
      rw [this]; exact ih
    | some x =>
      obtain ⟨v, e', rv⟩ := q.get e
      rw [e']; exact .cons rv ih
theorem vals_pick {ix : List Nat} {n : Nat} {us ws : List Value} {vs zs : List V} (r : Vals vs us) (q : Vals zs ws) : Vals (pick ix n vs zs) (pick ix n us ws) := by
  refine r.append ?_
  induction ix with
  | nil => exact .nil
  | cons i ix ih =>
    simp only [List.filterMap_cons]
    cases e : zs[i]? with
    | none =>
      have : ws[i]? = none := by
        rw [List.getElem?_eq_none_iff] at e ⊢
        rw [← q.length]; exact e
      rw [this]; exact ih
    | some x =>
      obtain ⟨v, e', rv⟩ := q.get e
      rw [e']; exact .cons rv ih
/-- how such a call binds -/
def KBz (K : PySem.W.Frag) (fd : FuncData) (ps ks : List Str) (ix : List Nat) (n : Nat) : Prop :=
  ∀ (sh : Shared) (us ws : List Value), K.In sh.heap → us.length = n → ws.length = ks.length → BindsTo sh fd ⟨us, ks.zip ws⟩ (ps.zip (pick ix n us ws))
theorem call_fzk {pins : List (Addr × Obj)} {σ : L2.St} {H : Hp} {sh : Shared} {Q : VK} {us ws : List Value} {vs zs : List V} {ks : List Str} {ix : List Nat} {n : Nat} (F : FnZ X.prog X.w X.K X.mg X.base CX k a fd ps f) (hr : Room k X.A) (gd : X.A.guards = some []) (hb : KBz X.K fd ps ks ix n) (hx : Passes CX X Ex)
    (I : Inv X pins σ H sh) (r : Vals vs us) (rz : Vals zs ws) (h1 : vs.length = n) (h2 : zs.length = ks.length) (h : spZ (gx X) f (pick ix n vs zs) H Q Ex) : wpAny (model X.prog X.w) X.A (call (.ref a) us (ks.zip ws)) (EP X pins σ Q) X.xe sh := by
  refine wpAny_call (codeAny_mono (F.runs X.A X.stack sh H ⟨us, ks.zip ws⟩ (pick ix n us ws) (pick ix n vs zs) Q Ex hr gd I.env0 (hb sh us ws I.kIn (by rw [← r.length]; exact h1) (by rw [← rz.length]; exact h2)) (vals_pick r rz) h) fun res s' fin => ?_)
  cases res with
  | error err => exact hx pins σ H sh err s' I fin
  | ok fl =>
    cases fl with
    | ret u => exact I.after fin
    | next => exact fin.elim
    | brk => exact fin.elim
    | cont => exact fin.elim
theorem spzk_of {m mk : AM} {ix : List Nat} {n : Nat} {σ : L2.St} {H : Hp} {Q : VK} (h : tE (gx X) Ex (eCallK f ix n m mk) σ H Q) : tA (gx X) Ex m σ H fun vs H1 => tA (gx X) Ex mk σ H1 fun zs H2 => (vs.length = n ∧ zs.length = ix.length) ∧ spZ (gx X) f (pick ix n vs zs) H2 Q Ex := by
  obtain ⟨W, s, env, he, hs, h⟩ := h
  refine tA_bind he hs h fun xs s1 W1 H1 us l1 he1 hs1 r1 h1 => ?_
  refine tA_bind he1 hs1 h1 fun ys s2 W2 H2 ws l2 he2 hs2 r2 h2 => ?_
  split at h2
  · rename_i hl
    exact ⟨⟨by rw [← r1.length]; exact hl.1, by rw [← r2.length]; exact hl.2⟩, W2, s2, _, reps_pick (r1.mono l2) r2, hs2, h2.mono (fun _ _ z => z.mono (l1.trans l2)) fun _ _ _ z => z⟩
  · exact h2.elim
theorem se_callK {kws : List Keyword} {mk : AM} {ks : List Str} {ix : List Nat} {n : Nat} (F : FnZ X.prog X.w X.K X.mg X.base CX k a fd ps f) (hr : Room k X.A) (gd : X.A.guards = some []) (hg : Gl X x) (hm : X.mg x = some (.ref a)) (hk : PySem.W.keepIn X.K (.ref a) = true) (hb : KBz X.K fd ps ks ix n) (hx : Passes CX X Ex) (hix : ix.length = ks.length)
    (ha : PA X (e :: es) (tA (gx X) Ex m)) (hkw : PK X kws (tA (gx X) Ex mk)) (hall : (backToKw pos (keywordEach kws X.env)).all (·.1.isSome) = true := by rfl) (hks : (backToKw pos (keywordEach kws X.env)).filterMap (·.1) = ks := by rfl)
    (hdb : (x == ("__debug__" : Str)) = false := by decide) (he : starEach (e :: es) X.env = (false, eval e X.env) :: starEach es X.env := by rfl)
    (hpl : ((backTo pos (starEach (e :: es) X.env)).any (·.1) || (backToKw pos (keywordEach kws X.env)).any (·.1.isNone)) = false := by rfl) : PE X (.Call (.Name x p) (e :: es) kws pos) (tE (gx X) Ex (eCallK f ix n m mk)) := by
  refine ⟨fun pins sh σ H Q I h => wpAny_Call_Name_kw (ld_glob I hg hm ?_ hdb)⟩
  refine PySem.W.callWith_KW (h₀ := X.base) I.ok.mod.kin hk hall (thn (ha.run pos pins sh σ H _ I (spzk_of h)) fun us s1 ⟨vs, H1, I1, r, q⟩ => ?_) hpl he
  refine thn (hkw.run pos pins s1 σ H1 _ I1 q) fun ws s2 ⟨zs, H2, I2, rz, q2⟩ => ⟨I2.kIn, ?_⟩
  rw [hks]
  exact call_fzk F hr gd hb hx I2 r rz q2.1.1 (by rw [← hix]; exact q2.1.2) q2.2
end
/-- no exception ever leaves a def -/
def CXN : CXT := fun _ _ _ _ _ _ => False
theorem passN {X : Cx} {Ex : XK} : Passes CXN X Ex := fun _ _ _ _ _ _ _ h => h.elim

/-! ### the end -/
theorem end_call {P : Program} {w : World} {K : PySem.W.Frag} {mg mb : Str → Option Value} {CX : CXT} {k : Nat} {f a : Addr} {fd : FuncData} {x : Str} {m : FM} {sh : Shared} {vs : List Value} {ns : List Int}
    (KX : K.In sh.heap) (hns : sh.heap.Ns mainGlobals mg) (hbn : sh.heap.Ns builtinsNs mb) (hbb : ∀ y : Str, y ≠ "__name__" → mb y = bootBuiltins y) (hlim : sh.heap.NoLimit) (hgn : sh.gens = #[])
    (ha : sh.heap.get? a = some { cls := .type "list", data := .seq vs.toArray }) (hi : IntsAre vs ns) (hl : ns.length ≤ sizeLine) (hr : Room k callerA)
    (F : ∀ base : Heap, K.In base → base.Ns mainGlobals mg → FnZ P w K mg base CX k f fd [x] m) (hbind : ∀ (s : Shared) (u : Value), BindsTo s fd ⟨[u], []⟩ [(x, u)])
    (hm : Post (m [.scr (ns.map .int)] []) (fun v _ => v = .bl true) fun _ _ _ => False) (hCX : ∀ H e s', CX [] H sh (fun _ _ _ => False) e s' → False) :
    codeAny (model P w) callerA (.call (.ref f) ⟨[.ref a], []⟩) (fun r s' => r = .ok (.ret (.bool true)) ∧ OldK sh.heap s'.heap ∧ s'.os = sh.os ∧ AllBare s'.gens) sh := by
  have reps : ∀ (W : Wd) (l : List Int), Reps K W (l.map .int) (l.map V.int) := fun W l => by
    induction l with
    | nil => exact .nil
    | cons n l ih => exact .cons (.int n) ih
  -- the heap H in which at most the script stands, known to its object
  have go : ∀ H : Hp, (∀ b u, H b = some u → b = a ∧ u = .frz { cls := .type "list", data := .seq vs.toArray } (.lst (ns.map V.int)) ∧ K.lookup a = none) → SqL K H a (ns.map V.int) → HOk P w H sh.heap →
      codeAny (model P w) callerA (.call (.ref f) ⟨[.ref a], []⟩) (fun r s' => r = .ok (.ret (.bool true)) ∧ OldK sh.heap s'.heap ∧ s'.os = sh.os ∧ AllBare s'.gens) sh := by
    intro H only scr hok
    have out : ∀ {b : Addr} {o : Obj}, sh.heap.get? b = some o → H b = none → (hidT sh.heap H).get? b = some o := fun e n => hidT_get e n
    have dicts : ∀ {b : Addr} {o : Obj} {es : Array DictEntry} {ep : Nat}, sh.heap.get? b = some o → o.data = .dict es ep → H b = none := fun {b o es ep} e d => by
      rcases hq : H b with _ | u
      · rfl
      · obtain ⟨rfl, _, _⟩ := only b u hq
        rw [ha] at e; cases e; cases d
    have nss : ∀ {b : Addr} {mm : Str → Option Value}, sh.heap.Ns b mm → (hidT sh.heap H).Ns b mm := fun {b mm} ⟨o, es, ep, e, d, r⟩ => ⟨o, es, ep, out e (dicts e d), d, r⟩
    have kin : K.In (hidT sh.heap H) := fun b o e => out (KX b o e) (by
      rcases hq : H b with _ | u
      · rfl
      · obtain ⟨rfl, _, hk⟩ := only b u hq
        rw [hk] at e; cases e)
    have md : Mod K mg (hidT sh.heap H) := ⟨kin, nss hns, ⟨mb, nss hbn, hbb⟩, let ⟨mc, h1, h2⟩ := hlim; ⟨mc, nss h1, h2⟩⟩
    have e0 : Env0 P w K mg (hidT sh.heap H) callerA [] sh H := ⟨rfl, md, fun b o e => of_hidT e, Nat.le_of_eq (hidT_size _ _), trivial, fun b hb => (nomatch hb), hok, .of_eq hgn⟩
    have st : StR ⟨K, mg⟩ ⟨H, [], fun _ => none⟩ H [] := ⟨Sub.refl _, rfl, List.nodup_nil, fun n a e => by simp at e, fun n a o e => by simp at e, fun n a o e => by simp at e, fun b u e => (by cases e), fun n a e => rfl, fun b q => absurd rfl q⟩
    refine codeAny_mono ((F _ kin (nss hns)).runs callerA [] sh H ⟨[.ref a], []⟩ [.ref a] [.ref a] (fun v _ => v = .bl true) (fun _ _ _ => False) hr rfl e0 (hbind sh (.ref a)) (.cons rfl .nil)
      ⟨⟨H, [], fun _ => none⟩, [], [.scr (ns.map .int)], .cons (.scr scr (reps _ ns)) .nil, st, hm.mono (fun v s q W' H' u l hs r => by subst q; cases r; rfl) fun _ _ _ z => z.elim⟩) fun r s' h => ?_
    cases r with
    | error e => exact (hCX H e s' h).elim
    | ok fl =>
      cases fl with
      | next => exact h.elim
      | brk => exact h.elim
      | cont => exact h.elim
      | ret u =>
        obtain ⟨v, H', os, bare, un, hok', r', rfl⟩ := h
        obtain rfl : u = Value.bool true := r'
        refine ⟨rfl, OldK.of_keep fun b o e => ?_, os, bare⟩
        rcases hq : H b with _ | u
        · exact un.keep b o e hq (by intro z; exact nomatch z) (by simp)
        · obtain ⟨rfl, rfl, _⟩ := only b u hq
          obtain ⟨e2, _⟩ := hok' b _ (un.frzs b _ _ hq)
          rw [ha] at e; cases e
          exact e2
  have rv := vals_ints hi
  rcases hk : K.lookup a with _ | o
  · have hz : (fun b => if b = a then some (HO.frz { cls := .type "list", data := .seq vs.toArray } (.lst (ns.map V.int))) else none : Hp) a = some (HO.frz { cls := .type "list", data := .seq vs.toArray } (.lst (ns.map V.int))) := if_pos rfl
    have inv : ∀ b u, (fun b => if b = a then some (HO.frz { cls := .type "list", data := .seq vs.toArray } (.lst (ns.map V.int))) else none : Hp) b = some u → b = a ∧ u = HO.frz { cls := .type "list", data := .seq vs.toArray } (.lst (ns.map V.int)) := fun b u e => by
      by_cases hb : b = a
      · have e' := (if_pos hb).symm.trans e
        cases e'; exact ⟨hb, rfl⟩
      · have e' := (if_neg hb).symm.trans e
        cases e'
    refine go _ (fun b u e => ⟨(inv b u e).1, (inv b u e).2, hk⟩) (.inl (.inr ⟨_, hz⟩)) fun b u e => ?_
    obtain ⟨rfl, rfl⟩ := inv b u e
    exact ⟨ha, by rw [List.length_map]; exact hl, vs, _, rv, ha⟩
  · have e := KX a o hk
    rw [ha] at e
    cases e
    exact go (fun _ => none) (fun b u z => by cases z) (.inr ⟨_, vs.toArray, _, hk, rfl, rfl, rfl, by rw [List.size_toArray, hi.length]; exact hl, by simpa using rv⟩) fun b u z => by cases z
theorem end_law {l : PySem.W.OpenLaw} {n k : Nat} {q : Program} {loose : List Str} {XP : (Str → Option Value) → Heap → Prop} {YP : World → Heap → Prop} {d : DefRec} {CX : CXT} {x : Str}
    (hn : l.most = some n) (hn2 : n ≤ sizeLine) (hdf : d.params.defaults = []) (hr : Room k callerA)
    (F : ∀ (w : World) (mg : Str → Option Value) (f : Addr) (h : Heap), YP w h → h.Ns mainGlobals mg → mg d.name = some (.ref f) →
      ∃ (K : PySem.W.Frag) (fd : FuncData) (m : FM), K.In h ∧ (∀ (s : Shared) (u : Value), BindsTo s fd ⟨[u], []⟩ [(x, u)]) ∧
        (∀ ns : List Int, ns.length ≤ n → Post (m [.scr (ns.map .int)] []) (fun v _ => v = .bl true) fun _ _ _ => False) ∧
        ∀ base : Heap, K.In base → base.Ns mainGlobals mg → FnZ l.prog w K mg base CX k f fd [x] m)
    (hCX : ∀ (H : Hp) (s : Shared) (e : Value) (s' : Shared), CX [] H s (fun _ _ _ => False) e s' → False) :
    PySem.W.WalkO q loose XP YP l.row.toRowW d [] (fun f vs => PySem.call f vs) := by
  refine Att.attach_call hn hdf fun w s₀ sh mg mb f o pm cd doc a vs ns G Y ho hd hcd hmg hobj hints hlen hgn => ?_
  obtain ⟨K, fd, m, KX, hb, hm, hF⟩ := F w mg f _ Y G.T.g hmg
  exact end_call KX G.T.g G.T.b G.T.builtins G.T.nolimit hgn hobj hints (Nat.le_trans hlen hn2) hr hF hb (hm ns hlen) fun H e s' => hCX H sh e s'
end Z

set_option Elab.async false
set_option linter.all false
set_option maxRecDepth 100000
set_option maxHeartbeats 4000000
/-! Z10: x[::-1] of tuples too, constants of the module, the head's Hook, repr, calls by keywords alone. -/
namespace Z
open PySem PySem.Spec PyProof.Rows L2

/-! ### x[::-1] -/
section
variable {prog : Program} {w : World} {A : Around} {E : Value → Shared → Prop} {sh : Shared}
theorem neg_places (n : Nat) : Builtin.Slice.sliceAdjust none none (-1) (n : Int) = ((n : Int) - 1, -1) ∧ Builtin.Slice.slicePlaces ((n : Int) - 1) (-1) (-1) = n := by
  refine ⟨rfl, ?_⟩
  unfold Builtin.Slice.slicePlaces
  rw [if_neg (by decide)]
  by_cases h : (n : Int) - 1 > -1
  · rw [if_pos h]
    have : ((n : Int) - 1 - -1 - 1) / (- -1) = (n : Int) - 1 := by
      rw [show (- -1 : Int) = 1 from rfl, Int.ediv_one]; omega
    rw [this]; omega
  · rw [if_neg h]; omega
theorem neg_pick (xs : Array Value) : ((List.range xs.size).filterMap fun (k : Nat) => xs[((xs.size : Int) - 1 + (k : Int) * -1).toNat]?) = xs.toList.reverse := by
  refine List.ext_getElem? fun i => ?_
  have key : ∀ m, m ≤ xs.size → ((List.range m).filterMap fun (k : Nat) => xs[((xs.size : Int) - 1 + (k : Int) * -1).toNat]?) = xs.toList.reverse.take m := by
    intro m
    induction m with
    | zero => intro _; simp
    | succ m ih =>
      intro hm
      have e : ((xs.size : Int) - 1 + (m : Int) * -1).toNat = xs.size - 1 - m := by omega
      have hl : m < xs.toList.reverse.length := by simp; omega
      rw [List.range_succ, List.filterMap_append, ih (by omega), List.take_add_one, List.getElem?_eq_getElem hl, List.getElem_reverse]
      simp only [List.filterMap_cons, List.filterMap_nil, e]
      rw [Array.getElem?_eq_getElem (show xs.size - 1 - m < xs.size by omega)]
      simp
  rw [key xs.size (Nat.le_refl _), List.take_of_length_le (by simp)]
theorem get_tuple_back {t sl : Addr} {items : Array Value} {vl vu vs : Value} {Q : Value → Shared → Prop} (ht : IsTup sh.heap t items) (hs : sh.heap.IsSliceOf sl vl vu vs) (pl : PySem.IsPart vl none) (pu : PySem.IsPart vu none) (ps : PySem.IsPart vs (some (-1)))
    (h : Q (.ref sh.heap.objs.size) { sh with heap := sh.heap.push { cls := .type "tuple", data := .seq items.toList.reverse.toArray } }) (hsz : items.size ≤ sizeLine) : wpAny (model prog w) A (getItem (.ref t) (.ref sl)) Q E sh := by
  cases pl
  cases pu
  obtain ⟨o, ho, ec, ed⟩ := id hs
  cases ps with
  | int _ tok =>
  unfold getItem
  refine wpAny_holding (wpAny_bind (wpAny_sequenceKey ht.typeIs (by decide) (wpAny_bind (wpAny_callSpecial?_slot (name := Str.ofString "__getitem__") ht.typeIs PyProof.Rows.slot_tuple_getitem
    (wpAny_call_entry PyProof.Rows.slot_tuple_getitem ht.typeIs PyProof.Rows.entry_tuple_getitem ?_ (PyProof.Rows.args_tuple_getitem _ _))))))
  show wpAny _ _ (Builtin.Tuple.tupleItemsOf (.ref t) >>= _) _ _ sh
  refine wpAny_bind (tupleItemsOf_ ht (wpAny_bind (wpAny_typeOf (⟨o, ho, ec⟩ : sh.TypeIs (.ref sl) "slice") ?_)))
  rw [if_pos (by decide)]
  refine wpAny_bind ?_
  unfold Builtin.Slice.sliceApplied Builtin.Slice.sliceFields
  refine wpAny_bind (wpAny_bind (wpAny_field ho ed (x := .none) rfl (wpAny_bind (wpAny_field ho ed (x := .none) rfl (wpAny_bind (wpAny_field ho ed (x := .int (-1) tok) rfl (wpAny_pure ?_)))))))
  refine wpAny_bind (slicePart_int ?_)
  show wpAny _ _ (if ((-1 : Int) == 0) = true then _ else _) _ _ sh
  rw [if_neg (by decide)]
  refine wpAny_bind (slicePart_none (wpAny_bind (slicePart_none (wpAny_bind (wpAny_pure ?_)))))
  show wpAny _ _ (match Builtin.Slice.sliceAdjust none none (-1) (items.size : Int) with | (lo, hi) => pure (lo, (-1 : Int), Builtin.Slice.slicePlaces lo hi (-1))) _ _ sh
  rw [(neg_places items.size).1]
  show wpAny _ _ (pure ((items.size : Int) - 1, (-1 : Int), Builtin.Slice.slicePlaces ((items.size : Int) - 1) (-1) (-1))) _ _ sh
  rw [(neg_places items.size).2]
  refine wpAny_pure ?_
  show wpAny _ _ (if ((items.size : Int) - 1 == 0 && (-1 : Int) == 1 && items.size == items.size) = true then _ else _) _ _ sh
  rw [if_neg (by simp), neg_pick]
  have fits : sizeOk (.seq items.toList.reverse.toArray) := by
    show items.toList.reverse.toArray.size ≤ sizeLine
    simpa using hsz
  first
    | exact wpAny_bind (m := Builtin.Tuple.tupleExact _) (wpAny_newObj_type (wpAny_pure ⟨_, rfl, wpAny_pure h⟩) fits)
    | exact wpAny_bind (m := Builtin.Tuple.tupleExact _) (wpAny_newObj_type (wpAny_bind (wpAny_pure (wpAny_pure ⟨_, rfl, wpAny_pure h⟩))) fits)
    | exact wpAny_bind (wpAny_bind (m := Builtin.Tuple.tupleExact _) (wpAny_newObj_type (wpAny_pure (wpAny_pure ⟨_, rfl, wpAny_pure h⟩)) fits))
    | exact wpAny_bind (wpAny_bind (m := Builtin.Tuple.tupleExact _) (wpAny_newObj_type (wpAny_pure ⟨_, rfl, wpAny_pure h⟩) fits))
end
section
variable {X : Cx} {Ex : XK} {pos : Pos} {e : Expr}
def tBackT (K : PySem.W.Frag) (te : TE) : TE := fun σ H Q => te σ H fun x H1 => ∃ a xs, x = .ref a ∧ SqT K H1 a xs ∧ ∀ p, H1 p = none → Q (.ref p) (upd H1 p (.tup xs.reverse))
theorem pe_backT {te : TE} {k : Nat} {p1 p2 p3 : Pos} (he : PE X e te) : PE X (.Subscript e (.Slice none none (some (.UnaryOp .USub (.Constant (.int 1) k p1) p2)) p3) pos) (tBackT X.K te) := by
  refine ⟨fun pins sh σ H Q I h => Subscript_ (thn (he.run pins sh σ H _ I h) fun v s1 q => ?_)⟩
  obtain ⟨x, H1, I1, r1, a, xs, rfl, hx, goal⟩ := q
  cases r1
  have one : PO X (some (.UnaryOp .USub (.Constant (.int 1) k p1) p2)) (tPart (tUn (rU fun i => .int (-i)) (tC (.int 1)))) := po_some (pe_un un_neg pe_int)
  refine wpAny_Slice (thn (po_none.run pins s1 σ H1 (fun o H' => o = none ∧ H' = H1) I1 ⟨rfl, rfl⟩) fun vl s2 q => ?_)
  obtain ⟨_, _, I2, pl, rfl, rfl⟩ := q
  refine thn (po_none.run pins s2 σ _ (fun o H' => o = none ∧ H' = _) I2 ⟨rfl, rfl⟩) fun vu s3 q => ?_
  obtain ⟨_, _, I3, pu, rfl, rfl⟩ := q
  refine thn (one.run pins s3 σ _ (fun o H' => o = some (-1) ∧ H' = _) I3 ⟨1, rfl, -1, rfl, rfl, rfl⟩) fun vs s4 q => ?_
  obtain ⟨_, H4, I4, ps, rfl, rfl⟩ := q
  have I5 := I4.kept (h' := s4.heap.push { cls := .type "slice", data := .fields #[vl, vu, vs] }) (t' := s4.toks) fun b ob q => Heap.get?_push_of_some _ q
  obtain ⟨its, r, ht, hz⟩ := I5.tuple hx
  show wpAny (model X.prog X.w) X.A (subscriptTail e (.Slice none none (some (.UnaryOp .USub (.Constant (.int 1) k p1) p2)) p3) (.ref a) (.ref s4.heap.objs.size)) (EP X pins σ Q) X.xe { s4 with heap := s4.heap.push { cls := .type "slice", data := .fields #[vl, vu, vs] } }
  refine tail_any (ops := [.ref a, .ref s4.heap.objs.size]) ht.typeIs (PyProof.Rows.slot_tuple_getitem.lookup) (get_tuple_back ht (Heap.IsSliceOf.new _ vl vu vs) pl pu ps ?_ (by rw [List.size_toArray, ← r.length]; omega)) (by with_unfolding_all rfl)
  refine ⟨.ref _, _, I5.laid (t' := s4.toks) (o := .tup xs.reverse) (fun b ob q => Heap.get?_push_of_some _ q) (Nat.le_refl _) ?_, rfl, goal _ (I5.hok.fresh (Nat.le_refl _))⟩
  exact ⟨by rw [List.length_reverse]; omega, its.reverse, by simpa using r.reverse, _, Heap.get?_push_size _ rfl, rfl, 0, by simp⟩
def uBack (mu : Bool) : O1 := fun x s =>
  match x with
  | .tup xs => newT xs.reverse s
  | x => uRevL mu x s
theorem tE_ok {g : G} {α : Type} {W : Wd} {s : S} {env : En} {σ : L2.St} {H : Hp} {m : EM} {k : PV → S → Rs α} {Q : α → S → Prop} {R : VK} (he : EnvR g.K W env σ) (hs : StR g W H s) (h : Post ((m env s).bind k) Q (XW g W Ex))
    (hk : ∀ v s1 W1 H1 u, m env s = .ok v s1 → W.Le W1 → EnvR g.K W1 env σ → StR g W1 H1 s1 → Rep g.K W1 v u → Post (k v s1) Q (XW g W1 Ex) → R u H1) : tE g Ex m σ H R := by
  refine ⟨W, s, env, he, hs, ?_⟩
  have hb := h.bind
  cases hm : m env s with
  | ok v s1 =>
    rw [hm] at hb
    have hb : Post (k v s1) Q (XW g W Ex) := hb
    exact fun W1 H1 u l hs1 r => hk v s1 W1 H1 u hm l (he.mono l) hs1 r (hb.mono (fun _ _ z => z) fun _ _ _ z => z.mono l)
  | exc c x s1 => rw [hm] at hb; exact hb
  | fail => rw [hm] at hb; exact hb.elim
theorem se_back {k : Nat} {p1 p2 p3 : Pos} (mu : Bool) {m : EM} (he : PE X e (tE (gx X) Ex m)) : PE X (.Subscript e (.Slice none none (some (.UnaryOp .USub (.Constant (.int 1) k p1) p2)) p3) pos) (tE (gx X) Ex (eUn (uBack mu) m)) := by
  refine ⟨fun pins sh σ H Q I ⟨W, s, env, hE, hs, h⟩ => ?_⟩
  by_cases hk : ∃ xs s1, m env s = .ok (.tup xs) s1
  · obtain ⟨xs, s1, em⟩ := hk
    refine (pe_backT he).run pins sh σ H Q I (tE_ok hE hs h fun x s1' W1 H1 u eq l1 he1 hs1 r1 h1 => ?_)
    rw [em] at eq; cases eq
    obtain ⟨v, s', e', hc⟩ := h1.lift
    have e' : newT xs.reverse s1 = some (v, s') := e'
    cases r1 with
    | tup q rr => exact ⟨_, _, rfl, tup_sq hs1 q, (newT_ok hs1 rr.reverse e' (hc.mono l1)).2⟩
  · refine (pe_revL he).run pins sh σ H Q I (tE_ok hE hs h fun x s1 W1 H1 u eq l1 he1 hs1 r1 h1 => ?_)
    obtain ⟨v, s', e', hc⟩ := h1.lift
    have e' : uRevL mu x s1 = some (v, s') := by
      cases x with
      | tup xs => exact absurd ⟨xs, s1, eq⟩ hk
      | _ => exact e'
    unfold uRevL at e'
    split at e' <;> try (cases e'; done)
    rename_i xs e1
    obtain ⟨a, vs, rfl, q1, q2⟩ := rdOf_ok hs1 r1 e1
    exact ⟨a, vs, rfl, q1, (newL_ok hs1 q2.reverse e' (hc.mono l1)).2⟩

/-! ### constants of the module -/
mutual
def cRel (K : PySem.W.Frag) : PV → Value → Bool
  | .non, .none => true
  | .bl b, .bool c => b == c
  | .int i, .int j _ => decide (j = i)
  | .str x, .str y _ => decide (y = x)
  | .tup xs, .ref a => match K.lookup a with
    | some ⟨.type c, _, .seq its _, _⟩ => decide (c = "tuple") && (decide (its.size ≤ sizeLine) && cRels K xs its.toList)
    | _ => false
  | .scr xs, .ref a => match K.lookup a with
    | some ⟨.type c, none, .seq its _, _⟩ => decide (c = "list") && (decide (its.size ≤ sizeLine) && cRels K xs its.toList)
    | _ => false
  | _, _ => false
def cRels (K : PySem.W.Frag) : List PV → List Value → Bool
  | [], [] => true
  | x :: xs, u :: us => cRel K x u && cRels K xs us
  | _, _ => false
end
section
variable {K : PySem.W.Frag}
theorem andp {a b : Bool} (h : (a && b) = true) : a = true ∧ b = true := Bool.and_eq_true_iff.mp h
mutual
theorem cRel_ok : ∀ (c : PV) (u : Value), cRel K c u = true → ∃ v, RelV v u ∧ ∀ W, Rep K W c v
  | .non, u, h => by
    cases u <;> first | exact ⟨.non, rfl, fun W => .non⟩ | (unfold cRel at h; cases h)
  | .bl b, u, h => by
    cases u <;> first | (unfold cRel at h; cases eq_of_beq h; exact ⟨.bl _, rfl, fun W => .bl _⟩) | (unfold cRel at h; cases h)
  | .int i, u, h => by
    cases u <;> first | (unfold cRel at h; cases of_decide_eq_true h; exact ⟨.int _, ⟨_, rfl⟩, fun W => .int _⟩) | (unfold cRel at h; cases h)
  | .str i, u, h => by
    cases u <;> first | (unfold cRel at h; cases of_decide_eq_true h; exact ⟨.str _, ⟨_, rfl⟩, fun W => .str _⟩) | (unfold cRel at h; cases h)
  | .tup xs, u, h => by
    cases u <;> try (unfold cRel at h; cases h; done)
    rename_i a
    unfold cRel at h
    split at h
    · rename_i c d its n sl q
      obtain ⟨h1, h2⟩ := andp h
      obtain ⟨h3, h4⟩ := andp h2
      obtain ⟨vs, r1, r2⟩ := cRels_ok xs its.toList h4
      exact ⟨.ref a, rfl, fun W => .tup (.inr ⟨_, its, n, q, congrArg Value.type (of_decide_eq_true h1), rfl, of_decide_eq_true h3, r1⟩) (r2 W)⟩
    · cases h
  | .scr xs, u, h => by
    cases u <;> try (unfold cRel at h; cases h; done)
    rename_i a
    unfold cRel at h
    split at h
    · rename_i c its n sl q
      obtain ⟨h1, h2⟩ := andp h
      obtain ⟨h3, h4⟩ := andp h2
      obtain ⟨vs, r1, r2⟩ := cRels_ok xs its.toList h4
      exact ⟨.ref a, rfl, fun W => .scr (.inr ⟨_, its, n, q, congrArg Value.type (of_decide_eq_true h1), rfl, rfl, of_decide_eq_true h3, r1⟩) (r2 W)⟩
    · cases h
  | .lst _, u, h => by unfold cRel at h; cases h
  | .dic _, u, h => by unfold cRel at h; cases h
  | .obj _, u, h => by unfold cRel at h; cases h
theorem cRels_ok : ∀ (c : List PV) (u : List Value), cRels K c u = true → ∃ v, Vals v u ∧ ∀ W, Reps K W c v
  | [], u, h => by
    cases u with
    | nil => exact ⟨[], .nil, fun W => .nil⟩
    | cons _ _ => unfold cRels at h; cases h
  | x :: xs, u, h => by
    cases u with
    | nil => unfold cRels at h; cases h
    | cons y ys =>
      unfold cRels at h
      obtain ⟨h1, h2⟩ := andp h
      obtain ⟨v, r1, r2⟩ := cRel_ok x y h1
      obtain ⟨vs, r3, r4⟩ := cRels_ok xs ys h2
      exact ⟨v :: vs, .cons r1 r3, fun W => .cons (r2 W) (r4 W)⟩
end
def conB (K : PySem.W.Frag) (p : Str × PV) : Bool := match PySem.W.nsIn K mainGlobals p.1 with
  | some (some u) => cRel K p.2 u
  | _ => false
end
/-- a name of the module that stands for c -/
def Con (K : PySem.W.Frag) (mg : Str → Option Value) (x : Str) (c : PV) : Prop := ∃ u v, mg x = some u ∧ RelV v u ∧ ∀ W, Rep K W c v
theorem conB_ok {K : PySem.W.Frag} {h : Heap} {mg : Str → Option Value} {x : Str} {c : PV} (X : K.In h) (G : h.Ns mainGlobals mg) (hc : conB K (x, c) = true) : Con K mg x c := by
  unfold conB at hc
  split at hc
  · rename_i u q
    obtain ⟨v, r1, r2⟩ := cRel_ok c u hc
    exact ⟨u, v, PySem.W.mg_of X G q, r1, r2⟩
  · cases hc
theorem se_con {x : Str} {c : PV} (hg : Gl X x) (h : Con X.K X.mg x c) (hd : (x == ("__debug__" : Str)) = false := by decide) : PE X (.Name x pos) (tE (gx X) Ex (eC c)) := by
  obtain ⟨u, v, h1, h2, h3⟩ := h
  exact se_const (pe_glob hg h1 h2 hd) h3

/-! ### the head's Hook -/
abbrev AlZ : Type := Bool × He.AlD
/-- the table of modules stands as a dict -/
def SysD (K : PySem.W.Frag) : Prop := ∃ o, K.lookup sysModules = some o ∧ o.cls = .type "dict"
def sysB (K : PySem.W.Frag) : Bool := match K.lookup sysModules with
  | some ⟨.type c, _, _, _⟩ => decide (c = "dict")
  | _ => false
theorem sysB_ok {K : PySem.W.Frag} (h : sysB K = true) : SysD K := by
  unfold sysB at h
  split at h
  · rename_i c d dt sl q
    exact ⟨_, q, congrArg Value.type (of_decide_eq_true h)⟩
  · cases h
def obsZ (fa : List He.Fa) (fn : List He.DefD) (cs : List (Str × PV)) (K : PySem.W.Frag) : AlZ := (sysB K && cs.all (conB K), He.obsD fa fn K)
def obsZG (n : Nat) (fa : List He.Fa) (fn : List He.DefD) (cs : List (Str × PV)) (g : Addr → Option Obj) : AlZ := obsZ fa fn cs (He.frG g (sysModules :: He.asD g n))
def SaysZ (fa : List He.Fa) (fn : List He.DefD) (cs : List (Str × PV)) (K : PySem.W.Frag) : Prop := He.SaysD fa fn K ∧ (sysB K && cs.all (conB K)) = true
def hookZ (n : Nat) (fa : List He.Fa) (fn : List He.DefD) (cs : List (Str × PV)) : PySem.W.Hook where
  α := AlZ
  obs := fun s => obsZG n fa fn cs s.heap.get?
  val := fun _ => (true, He.valD fn)
  says := fun _ h => ∃ K : PySem.W.Frag, K.In h ∧ SaysZ fa fn cs K
  of := fun _ _ e => ⟨_, He.frG_in, congrArg (fun z : AlZ => z.2) e, congrArg (fun z : AlZ => z.1) e⟩
  keeps := fun _ _ _ ⟨K, hK, c⟩ k => ⟨K, PySem.W.Frag.In.keeps hK k, c⟩
theorem obsZG_eq {n : Nat} {fa : List He.Fa} {fn : List He.DefD} {cs : List (Str × PV)} {g : Addr → Option Obj} {s : Shared} (h : ∀ a, g a = s.heap.get? a) : obsZG n fa fn cs g = (hookZ n fa fn cs).obs s := by
  rw [show g = s.heap.get? from funext h]; rfl
theorem SaysZ.con {fa : List He.Fa} {fn : List He.DefD} {cs : List (Str × PV)} {K : PySem.W.Frag} {h : Heap} {mg : Str → Option Value} (c : SaysZ fa fn cs K) (X : K.In h) (G : h.Ns mainGlobals mg) (i : Nat) {x : Str} {v : PV} (e : cs[i]? = some (x, v) := by rfl) : Con K mg x v :=
  conB_ok X G (List.all_eq_true.mp (andp c.2).2 _ (List.mem_of_getElem? e))
theorem SaysZ.sys {fa : List He.Fa} {fn : List He.DefD} {cs : List (Str × PV)} {K : PySem.W.Frag} (c : SaysZ fa fn cs K) : SysD K := sysB_ok (andp c.2).1
end
end Z

set_option Elab.async false
set_option linter.all false
set_option maxRecDepth 100000
set_option maxHeartbeats 4000000
/-! Z11: repr of any data; calls by keywords alone. -/
namespace Z
open PySem PySem.Spec PyProof.Rows L2

def keyD : Key → PyData
  | .inl i => .int i
  | .inr x => .str x
mutual
def toD : PV → Option PyData
  | .non => some .none
  | .bl b => some (.bool b)
  | .int i => some (.int i)
  | .str x => some (.str x)
  | .tup xs => (toDs xs).map .tuple
  | .lst xs => (toDs xs).map .list
  | .scr xs => (toDs xs).map .list
  | .dic kvs => (toDk kvs).map .dict
  | .obj _ => none
def toDs : List PV → Option (List PyData)
  | [] => some []
  | x :: xs => match toD x, toDs xs with
    | some d, some ds => some (d :: ds)
    | _, _ => none
def toDk : List (Key × PV) → Option (List (PyData × PyData))
  | [] => some []
  | (k, x) :: xs => match toD x, toDk xs with
    | some d, some ds => some ((keyD k, d) :: ds)
    | _, _ => none
end
section
variable {X : Cx} {pins : List (Addr × Obj)} {σ : L2.St} {H : Hp} {sh : Shared}
theorem ne_sys (hS : SysD X.K) (I : Inv X pins σ H sh) {a : Addr} {o : Obj} (e : sh.heap.get? a = some o) (c : o.cls = .type "list") : a ≠ sysModules := fun z => by
  obtain ⟨o', e', c'⟩ := hS
  have := I.kIn _ _ e'
  rw [← z, e] at this
  cases this
  rw [c] at c'
  injection c' with c'
  exact absurd c' (by decide)
theorem key_reads {k : Key} {u : Value} (h : keyIs k u = true) : Reads sh.heap u (keyD k) [] := by
  rcases keyIs_shape h with ⟨i, t, rfl, rfl⟩ | ⟨x, t, rfl, rfl⟩
  · exact .int i t
  · exact .str x t
theorem pairs_reads : ∀ {es : List DictEntry} {vs : List (Key × Value)}, Pairs (mixKind X.prog X.w) es vs → ReadsAll sh.heap (es.map (·.key)) (vs.map fun p => keyD p.1) [] ∧ es.map (·.val) = vs.map (·.2)
  | _, _, .nil => ⟨.nil, rfl⟩
  | _, _, .cons (kv := kv) h e t => by
    obtain ⟨q1, q2⟩ := pairs_reads t
    exact ⟨.cons (as := []) (bs := []) (key_reads h) q1, by simp [e, q2]⟩
mutual
theorem rep_reads (hS : SysD X.K) (I : Inv X pins σ H sh) : ∀ {x : PV} {v : V} {u : Value} {d : PyData}, Rep X.K ⟨H, [], fun _ => none⟩ x v → RelV v u → toD x = some d → ∃ as, Reads sh.heap u d as ∧ sysModules ∉ as
  | _, _, _, _, .non, r, e => by cases r; cases e; exact ⟨_, .none, by simp⟩
  | _, _, _, _, .bl b, r, e => by cases r; cases e; exact ⟨_, .bool b, by simp⟩
  | _, _, _, _, .int i, r, e => by obtain ⟨t, rfl⟩ := r; cases e; exact ⟨_, .int i t, by simp⟩
  | _, _, _, _, .str x, r, e => by obtain ⟨t, rfl⟩ := r; cases e; exact ⟨_, .str x t, by simp⟩
  | _, _, _, _, .tup (xs := xs) h q, r, e => by
    cases r
    unfold toD at e
    obtain ⟨ds, e1, rfl⟩ := Option.map_eq_some_iff.mp e
    obtain ⟨its, rv, ⟨o, ho, hc, n, hd⟩, _⟩ := I.tuple h
    obtain ⟨as, hr, hn⟩ := reps_reads hS I q rv e1
    exact ⟨_, .tuple ho hc hd hr, hn⟩
  | _, _, _, _, .lst (xs := xs) h q, r, e => by
    cases r
    unfold toD at e
    obtain ⟨ds, e1, rfl⟩ := Option.map_eq_some_iff.mp e
    obtain ⟨its, rv, ⟨o, n, ho, hc, _, hd⟩, _⟩ := I.list (.inl (.inl h))
    obtain ⟨as, hr, hn⟩ := reps_reads hS I q rv e1
    exact ⟨_, .list ho hc hd hr, fun hm => (List.mem_cons.mp hm).elim (fun z => ne_sys hS I ho hc z.symm) hn⟩
  | _, _, _, _, .scr (xs := xs) h q, r, e => by
    cases r
    unfold toD at e
    obtain ⟨ds, e1, rfl⟩ := Option.map_eq_some_iff.mp e
    obtain ⟨its, rv, ⟨o, n, ho, hc, _, hd⟩, _⟩ := I.list h
    obtain ⟨as, hr, hn⟩ := reps_reads hS I q rv e1
    exact ⟨_, .list ho hc hd hr, fun hm => (List.mem_cons.mp hm).elim (fun z => ne_sys hS I ho hc z.symm) hn⟩
  | _, _, _, _, .dic (kvs := kvs) h q, r, e => by
    cases r
    unfold toD at e
    obtain ⟨ds, e1, rfl⟩ := Option.map_eq_some_iff.mp e
    obtain ⟨_, hsys, vs, kv, o, es, ep, ho, hx, hd, _, pr, _⟩ := I.hok _ _ h
    obtain ⟨q1, q2⟩ := pairs_reads (X := X) (sh := sh) pr
    obtain ⟨as, e2, e3, hr, hn⟩ := kreps_reads hS I q kv e1
    refine ⟨_, .dict ho hx.1 hd (by rw [e2]; exact q1) (by rw [q2]; exact hr), fun hm => ?_⟩
    rcases List.mem_cons.mp hm with z | z
    · rw [z] at hsys; simp at hsys
    · exact hn (by simpa using z)
  | _, _, _, _, .obj h, r, e => by simp at h
theorem reps_reads (hS : SysD X.K) (I : Inv X pins σ H sh) : ∀ {x : List PV} {v : List V} {u : List Value} {d : List PyData}, Reps X.K ⟨H, [], fun _ => none⟩ x v → Vals v u → toDs x = some d → ∃ as, ReadsAll sh.heap u d as ∧ sysModules ∉ as
  | _, _, _, _, .nil, r, e => by cases r; cases e; exact ⟨_, .nil, by simp⟩
  | _, _, _, _, .cons (x := x) (xs := xs) h t, r, e => by
    cases r with
    | cons r rr =>
      unfold toDs at e
      split at e
      · rename_i d ds e1 e2
        cases e
        obtain ⟨as, q1, n1⟩ := rep_reads hS I h r e1
        obtain ⟨bs, q2, n2⟩ := reps_reads hS I t rr e2
        exact ⟨_, .cons q1 q2, fun hm => (List.mem_append.mp hm).elim n1 n2⟩
      · cases e
theorem kreps_reads (hS : SysD X.K) (I : Inv X pins σ H sh) : ∀ {x : List (Key × PV)} {v : List (Key × V)} {u : List (Key × Value)} {d : List (PyData × PyData)}, KReps X.K ⟨H, [], fun _ => none⟩ x v → KV v u → toDk x = some d →
    ∃ as, d.map (·.1) = u.map (fun p => keyD p.1) ∧ True ∧ ReadsAll sh.heap (u.map (·.2)) (d.map (·.2)) as ∧ sysModules ∉ as
  | _, _, _, _, .nil, r, e => by cases r; cases e; exact ⟨_, rfl, trivial, .nil, by simp⟩
  | _, _, _, _, .cons (k := k) (x := x) (xs := xs) h t, r, e => by
    cases r with
    | cons r rr =>
      unfold toDk at e
      split at e
      · rename_i d ds e1 e2
        cases e
        obtain ⟨as, q1, n1⟩ := rep_reads hS I h r.2 e1
        obtain ⟨bs, q0, _, q2, n2⟩ := kreps_reads hS I t rr e2
        exact ⟨_, by simp [q0, ← r.1], trivial, .cons q1 q2, fun hm => (List.mem_append.mp hm).elim n1 n2⟩
      · cases e
end
end
section
variable {K : PySem.W.Frag} {W W' : Wd}
mutual
/-- what is wholly data needs no mutable object -/
theorem rep_noobj (hf : W'.fro = W.fro) : ∀ {x : PV} {v : V} {d : PyData}, Rep K W x v → toD x = some d → Rep K W' x v
  | _, _, _, .non, _ => .non
  | _, _, _, .bl b, _ => .bl b
  | _, _, _, .int i, _ => .int i
  | _, _, _, .str x, _ => .str x
  | _, _, _, .tup h q, e => by
    unfold toD at e
    obtain ⟨ds, e1, _⟩ := Option.map_eq_some_iff.mp e
    exact .tup (by rw [hf]; exact h) (reps_noobj hf q e1)
  | _, _, _, .lst h q, e => by
    unfold toD at e
    obtain ⟨ds, e1, _⟩ := Option.map_eq_some_iff.mp e
    exact .lst (by rw [hf]; exact h) (reps_noobj hf q e1)
  | _, _, _, .scr h q, e => by
    unfold toD at e
    obtain ⟨ds, e1, _⟩ := Option.map_eq_some_iff.mp e
    exact .scr (by rw [hf]; exact h) (reps_noobj hf q e1)
  | _, _, _, .dic h q, e => by
    unfold toD at e
    obtain ⟨ds, e1, _⟩ := Option.map_eq_some_iff.mp e
    exact .dic (by rw [hf]; exact h) (kreps_noobj hf q e1)
  | _, _, _, .obj h, e => by cases e
theorem reps_noobj (hf : W'.fro = W.fro) : ∀ {x : List PV} {v : List V} {d : List PyData}, Reps K W x v → toDs x = some d → Reps K W' x v
  | _, _, _, .nil, _ => .nil
  | _, _, _, .cons h t, e => by
    unfold toDs at e
    split at e
    · rename_i e1 e2; exact .cons (rep_noobj hf h e1) (reps_noobj hf t e2)
    · cases e
theorem kreps_noobj (hf : W'.fro = W.fro) : ∀ {x : List (Key × PV)} {v : List (Key × V)} {d : List (PyData × PyData)}, KReps K W x v → toDk x = some d → KReps K W' x v
  | _, _, _, .nil, _ => .nil
  | _, _, _, .cons h t, e => by
    unfold toDk at e
    split at e
    · rename_i e1 e2; exact .cons (rep_noobj hf h e1) (kreps_noobj hf t e2)
    · cases e
end
end
def shows (d : PyData) : Option Str := if d.showable = true ∧ d.depth ≤ 60 ∧ d.shown.length ≤ 16000000 then some d.shown else none
def bRepr : OL := fun xs s =>
  match xs with
  | [x] => match toD (top s x) with
    | some d => (shows d).map fun z => (.str z, s)
    | none => none
  | _ => none
theorem shows_ok {d : PyData} {z : Str} (h : shows d = some z) : d.showable = true ∧ d.depth ≤ 60 ∧ d.shown.length ≤ sizeLine ∧ z = d.shown := by
  unfold shows at h
  split at h
  · rename_i q
    cases h
    exact ⟨q.1, q.2.1, big_line q.2.2, rfl⟩
  · cases h
section
variable {X : Cx}
theorem c_repr (hS : SysD X.K) (gd : X.A.guards = some []) (hu : X.A.units + 64 < cLine) : CallR X (.builtin "repr") (rL (gx X) bRepr) := by
  intro pins sh σ H xs us Q I r ⟨W, s, pxs, v, s', rp, hs, e, hc⟩
  unfold bRepr at e
  split at e
  case h_2 => cases e
  rename_i x
  split at e
  case h_2 => cases e
  rename_i d ed
  obtain ⟨z, ez, e'⟩ := Option.map_eq_some_iff.mp e
  cases e'
  obtain ⟨h1, h2, h3, rfl⟩ := shows_ok ez
  cases rp with
  | cons rx rr =>
    cases rr
    cases r with
    | cons ru rr =>
      cases rr
      rename_i v0 u
      have rt := top_rep hs rx
      have rt2 : Rep X.K ⟨H, W.ob, W.hid⟩ (top s x) v0 := rt
      have noobj : ∀ n, top s x ≠ .obj n := fun n z => by rw [z] at ed; cases ed
      have fin : ∀ (h' : Heap) (tk tk' : Nat), (∀ b o, sh.heap.get? b = some o → h'.get? b = some o) → EP X pins σ Q (.str d.shown tk) { sh with heap := h', toks := tk' } := fun h' tk tk' hk =>
        ⟨.str d.shown, H, I.kept (t' := tk') hk, ⟨_, rfl⟩, Cont.here hc hs (.str _)⟩
      obtain ⟨as, rd, hno⟩ := rep_reads hS I (x := top s x) (rep_noobj (W := ⟨H, W.ob, W.hid⟩) (W' := ⟨H, [], fun _ => none⟩) rfl rt2 ed) ru ed
      cases rd with
      | none => exact PySem.P.repr_of_none (fin _ _ _ fun _ _ z => z)
      | bool b => exact PySem.P.repr_of_bool (by cases b <;> exact fin _ _ _ fun _ _ z => z)
      | int i t => exact PySem.P.repr_of_int (by simpa [PyData.showable] using h1) (fin _ _ _ fun _ _ z => z)
      | str y t => exact PySem.P.repr_of_str (fin _ _ _ fun _ _ z => z) h3
      | list q1 q2 q3 q4 => exact repr_of_reads' (.list q1 q2 q3 q4) h1 (fun _ => hno) gd (by omega) (fun _ _ z => z) (fun h' u tk hk => fin h' u tk hk) h3
      | tuple q1 q2 q3 q4 => exact repr_of_reads' (.tuple q1 q2 q3 q4) h1 (fun _ => hno) gd (by omega) (fun _ _ z => z) (fun h' u tk hk => fin h' u tk hk) h3
      | dict q1 q2 q3 q4 q5 => exact repr_of_reads' (.dict q1 q2 q3 q4 q5) h1 (fun _ => hno) gd (by omega) (fun _ _ z => z) (fun h' u tk hk => fin h' u tk hk) h3
end
end Z

set_option Elab.async false
set_option linter.all false
set_option maxRecDepth 100000
set_option maxHeartbeats 4000000
/-! Z12: sets of ints and texts made of a list or a tuple: how many there are (printed by gen12.py). -/
namespace Z
open PySem PySem.Spec PyProof.Rows L2

instance lawKey : LawfulBEq Key where
  eq_of_beq := fun {a b} h => by
    cases a <;> cases b
    · exact congrArg Sum.inl (eq_of_beq (show (_ == _) = true from h))
    · cases h
    · cases h
    · exact congrArg Sum.inr (eq_of_beq (show (_ == _) = true from h))
  rfl := fun {a} => by
    cases a
    · exact beq_self_eq_true (α := Int) _
    · exact beq_self_eq_true (α := Str) _
/-- one by one, each once -/
def once (acc : List Key) : List Key → List Key
  | [] => acc
  | k :: ks => once (if k ∈ acc then acc else acc ++ [k]) ks
theorem once_len (acc ks : List Key) : (once acc ks).length ≤ acc.length + ks.length := by
  induction ks generalizing acc with
  | nil => simp [once]
  | cons k ks ih =>
    unfold once
    have := ih (if k ∈ acc then acc else acc ++ [k])
    by_cases h : k ∈ acc
    · rw [if_pos h] at this ⊢; simp; omega
    · rw [if_neg h] at this ⊢; simp at this ⊢; omega
theorem set_congr {prog : Program} {w : World} {h : Heap} {a : Addr} {f g : Key → Bool} {n m : Nat} (x : h.SetOf (mixKind prog w) a f n) (e : ∀ k, f k = g k) (en : n = m) : h.SetOf (mixKind prog w) a g m := by
  rw [← show f = g from funext e, ← en]; exact x
section
variable {prog : Program} {w : World} {A : Around} {R : Result → Shared → Prop} {I : Addr} {fp wr : List Addr} {G : Array GenState → Array GenState → Prop} {n : Nat} {P : Nat → Value → Prop} {St : Nat → Shared → Prop}
theorem set_turns (W : WalksS prog w A.in1 I fp wr G n P St) (T : Addr) (out : T ∉ fp) (ks : List Key) (len : ks.length = n) (small : n < 4000) (val : ∀ i v, P i v → ∃ k, ks[i]? = some k ∧ keyIs k v = true ∧ v.scannable = true) :
    ∀ (rest : List Key) (i : Nat) (acc : List Key) (sh : Shared), rest = ks.drop i → i ≤ n → acc.length ≤ i → St i sh → once acc rest = once [] ks → sh.heap.SetOf (mixKind prog w) T (fun k' => decide (k' ∈ acc)) acc.length →
      (∀ sh', Moved (T :: wr) G sh sh' → sh'.heap.SetOf (mixKind prog w) T (fun k' => decide (k' ∈ once [] ks)) (once [] ks).length → R (.ok (.ret .none)) sh') →
      codeAny (model prog w) A (.builtin "set.update.loop" ⟨[.ref T, .ref I], []⟩) R sh := by
  have outw : T ∉ wr := fun z => out (W.sub _ z)
  have more : ∀ b ∈ wr, b ∈ T :: wr := fun b hb => List.mem_cons_of_mem _ hb
  intro rest
  induction rest with
  | nil =>
    intro i acc sh er hi ha st eo hS goal
    have hin : i = n := by
      have := congrArg List.length er
      simp at this; omega
    subst hin
    refine codeAny_builtin PyProof.Rows.F.entry_set_update_loop ?_
    rw [Around.under_plainId PyProof.Rows.F.plain_set_update_loop _]
    refine (show wpAny _ A.in1 (pyNext (.ref I) >>= _) _ _ sh from wpAny_bind (W.done sh _ _ st fun sh' mv => (show wpAny _ A.in1 (ret Value.none) _ _ sh' from wpAny_pure (goal sh' (mv.mono more) ?_))))
    have eo : acc = once [] ks := eo
    rw [← eo]
    obtain ⟨o, es, ep, t, ho, z⟩ := hS
    exact ⟨o, es, ep, t, mv.heap T _ outw ho, z⟩
  | cons k rest ih =>
    intro i acc sh er hi ha st eo hS goal
    have hlt : i < n := by
      have := congrArg List.length er
      simp at this; omega
    have hk : ks[i]? = some k := by
      have := congrArg (fun l => l[0]?) er
      simpa using this.symm
    have hr : rest = ks.drop (i + 1) := by
      have := congrArg List.tail er
      simpa using this
    refine codeAny_builtin PyProof.Rows.F.entry_set_update_loop ?_
    rw [Around.under_plainId PyProof.Rows.F.plain_set_update_loop _]
    refine (show wpAny _ A.in1 (pyNext (.ref I) >>= _) _ _ sh from wpAny_bind (W.item i sh _ _ hlt st fun v sh' hP st' mv => ?_))
    obtain ⟨k', e', kv, sc⟩ := val i v hP
    rw [hk] at e'; cases e'
    have hS' : sh'.heap.SetOf (mixKind prog w) T (fun k' => decide (k' ∈ acc)) acc.length := by
      obtain ⟨o, es, ep, t, ho, z⟩ := hS
      exact ⟨o, es, ep, t, mv.heap T _ outw ho, z⟩
    refine (show wpAny _ A.in1 (holding [v] (setAdd T v) >>= _) _ _ sh' from wpAny_bind (wpAny_holding ?_))
    unfold setAdd
    refine wpAny_holding (wpAny_bind ((mixKind prog w).pyHash (k := k) kv ?_))
    refine wpAny_setAddHashed_of (knd := mixKind prog w) (s := { sh' with toks := sh'.toks + 1 }) kv sc hS' (by unfold scanBound; omega) fun h' sb hS2 => ?_
    have hS3 : h'.SetOf (mixKind prog w) T (fun k' => decide (k' ∈ (if k ∈ acc then acc else acc ++ [k]))) (if k ∈ acc then acc else acc ++ [k]).length := by
      refine set_congr hS2 (fun k' => ?_) ?_
      · by_cases q : k ∈ acc
        · rw [if_pos q]
          by_cases e : k' = k
          · subst e; simp [q]
          · simp [e]
        · rw [if_neg q]
          by_cases e : k' = k
          · subst e; simp
          · simp [e]
      · by_cases q : k ∈ acc <;> simp [q]
    refine wpAny_pure ⟨plainId_quiet PyProof.Rows.F.plain_set_update_loop _, ih (i + 1) _ _ hr hlt ?_ (W.frame _ sh' _ _ st' (Nat.le_succ _) fun b hb o e => ?_) eo hS3 fun sh2 mv2 q => ?_⟩
    · by_cases q : k ∈ acc
      · rw [if_pos q]; omega
      · rw [if_neg q]; simp; omega
    · rw [sb.2 b (fun z : b = T => out (z ▸ hb))]; exact e
    · refine goal sh2 (Moved.trans W.gtrans ((mv.mono more).then_heap (Nat.le_succ _) fun b o hb e => ?_) mv2) q
      rw [sb.2 b (fun z : b = T => hb (z ▸ List.mem_cons_self))]; exact e
end

section
variable {prog : Program} {w : World} {A : Around} {E : Value → Shared → Prop} {sh : Shared}
theorem set_of_list {l : Addr} {items : Array Value} {ks : List Key} {Q : Value → Shared → Prop} (hh : A.handled = none) (hl : sh.heap.IsList l items) (len : ks.length = items.size) (hv : ∀ (i : Nat) (v : Value), items[i]? = some v → ∃ k, ks[i]? = some k ∧ keyIs k v = true ∧ v.scannable = true) (small : items.size < 4000)
    (goal : ∀ (h' : Heap) (tk : Nat), h'.SetOf (mixKind prog w) sh.heap.objs.size (fun k' => decide (k' ∈ once [] ks)) (once [] ks).length → (∀ b o, b < sh.heap.objs.size → sh.heap.get? b = some o → h'.get? b = some o) → Q (.ref sh.heap.objs.size) { sh with heap := h', toks := tk }) :
    wpAny (model prog w) A (call (.type "set") [.ref l]) Q E sh := by
  obtain ⟨c, tl, hmro⟩ := PySem.F.called_set.mro
  obtain ⟨hmade, hsub⟩ := And.intro PySem.F.called_set.made PySem.F.called_set.sub
  refine wpAny_call (codeAny_of_tree (show wpAny _ _ (callAny (.type "set") _) _ _ _ from wpAny_pure ⟨Code.quiet_builtin _ (by decide +kernel), codeAny_builtin PySem.F.entry_type_call ?_⟩))
  rw [Around.under_plain (weight_type_call_type "set" [.ref l] []) rfl]
  obtain ⟨h1, h2, hct⟩ := And.intro PySem.F.called_set.notType (And.intro PySem.F.called_set.canCreate (PySem.F.typeCall_set_1 (.ref l)))
  repeat (any_goals (first | assumption | wp_step))
  refine codeAny_mono (code_set_new_1 (.ref l) (E := E) (Q₁ := fun obj s1 => ∃ led : Bool, obj = .ref sh.heap.objs.size ∧ s1 = { sh with heap := sh.heap.push { cls := .type "set", dict := none, data := .set #[] 0 (.fresh 0 0 led) } }) fun led => ⟨led, rfl, rfl⟩) fun r s1 hr => ?_
  cases r with
  | error e => exact hr
  | ok fl =>
    cases fl with
    | ret obj =>
      obtain ⟨led, rfl, rfl⟩ := hr
      have at0 : (sh.heap.push { cls := .type "set", dict := none, data := .set #[] 0 (.fresh 0 0 led) }).get? sh.heap.objs.size = some { cls := .type "set", dict := none, data := .set #[] 0 (.fresh 0 0 led) } := Heap.get?_push_size _ rfl
      have hT : Shared.TypeIs { sh with heap := sh.heap.push { cls := .type "set", dict := none, data := .set #[] 0 (.fresh 0 0 led) } } (.ref sh.heap.objs.size) "set" := ⟨_, at0, rfl⟩
      obtain ⟨hli, hbi⟩ := And.intro PySem.F.called_set.init.lookup (PySem.F.called_set.init.bind (.ref sh.heap.objs.size))
      repeat (any_goals (first | assumption | wp_step))
      refine codeAny_mono (codeAny_call_builtin (R := wants (fun r s2 => r = .none ∧ ∃ h' tk, s2 = { sh with heap := h', toks := tk } ∧ h'.SetOf (mixKind prog w) sh.heap.objs.size (fun k' => decide (k' ∈ once [] ks)) (once [] ks).length ∧
          (∀ b o, b < sh.heap.objs.size → sh.heap.get? b = some o → h'.get? b = some o)) E) PySem.F.called_set.init.plain PySem.F.entry_set_init (check_set_init_1 hT ?_)) fun r2 s2 hr2 => ?_
      · obtain ⟨⟨ocls, odict, odata, oslots⟩, hol, hcl, nl, hdl⟩ := hl
        cases (show ocls = _ from hcl)
        cases (show odata = _ from hdl)
        have hol1 : (sh.heap.push { cls := .type "set", dict := none, data := .set #[] 0 (.fresh 0 0 led) }).get? l = some { cls := .type "list", dict := odict, data := .seq items nl, slots := oslots } := Heap.get?_push_of_some _ hol
        obtain ⟨hsls, hslf⟩ := And.intro PySem.F.sub_list_set PySem.F.sub_list_frozenset
        have hne : (Value.type "list" == Value.type "dict") = false := by decide
        have hl1 : (sh.heap.push { cls := .type "set", dict := none, data := .set #[] 0 (.fresh 0 0 led) }).IsList l items := ⟨_, hol1, rfl, nl, rfl⟩
        unfold Builtin.«set.__init__» noKeywords Builtin.Frozenset.updateFrom
        generalize hPI : pyIter = PI
        wp_walk
        subst hPI
        refine wpAny_pyIter_list hl1 (wpAny_bind (wpAny_runValue ?_))
        have ll : l < sh.heap.objs.size := Heap.lt_size hol
        have cool : A.in1.in1.in1.handled = none := by simp [hh]
        have apart : l ≠ (sh.heap.push { cls := .type "set", dict := none, data := .set #[] 0 (.fresh 0 0 led) }).objs.size := by rw [Heap.size_push]; exact Nat.ne_of_lt (Nat.lt_succ_of_lt ll)
        have out : sh.heap.objs.size ∉ [(sh.heap.push { cls := .type "set", dict := none, data := .set #[] 0 (.fresh 0 0 led) }).objs.size, l] := by
          rw [Heap.size_push]
          simp only [List.mem_cons, List.not_mem_nil, or_false, not_or]
          exact ⟨Nat.ne_of_lt (Nat.lt_succ_self _), Nat.ne_of_gt ll⟩
        have fresh : ((sh.heap.push { cls := .type "set", dict := none, data := .set #[] 0 (.fresh 0 0 led) }).push { cls := .type "list_iterator", data := .fields #[.ref l, .int 0 0] }).get? sh.heap.objs.size = some { cls := .type "set", dict := none, data := .set #[] 0 (.fresh 0 0 led) } := Heap.get?_push_of_some _ at0
        refine set_turns ((Walks.list cool _ l apart items).toS) sh.heap.objs.size out ks len small hv ks 0 [] _ rfl (Nat.zero_le _) (Nat.le_refl _) ⟨⟨_, Heap.get?_push_size _ rfl, rfl, rfl⟩, (hl1.push _)⟩ rfl
          (set_congr ((setObjOf_fresh (knd := mixKind prog w) led).setOf fresh (by unfold scanBound; omega)) (fun _ => rfl) rfl) fun s3 mv q => ?_
        obtain ⟨h3, g3, d3, t3, o3⟩ := s3
        cases (show g3 = sh.gens from mv.gens)
        cases (show d3 = sh.drawn from mv.drawn)
        cases (show o3 = sh.os from mv.os)
        refine (show wpAny _ _ _ _ _ _ from wpAny_pure (show wpAny _ _ (ret Value.none) _ _ _ from wpAny_pure ⟨rfl, h3, t3, rfl, q, fun b o hb e => ?_⟩))
        refine mv.heap b o ?_ (Heap.get?_push_of_some _ (Heap.get?_push_of_some _ e))
        simp only [List.mem_cons, List.not_mem_nil, or_false, not_or]
        exact ⟨Nat.ne_of_lt hb, by rw [Heap.size_push]; exact Nat.ne_of_lt (Nat.lt_succ_of_lt hb)⟩
      · cases r2 with
        | error e => exact hr2
        | ok fl2 =>
          cases fl2 with
          | ret r =>
            obtain ⟨rfl, h3, t3, rfl, q, keep⟩ := hr2
            repeat (any_goals (first | assumption | wp_step))
            exact goal _ _ q keep
          | _ => exact hr2.elim
    | _ => exact hr.elim
theorem set_of_tuple {l : Addr} {items : Array Value} {ks : List Key} {Q : Value → Shared → Prop} (hh : A.handled = none) (hl : sh.heap.IsTuple l items) (len : ks.length = items.size) (hv : ∀ (i : Nat) (v : Value), items[i]? = some v → ∃ k, ks[i]? = some k ∧ keyIs k v = true ∧ v.scannable = true) (small : items.size < 4000)
    (goal : ∀ (h' : Heap) (tk : Nat), h'.SetOf (mixKind prog w) sh.heap.objs.size (fun k' => decide (k' ∈ once [] ks)) (once [] ks).length → (∀ b o, b < sh.heap.objs.size → sh.heap.get? b = some o → h'.get? b = some o) → Q (.ref sh.heap.objs.size) { sh with heap := h', toks := tk }) :
    wpAny (model prog w) A (call (.type "set") [.ref l]) Q E sh := by
  obtain ⟨c, tl, hmro⟩ := PySem.F.called_set.mro
  obtain ⟨hmade, hsub⟩ := And.intro PySem.F.called_set.made PySem.F.called_set.sub
  refine wpAny_call (codeAny_of_tree (show wpAny _ _ (callAny (.type "set") _) _ _ _ from wpAny_pure ⟨Code.quiet_builtin _ (by decide +kernel), codeAny_builtin PySem.F.entry_type_call ?_⟩))
  rw [Around.under_plain (weight_type_call_type "set" [.ref l] []) rfl]
  obtain ⟨h1, h2, hct⟩ := And.intro PySem.F.called_set.notType (And.intro PySem.F.called_set.canCreate (PySem.F.typeCall_set_1 (.ref l)))
  repeat (any_goals (first | assumption | wp_step))
  refine codeAny_mono (code_set_new_1 (.ref l) (E := E) (Q₁ := fun obj s1 => ∃ led : Bool, obj = .ref sh.heap.objs.size ∧ s1 = { sh with heap := sh.heap.push { cls := .type "set", dict := none, data := .set #[] 0 (.fresh 0 0 led) } }) fun led => ⟨led, rfl, rfl⟩) fun r s1 hr => ?_
  cases r with
  | error e => exact hr
  | ok fl =>
    cases fl with
    | ret obj =>
      obtain ⟨led, rfl, rfl⟩ := hr
      have at0 : (sh.heap.push { cls := .type "set", dict := none, data := .set #[] 0 (.fresh 0 0 led) }).get? sh.heap.objs.size = some { cls := .type "set", dict := none, data := .set #[] 0 (.fresh 0 0 led) } := Heap.get?_push_size _ rfl
      have hT : Shared.TypeIs { sh with heap := sh.heap.push { cls := .type "set", dict := none, data := .set #[] 0 (.fresh 0 0 led) } } (.ref sh.heap.objs.size) "set" := ⟨_, at0, rfl⟩
      obtain ⟨hli, hbi⟩ := And.intro PySem.F.called_set.init.lookup (PySem.F.called_set.init.bind (.ref sh.heap.objs.size))
      repeat (any_goals (first | assumption | wp_step))
      refine codeAny_mono (codeAny_call_builtin (R := wants (fun r s2 => r = .none ∧ ∃ h' tk, s2 = { sh with heap := h', toks := tk } ∧ h'.SetOf (mixKind prog w) sh.heap.objs.size (fun k' => decide (k' ∈ once [] ks)) (once [] ks).length ∧
          (∀ b o, b < sh.heap.objs.size → sh.heap.get? b = some o → h'.get? b = some o)) E) PySem.F.called_set.init.plain PySem.F.entry_set_init (check_set_init_1 hT ?_)) fun r2 s2 hr2 => ?_
      · obtain ⟨⟨ocls, odict, odata, oslots⟩, hol, hcl, nl, hdl⟩ := hl
        cases (show ocls = _ from hcl)
        cases (show odata = _ from hdl)
        have hol1 : (sh.heap.push { cls := .type "set", dict := none, data := .set #[] 0 (.fresh 0 0 led) }).get? l = some { cls := .type "tuple", dict := odict, data := .seq items nl, slots := oslots } := Heap.get?_push_of_some _ hol
        obtain ⟨hsls, hslf⟩ := And.intro PySem.F.sub_tuple_set PySem.F.sub_tuple_frozenset
        have hne : (Value.type "tuple" == Value.type "dict") = false := by decide
        have hl1 : (sh.heap.push { cls := .type "set", dict := none, data := .set #[] 0 (.fresh 0 0 led) }).IsTuple l items := ⟨_, hol1, rfl, nl, rfl⟩
        unfold Builtin.«set.__init__» noKeywords Builtin.Frozenset.updateFrom
        generalize hPI : pyIter = PI
        wp_walk
        subst hPI
        refine wpAny_pyIter_tuple hl1 (wpAny_bind (wpAny_runValue ?_))
        have ll : l < sh.heap.objs.size := Heap.lt_size hol
        have cool : A.in1.in1.in1.handled = none := by simp [hh]
        have apart : l ≠ (sh.heap.push { cls := .type "set", dict := none, data := .set #[] 0 (.fresh 0 0 led) }).objs.size := by rw [Heap.size_push]; exact Nat.ne_of_lt (Nat.lt_succ_of_lt ll)
        have out : sh.heap.objs.size ∉ [(sh.heap.push { cls := .type "set", dict := none, data := .set #[] 0 (.fresh 0 0 led) }).objs.size, l] := by
          rw [Heap.size_push]
          simp only [List.mem_cons, List.not_mem_nil, or_false, not_or]
          exact ⟨Nat.ne_of_lt (Nat.lt_succ_self _), Nat.ne_of_gt ll⟩
        have fresh : ((sh.heap.push { cls := .type "set", dict := none, data := .set #[] 0 (.fresh 0 0 led) }).push { cls := .type "tuple_iterator", data := .fields #[.ref l, .int 0 0] }).get? sh.heap.objs.size = some { cls := .type "set", dict := none, data := .set #[] 0 (.fresh 0 0 led) } := Heap.get?_push_of_some _ at0
        refine set_turns ((Walks.tuple cool _ l apart items).toS) sh.heap.objs.size out ks len small hv ks 0 [] _ rfl (Nat.zero_le _) (Nat.le_refl _) ⟨⟨_, Heap.get?_push_size _ rfl, rfl, rfl⟩, (hl1.push _)⟩ rfl
          (set_congr ((setObjOf_fresh (knd := mixKind prog w) led).setOf fresh (by unfold scanBound; omega)) (fun _ => rfl) rfl) fun s3 mv q => ?_
        obtain ⟨h3, g3, d3, t3, o3⟩ := s3
        cases (show g3 = sh.gens from mv.gens)
        cases (show d3 = sh.drawn from mv.drawn)
        cases (show o3 = sh.os from mv.os)
        refine (show wpAny _ _ _ _ _ _ from wpAny_pure (show wpAny _ _ (ret Value.none) _ _ _ from wpAny_pure ⟨rfl, h3, t3, rfl, q, fun b o hb e => ?_⟩))
        refine mv.heap b o ?_ (Heap.get?_push_of_some _ (Heap.get?_push_of_some _ e))
        simp only [List.mem_cons, List.not_mem_nil, or_false, not_or]
        exact ⟨Nat.ne_of_lt hb, by rw [Heap.size_push]; exact Nat.ne_of_lt (Nat.lt_succ_of_lt hb)⟩
      · cases r2 with
        | error e => exact hr2
        | ok fl2 =>
          cases fl2 with
          | ret r =>
            obtain ⟨rfl, h3, t3, rfl, q, keep⟩ := hr2
            repeat (any_goals (first | assumption | wp_step))
            exact goal _ _ q keep
          | _ => exact hr2.elim
    | _ => exact hr.elim
end

/-! ### len(set(xs)) -/
def keysOf : List PV → Option (List Key)
  | [] => some []
  | x :: xs => match kP x, keysOf xs with
    | some k, some ks => some (k :: ks)
    | _, _ => none
theorem keysOf_len : ∀ {xs : List PV} {ks : List Key}, keysOf xs = some ks → ks.length = xs.length
  | [], _, h => by cases h; rfl
  | x :: xs, _, h => by
    unfold keysOf at h
    split at h
    · rename_i k ks e1 e2; cases h; simp [keysOf_len e2]
    · cases h
theorem keysOf_at : ∀ {xs : List PV} {ks : List Key} {i : Nat} {k : Key}, keysOf xs = some ks → ks[i]? = some k → ∃ x, xs[i]? = some x ∧ kP x = some k
  | [], _, i, k, h, e => by cases h; simp at e
  | x :: xs, _, i, k, h, e => by
    unfold keysOf at h
    split at h
    · rename_i k' ks' e1 e2
      cases h
      cases i with
      | zero => simp at e; subst e; exact ⟨x, rfl, e1⟩
      | succ i =>
        obtain ⟨y, q1, q2⟩ := keysOf_at (xs := xs) (ks := ks') (i := i) (k := k) e2 (by simpa using e)
        exact ⟨y, by simpa using q1, q2⟩
    · cases h
def uLenSet : O1 := fun x s =>
  match sqOf s x with
  | some xs => if xs.length < 4000 then (keysOf xs).map fun ks => (.int ((once [] ks).length : Nat), s) else none
  | none => none
section
variable {X : Cx} {Ex : XK} {pos : Pos}
theorem se_lenSet {a : Expr} {p p2 q : Pos} {m : EM} (hc : X.calm = true) (hg : Gl X "len") (hm : X.mg "len" = none) (hg2 : Gl X "set") (hm2 : X.mg "set" = none) (ha : PE X a (tE (gx X) Ex m))
    (na : starEach [a] X.env = (false, eval a X.env) :: starEach [] X.env := by rfl) : PE X (.Call (.Name "len" p) [.Call (.Name "set" p2) [a] [] q] [] pos) (tE (gx X) Ex (eUn uLenSet m)) := by
  refine ⟨fun pins sh σ H Q I ⟨W, s, env, hE, hs, h⟩ => ?_⟩
  refine Call_ (ld_blt I hg hm boot_len (PyProof.Rows.callWith_builtin1 (PyProof.Rows.args_cons (Call_ (ld_blt I hg2 hm2 boot_set ?_)) rfl) rfl rfl))
  refine PyProof.Rows.callWith_type1 (PyProof.Rows.args_cons (thn (ha.run pins sh σ H (fun v H1 => ∃ W1 s1 x r s', Rep X.K W1 x v ∧ StR (gx X) W1 H1 s1 ∧ uLenSet x s1 = some (r, s') ∧ Cont (gx X) W1 Q r s') I ?_) fun u sh1 got => PyProof.Rows.args_nil ?_) na) na rfl
  · refine tE_bind hE hs h fun x s1 W1 H1 u l1 he1 hs1 r1 h1 => ?_
    obtain ⟨v, s', e, hc⟩ := h1.lift
    exact ⟨W1, s1, x, v, s', r1, hs1, e, hc.mono l1⟩
  · obtain ⟨v, H1, I1, ru, W1, s1, x, r, s', rx, hs1, e, hcn⟩ := got
    unfold uLenSet at e
    split at e
    case h_2 => cases e
    rename_i xs ex
    split at e
    case isFalse => cases e
    rename_i small
    obtain ⟨ks, ek, e'⟩ := Option.map_eq_some_iff.mp e
    cases e'
    obtain ⟨l, vs, rfl, hq, rr⟩ := sqOf_ok hs1 rx ex
    cases ru
    have fin : ∀ (h' : Heap) (tk : Nat), h'.SetOf (mixKind X.prog X.w) sh1.heap.objs.size (fun k' => decide (k' ∈ once [] ks)) (once [] ks).length → (∀ b o, b < sh1.heap.objs.size → sh1.heap.get? b = some o → h'.get? b = some o) →
        wpAny (model X.prog X.w) X.A (spliced (backTo pos (starEach [] X.env))) (fun vs s2 => wpAny (model X.prog X.w) X.A (call (.builtin "len") (Value.ref sh1.heap.objs.size :: vs)) (EP X pins σ Q) X.xe s2) X.xe { sh1 with heap := h', toks := tk } := fun h' tk hS hk => by
      refine PyProof.Rows.args_nil ?_
      obtain ⟨o, es, ep, t, ho, hex, hd, _, _, _, hf, hn⟩ := hS
      have I2 : Inv X pins σ H1 { sh1 with heap := h', toks := tk } := I1.kept fun b o e => hk b o (Heap.lt_size e) e
      have hb : (once [] ks).length ≤ xs.length := by have := once_len [] ks; rw [keysOf_len ek] at this; simpa using this
      exact call_len_set ho hex hd hf (by rw [hn]; omega) ⟨.int ((once [] ks).length : Nat), H1, I2.tok _, ⟨_, by rw [hn]⟩, Cont.here hcn hs1 (.int _)⟩
    have val : ∀ (its : List Value), Vals vs its → ∀ (i : Nat) (v : Value), its.toArray[i]? = some v → ∃ k, ks[i]? = some k ∧ keyIs k v = true ∧ v.scannable = true := fun its rv i v hv => by
      have hv' : its[i]? = some v := by simpa using hv
      have hi : i < its.length := (List.getElem?_eq_some_iff.mp hv').1
      have hi2 : i < ks.length := by rw [keysOf_len ek, rr.length, rv.length]; exact hi
      have ek2 := List.getElem?_eq_getElem hi2
      obtain ⟨y, ey, ky⟩ := keysOf_at ek ek2
      obtain ⟨vv, ev, ry⟩ := rr.get ey
      obtain ⟨u, eu, ru⟩ := rv.get ev
      rw [hv'] at eu; cases eu
      refine ⟨_, ek2, ?_⟩
      have := kP_ok ry ky
      rw [this] at ru
      refine ⟨?_, key_scan ru⟩
      generalize ks[i] = k at ru
      cases k with
      | inl i => obtain ⟨t, rfl⟩ := ru; exact keyIs_int _ _
      | inr z => obtain ⟨t, rfl⟩ := ru; exact keyIs_str _ _
    rcases hq with hq | hq
    · obtain ⟨its, rv, pl, hz⟩ := I1.list hq
      exact set_of_list (I1.ok.hd hc) pl.isList (by rw [List.size_toArray, ← rv.length, ← rr.length, keysOf_len ek]) (val its rv) (by rw [List.size_toArray, ← rv.length, ← rr.length]; exact small) fin
    · obtain ⟨its, rv, pl, hz⟩ := I1.tuple hq
      exact set_of_tuple (I1.ok.hd hc) pl (by rw [List.size_toArray, ← rv.length, ← rr.length, keysOf_len ek]) (val its rv) (by rw [List.size_toArray, ← rv.length, ← rr.length]; exact small) fin
end
end Z

set_option Elab.async false
set_option linter.all false
set_option maxRecDepth 100000
set_option maxHeartbeats 4000000
/-! Z13: a dict beside a text by == and !=. -/
namespace Z
open PySem PySem.Spec PyProof.Rows L2
open AutoSeq1 (wpAny_loadPart')

theorem dict_ne_str (l : Addr) (o : Obj) (b : Str) (u : Tok) : Meets (Builtin.«dict.__ne__» ⟨[.ref l, .str b u], []⟩) (fun _ R s => (l == sysModules) = false ∧ s.heap.get? l = some o ∧ o.cls = .type "dict" ∧ R (.ok (.ret .notImplemented)) s) :=
  .of_wp fun prog w A R s h => by
    obtain ⟨hp, g, d, tk, os⟩ := s
    obtain ⟨hs, hl, hc, h⟩ := h
    have f1 := PySem.F.sub_str_dict
    wp_walk using wpAny_loadPart' hl
    exact ⟨_, rfl, h⟩
theorem dict_eq_str (l : Addr) (o : Obj) (b : Str) (u : Tok) : Meets (Builtin.«dict.__eq__» ⟨[.ref l, .str b u], []⟩) (fun _ R s => (l == sysModules) = false ∧ s.heap.get? l = some o ∧ o.cls = .type "dict" ∧ R (.ok (.ret .notImplemented)) s) :=
  .of_wp fun prog w A R s h => by
    obtain ⟨hp, g, d, tk, os⟩ := s
    obtain ⟨hs, hl, hc, h⟩ := h
    have f1 := PySem.F.sub_str_dict
    wp_walk using wpAny_loadPart' hl
    exact ⟨_, rfl, h⟩
theorem str_ne_dict (l : Addr) (o : Obj) (es : Array DictEntry) (ep : Nat) (b : Str) (u : Tok) : Meets (Builtin.«str.__ne__» ⟨[.str b u, .ref l], []⟩) (fun _ R s => s.heap.get? l = some o ∧ o.cls = .type "dict" ∧ o.data = .dict es ep ∧ R (.ok (.ret .notImplemented)) s) :=
  .of_wp fun prog w A R s h => by
    obtain ⟨hp, g, d, tk, os⟩ := s
    obtain ⟨hl, hc, hdt, h⟩ := h
    obtain ⟨c, dd, dt, sl⟩ := o
    cases (show c = _ from hc)
    cases (show dt = _ from hdt)
    wp_walk using wpAny_loadPart' hl, wpAny_load hl
    exact ⟨_, rfl, h⟩
theorem str_eq_dict (l : Addr) (o : Obj) (es : Array DictEntry) (ep : Nat) (b : Str) (u : Tok) : Meets (Builtin.«str.__eq__» ⟨[.str b u, .ref l], []⟩) (fun _ R s => s.heap.get? l = some o ∧ o.cls = .type "dict" ∧ o.data = .dict es ep ∧ R (.ok (.ret .notImplemented)) s) :=
  .of_wp fun prog w A R s h => by
    obtain ⟨hp, g, d, tk, os⟩ := s
    obtain ⟨hl, hc, hdt, h⟩ := h
    obtain ⟨c, dd, dt, sl⟩ := o
    cases (show c = _ from hc)
    cases (show dt = _ from hdt)
    wp_walk using wpAny_loadPart' hl, wpAny_load hl
    exact ⟨_, rfl, h⟩
theorem rc_dict_str {A : Around} {s : Shared} {l : Addr} {o : Obj} (b : Str) (u : Tok) (hs : (l == sysModules) = false) (hl : s.heap.get? l = some o) (hc : o.cls = .type "dict") {es : Array DictEntry} {ep : Nat} (hd : o.data = .dict es ep) (hu : A.units < cLine) : SeqAt.RcAt A s (.ref l) (.str b u) false ∧ SeqAt.RcNeAt A s (.ref l) (.str b u) true := by
  refine ⟨fun prog w E Q h => ?_, fun prog w E Q h => ?_⟩
  · exact SeqAt.rc_eq_decline_or (k := false) ⟨_, hl, hc⟩ (typeIs_str s b u) (by decide) PySem.F.sub_str_dict PySem.F.slot_dict_eq PySem.F.slot_str_eq_refl
      (fun _ hq => call_meets PySem.F.slot_dict_eq ⟨_, hl, hc⟩ PySem.F.entry_dict_eq (PySem.F.args_dict_eq_2 _ _) (dict_eq_str l o b u) ⟨hs, hl, hc, hq⟩)
      (fun _ hq => call_meets PySem.F.slot_str_eq_refl (typeIs_str s b u) PySem.F.entry_str_eq (PySem.F.args_str_eq_2 _ _) (str_eq_dict l o es ep b u) ⟨hl, hc, hd, hq⟩)
      (fun _ hq => wpAny_of_eq (rfl : isSame (.ref l) (.str b u) = pure false) hq) (.inr hu) h
  · exact SeqAt.rc_ne_decline_or (k := false) ⟨_, hl, hc⟩ (typeIs_str s b u) (by decide) PySem.F.sub_str_dict PySem.F.slot_dict_ne PySem.F.slot_str_ne_refl
      (fun _ hq => call_meets PySem.F.slot_dict_ne ⟨_, hl, hc⟩ PySem.F.entry_dict_ne (PySem.F.args_dict_ne_2 _ _) (dict_ne_str l o b u) ⟨hs, hl, hc, hq⟩)
      (fun _ hq => call_meets PySem.F.slot_str_ne_refl (typeIs_str s b u) PySem.F.entry_str_ne (PySem.F.args_str_ne_2 _ _) (str_ne_dict l o es ep b u) ⟨hl, hc, hd, hq⟩)
      (fun _ hq => wpAny_of_eq (rfl : isSame (.ref l) (.str b u) = pure false) hq) (.inr hu) h
def dicStr (x y : PV) : Bool :=
  match x, y with
  | .dic _, .str _ => true
  | _, _ => false
def oEqD : O2 := fun x y s => if dicStr x y then some (.bl false, s) else oEq x y s
def oNeD : O2 := fun x y s => if dicStr x y then some (.bl true, s) else oNe x y s
section
variable {X : Cx}
theorem r_eqD (hu : X.A.units + 64 < cLine) : OpR X (compareOp .Eq) (rM (gx X) oEqD) := by
  intro pins sh σ H x y v u Q I rx ry ⟨W, st, px, py, r, s', r1, r2, hs, e, hc⟩
  unfold oEqD at e
  split at e
  case isFalse => exact r_eq hu pins sh σ H x y v u Q I rx ry ⟨W, st, px, py, r, s', r1, r2, hs, e, hc⟩
  rename_i hd
  cases e
  cases r1 <;> try (cases hd; done)
  cases r2 <;> try (cases hd; done)
  rename_i kvs h q z
  cases rx
  obtain ⟨t, rfl⟩ := ry
  obtain ⟨_, hsys, vs, kv, o, es, ep, ho, hx, hdd, _⟩ := I.hok _ _ (hs.fro _ _ h)
  exact (rc_dict_str (A := X.A) z t hsys ho hx.1 hdd (by omega)).1 _ _ _ _ ⟨.bl false, H, I, rfl, hc.here hs (.bl false)⟩
theorem r_neD (hu : X.A.units + 64 < cLine) : OpR X (compareOp .NotEq) (rM (gx X) oNeD) := by
  intro pins sh σ H x y v u Q I rx ry ⟨W, st, px, py, r, s', r1, r2, hs, e, hc⟩
  unfold oNeD at e
  split at e
  case isFalse => exact r_ne hu pins sh σ H x y v u Q I rx ry ⟨W, st, px, py, r, s', r1, r2, hs, e, hc⟩
  rename_i hd
  cases e
  cases r1 <;> try (cases hd; done)
  cases r2 <;> try (cases hd; done)
  rename_i kvs h q z
  cases rx
  obtain ⟨t, rfl⟩ := ry
  obtain ⟨_, hsys, vs, kv, o, es, ep, ho, hx, hdd, _⟩ := I.hok _ _ (hs.fro _ _ h)
  exact (rc_dict_str (A := X.A) z t hsys ho hx.1 hdd (by omega)).2 _ _ _ _ ⟨.bl true, H, I, rfl, hc.here hs (.bl true)⟩
end
end Z

set_option Elab.async false
set_option linter.all false
set_option maxRecDepth 100000
set_option maxHeartbeats 4000000
/-! Z14: calls by keywords alone; what a def's binding is; short words for the printed texts. -/
namespace Z
open PySem PySem.Spec PyProof.Rows L2

def eCallK0 (f : FM) (ix : List Nat) (mk : AM) : EM := fun env s => (mk env s).bind fun zs s2 => if zs.length = ix.length then f (pick ix 0 [] zs) s2 else .fail
section
variable {X : Cx} {CX : CXT} {k : Nat} {a : Addr} {fd : FuncData} {ps : List Str} {f : FM} {Ex : XK} {x : Str} {p pos : Pos}
theorem se_callK0 {kws : List Keyword} {mk : AM} {ks : List Str} {ix : List Nat} (F : FnZ X.prog X.w X.K X.mg X.base CX k a fd ps f) (hr : Room k X.A) (gd : X.A.guards = some []) (hg : Gl X x) (hm : X.mg x = some (.ref a)) (hk : PySem.W.keepIn X.K (.ref a) = true) (hb : KBz X.K fd ps ks ix 0) (hx : Passes CX X Ex) (hix : ix.length = ks.length)
    (hkw : PK X kws (tA (gx X) Ex mk)) (hall : (backToKw pos (keywordEach kws X.env)).all (·.1.isSome) = true := by rfl) (hks : (backToKw pos (keywordEach kws X.env)).filterMap (·.1) = ks := by rfl) (hdb : (x == ("__debug__" : Str)) = false := by decide)
    (hpl : ((backTo pos (starEach [] X.env)).any (·.1) || (backToKw pos (keywordEach kws X.env)).any (·.1.isNone)) = false := by rfl) : PE X (.Call (.Name x p) [] kws pos) (tE (gx X) Ex (eCallK0 f ix mk)) := by
  refine ⟨fun pins sh σ H Q I ⟨W, s, env, hE, hs, h⟩ => wpAny_Call_Name_kw (ld_glob I hg hm ?_ hdb)⟩
  refine PySem.W.callWith_KW0 (h₀ := X.base) I.ok.mod.kin hk hall (thn (hkw.run pos pins sh σ H (fun zs H2 => zs.length = ix.length ∧ spZ (gx X) f (pick ix 0 [] zs) H2 Q Ex) I ?_) fun ws s2 ⟨zs, H2, I2, rz, q1, q2⟩ => ⟨I2.kIn, ?_⟩) hpl
  · refine tA_bind hE hs h fun ys s2 W2 H2 ws l2 he2 hs2 r2 h2 => ?_
    split at h2
    · rename_i hl
      exact ⟨by rw [← r2.length]; exact hl, W2, s2, _, reps_pick .nil r2, hs2, h2.mono (fun _ _ z => z.mono l2) fun _ _ _ z => z⟩
    · exact h2.elim
  · rw [hks]
    exact call_fzk (us := []) (vs := []) F hr gd hb hx I2 .nil rz rfl (by rw [← hix]; exact q1) q2
end
theorem kbz_of {K : PySem.W.Frag} {x qual : Str} {params : Arguments} {body : List Stmt} {scope : Scope} {kws : List (Str × V)} {f : Addr} {fd : FuncData} {ps ks : List Str} {ix : List Nat} {n : Nat} (F : FunD K x qual params body scope [] kws f fd)
    (h : ∀ (kV doc pm : Value) (an : Option Addr) (cdv ct : Value) (us ws : List Value), us.length = n → ws.length = ks.length → bindArgs (PySem.W.fnOf x qual params body scope .none kV doc pm an cdv ct) ⟨us, ks.zip ws⟩ = pure (ps.zip (pick ix n us ws))) : KBz K fd ps ks ix n := by
  obtain ⟨oc, od, dV, kV, doc, pm, an, cdv, ct, osl, rfl, lk, hcd, hD, hK⟩ := F.ex
  rcases hD with ⟨_, rfl⟩ | ⟨e, _⟩
  · exact fun sh us ws _ h1 h2 => .of_eq (h kV doc pm an cdv ct us ws h1 h2)
  · exact absurd rfl e
end Z

set_option Elab.async false
set_option linter.all false
set_option maxRecDepth 100000
set_option maxHeartbeats 4000000
/-! k55: what the defs compute (printed by pyz.py). -/
namespace Lk55
open PySem PySem.Spec PyProof.Rows L2 Z
noncomputable section
def c_LONGEST_TAG : PV := (.int (8))
def c_MOVES : PV := (.tup [(.int (-1)), (.int (0)), (.int (1))])
def c_SMALL : PV := (.str "abcdefghijklmnopqrstuvwxyz")
def l__law_deck_1 : SM :=
  (sAsg (eOp oMod (eLs bInt (aCons (eOp (oAdd false) (eOp (oAdd false) (eOp oMulI (eV 1) (eC (.int 48271))) (eOp oMod (eLs bInt (aCons (eV 2) aNil)) (eC (.int 2147483629)))) (eC (.int 55))) aNil)) (eC (.int 2147483563))) (mName 1))
def b__law_deck : SM :=
  (sSeq (sAsg (eC (.int 14406055)) (mName 1))
  (sSeq (sFor (iAny (eSl false (eV 0) pNo (pIs (eC (.int 63))))) (mName 2) l__law_deck_1)
  (sRet (eDisp true (dCons (eC (.str "left")) (eUn (uBack true) (eLs (bList false) (aCons (eSl false (eV 0) pNo (pIs (eC (.int 63)))) aNil))) (dCons (eC (.str "mixed")) (eV 1) (dCons (eC (.str "draws")) (eC (.int 0)) dNil)))))))
def f__law_deck : FM := fnM 1 ["_law_script", "_law_mixed", "_law_cell"] b__law_deck
def b__law_draw : SM :=
  (sSeq (sDPut (eOp (oAdd false) (eOp oDGet (eV 0) (eC (.str "draws"))) (eC (.int 1))) (eV 0) (eC (.str "draws")))
  (sSeq (sAsg (eOp (oAdd false) (eOp oDGet (eV 0) (eC (.str "mixed"))) (eOp oMulI (eC (.int 53267)) (eOp oDGet (eV 0) (eC (.str "draws"))))) (mName 2))
  (sSeq (sIf (tB (eOp oNeD (eOp oDGet (eV 0) (eC (.str "left"))) (eLst false aNil))) (sSeq (sAsg (eMt .list mPop (eOp oDGet (eV 0) (eC (.str "left"))) aNil) (mName 3))
  (sSeq (sIf (tB (eOp oGe (eV 3) (eOp oPow (eC (.int 10)) (eC (.int 18))))) (sSeq (sExpr (eMt .list mAppend (eOp oDGet (eV 0) (eC (.str "left"))) (aCons (eOp oFdiv (eV 3) (eLs bMax2 (aCons (eC (.int 2)) (aCons (eV 1) aNil)))) aNil)))
  (sRet (eOp oMod (eLs bInt (aCons (eV 3) aNil)) (eV 1)))) sNil)
  (sAsg (eOp (oAdd false) (eV 2) (eOp oMod (eLs bInt (aCons (eV 3) aNil)) (eC (.int 2147483629)))) (mName 2)))) sNil)
  (sSeq (sAsg (eOp oMod (eLs bInt (aCons (eOp (oAdd false) (eOp oMulI (eV 2) (eC (.int 39373))) (eC (.int 55))) aNil)) (eC (.int 2147483647))) (mName 2))
  (sSeq (sAsg (eOp oMod (eLs bInt (aCons (eOp (oAdd false) (eOp (oAdd false) (eOp oMulI (eV 2) (eV 2)) (eOp oMulI (eC (.int 60089)) (eOp oDGet (eV 0) (eC (.str "draws"))))) (eC (.int 55))) aNil)) (eC (.int 2147483587))) (mName 2))
  (sSeq (sAsg (eOp oMod (eLs bInt (aCons (eOp oMulI (eV 2) (eC (.int 69621))) aNil)) (eC (.int 2147483563))) (mName 2))
  (sRet (eOp oMod (eLs bInt (aCons (eOp oFdiv (eV 2) (eC (.int 64))) aNil)) (eV 1)))))))))
def f__law_draw : FM := fnM 2 ["_law_deck_here", "_law_many", "_law_figure", "_law_cell"] b__law_draw
def b__law_pick : SM :=
  (sRet (eOp oIx (eV 1) (eCall f__law_draw (aCons (eV 0) (aCons (eLs bLen (aCons (eV 1) aNil)) aNil)))))
def f__law_pick : FM := fnM 2 ["_law_deck_here", "_law_some"] b__law_pick
def l__law_tags_1 : SM :=
  (sSeq (sAsg (eCall f__law_pick (aCons (eV 0) (aCons (eLst false (aCons (eC (.int 1)) (aCons (eC (.int 2)) (aCons (eC (.int 1)) (aCons (eC (.int 8)) (aCons (eC (.int 4)) aNil)))))) aNil))) (mName 4))
  (sSeq (sAsg (eMt .str mJoin (eC (.str "")) (aCons (eLc false (iR1 (aCons (eV 4) aNil)) (mName 7) tYesM (eCall f__law_pick (aCons (eV 0) (aCons (eC (.str "abcdefghijklmnopqrstuvwxyz")) aNil))) [7]) aNil)) (mName 5))
  (sSeq (sAsg (eLc false (iAny (eTup (aCons (eV 5) (aCons (eC (.str "yes")) (aCons (eC (.str "top")) (aCons (eC (.str "fun")) (aCons (eC (.str "zz")) aNil))))))) (mName 8) (tB (eOp oNotIn (eV 8) (eV 2))) (eV 8) [8]) (mName 6))
  (sExpr (eMt .list mAppend (eV 2) (aCons (eOp oIx (eV 6) (eC (.int 0))) aNil))))))
def b__law_tags : SM :=
  (sSeq (sAsg (eLst true aNil) (mName 2))
  (sSeq (sFor (iR1 (aCons (eV 1) aNil)) (mName 3) l__law_tags_1)
  (sRet (eLs bTuple (aCons (eV 2) aNil)))))
def f__law_tags : FM := fnM 2 ["_law_deck_here", "_law_many", "_law_found", "_law_turn", "_law_size", "_law_tag", "_law_spare", "_law_letter", "_law_one"] b__law_tags
def l__law_tape_2 : SM :=
  (sSeq (sAsg (eCall f__law_pick (aCons (eV 0) (aCons (eLst false (aCons (eCall f__law_draw (aCons (eV 0) (aCons (eOp (oAdd false) (eV 4) (eC (.int 2))) aNil))) (aCons (eV 6) (aCons (eV 4) (aCons (eCall f__law_draw (aCons (eV 0) (aCons (eV 4) aNil))) aNil))))) aNil))) (mName 9))
  (sExpr (eMt .list mAppend (eV 7) (aCons (eTup (aCons (eV 9) (aCons (eCall f__law_pick (aCons (eV 0) (aCons (eLst false (aCons (eV 8) (aCons (eCall f__law_draw (aCons (eV 0) (aCons (eV 3) aNil))) aNil))) aNil))) (aCons (eCall f__law_pick (aCons (eV 0) (aCons (eLst false (aCons (eC (.int 1)) (aCons (eC (.int 1)) (aCons (eUn uNeg (eC (.int 1))) (aCons (eC (.int 0)) (aCons (eC (.int 1)) aNil)))))) aNil))) aNil)))) aNil))))
def l__law_tape_1 : SM :=
  (sSeq (sAsg (eLst true aNil) (mName 7))
  (sSeq (sFor (iR1 (aCons (eV 3) aNil)) (mName 8) l__law_tape_2)
  (sExpr (eMt .list mAppend (eV 5) (aCons (eLs bTuple (aCons (eV 7) aNil)) aNil)))))
def b__law_tape : SM :=
  (sSeq (sAsg (eCall f__law_tags (aCons (eV 0) (aCons (eCall f__law_pick (aCons (eV 0) (aCons (eLst false (aCons (eC (.int 1)) (aCons (eC (.int 2)) (aCons (eC (.int 0)) (aCons (eC (.int 3)) aNil))))) aNil))) aNil))) (mName 2))
  (sSeq (sAsg (eLs bMin2 (aCons (eC (.int 5)) (aCons (eOp (oAdd false) (eOp (oAdd false) (eLs bLen (aCons (eV 2) aNil)) (eC (.int 2))) (eCall f__law_draw (aCons (eV 0) (aCons (eC (.int 2)) aNil)))) aNil))) (mName 3))
  (sSeq (sPar 4 5 (aCons (eOp (oAdd false) (eC (.int 1)) (eCall f__law_draw (aCons (eV 0) (aCons (eV 1) aNil)))) (aCons (eLst true aNil) aNil)))
  (sSeq (sFor (iR1 (aCons (eV 4) aNil)) (mName 6) l__law_tape_1)
  (sRet (eTup (aCons (eC (.str "tape")) (aCons (eV 2) (aCons (eV 3) (aCons (eLs bTuple (aCons (eV 5) aNil)) aNil))))))))))
def f__law_tape : FM := fnM 2 ["_law_deck_here", "_law_most", "_law_tags_here", "_law_signs", "_law_many", "_law_states", "_law_state", "_law_rules", "_law_sign", "_law_to"] b__law_tape
def b__law_leaf : SM :=
  (sSeq (sAsg (eLst false (aCons (eC .non) (aCons (eC (.bl true)) (aCons (eC (.bl false)) (aCons (eC (.int 0)) (aCons (eC (.int 1)) (aCons (eUn uNeg (eC (.int 1))) (aCons (eC (.int 9)) (aCons (eC (.str "")) (aCons (eC (.str "a")) (aCons (eC (.str "tape")) (aCons (eTup aNil) (aCons (eLst false aNil) (aCons (eDic0 false) (aCons (eOp oPow (eC (.int 10)) (eC (.int 39))) (aCons (eC (.str "A")) (aCons (eC (.str "abcdefghi")) aNil))))))))))))))))) (mName 2))
  (sSeq (sIf (tAnd (tB (eUn (uIsi .tuple) (eV 1))) (tB (eOp oGt (eCall f__law_draw (aCons (eV 0) (aCons (eC (.int 4)) aNil))) (eC (.int 0))))) (sRet (eCall f__law_pick (aCons (eV 0) (aCons (eLst false (aCons (eLs (bList false) (aCons (eV 1) aNil)) (aCons (eUn (uBack false) (eV 1)) (aCons (eSl false (eV 1) (pIs (eC (.int 1))) pNo) (aCons (eOp (oAdd false) (eV 1) (eSl false (eV 1) (pIs (eUn uNeg (eC (.int 1)))) pNo)) (aCons (eOp (oAdd false) (eV 1) (eTup (aCons (eC (.int 0)) aNil))) (aCons (eSl false (eV 1) pNo (pIs (eUn uNeg (eC (.int 1))))) (aCons (eTup (aCons (eV 1) aNil)) aNil)))))))) aNil)))) sNil)
  (sSeq (sIf (tAnd (tB (eUn (uIsi .int) (eV 1))) (tB (eOp oGt (eCall f__law_draw (aCons (eV 0) (aCons (eC (.int 4)) aNil))) (eC (.int 0))))) (sRet (eCall f__law_pick (aCons (eV 0) (aCons (eLst false (aCons (eOp (oAdd false) (eV 1) (eC (.int 1))) (aCons (eOp oSub (eV 1) (eC (.int 1))) (aCons (eOp oEqD (eV 1) (eC (.int 1))) (aCons (eLs bStr (aCons (eV 1) aNil)) (aCons (eUn uNeg (eV 1)) (aCons (eOp (oAdd false) (eV 1) (eC (.int 2))) (aCons (eTup (aCons (eV 1) aNil)) aNil)))))))) aNil)))) sNil)
  (sRet (eCall f__law_pick (aCons (eV 0) (aCons (eOp (oAdd false) (eV 2) (eIf (tB (eUn (uIsi .str) (eV 1))) (eLst false (aCons (eOp (oAdd false) (eV 1) (eC (.str "s"))) (aCons (eSl false (eV 1) (pIs (eC (.int 1))) pNo) (aCons (eMt .str mUpper (eV 1) aNil) (aCons (eTup (aCons (eV 1) aNil)) aNil))))) (eLst false aNil))) aNil)))))))
def f__law_leaf : FM := fnM 2 ["_law_deck_here", "_law_thing", "_law_odd"] b__law_leaf
def b__law_bent (rec : FM) : SM :=
  (sSeq (sIf (tAnd (tB (eUn (uIsi .tuple) (eV 1))) (tAnd (tB (eOp oNeD (eV 1) (eTup aNil))) (tOr (tB (eOp oGt (eV 2) (eC (.int 0)))) (tB (eOp oGt (eCall f__law_draw (aCons (eV 0) (aCons (eC (.int 4)) aNil))) (eC (.int 0))))))) (sSeq (sAsg (eCall f__law_draw (aCons (eV 0) (aCons (eLs bLen (aCons (eV 1) aNil)) aNil))) (mName 3))
  (sRet (eOp (oAdd false) (eOp (oAdd false) (eSl false (eV 1) pNo (pIs (eV 3))) (eTup (aCons (eCall rec (aCons (eV 0) (aCons (eOp oIx (eV 1) (eV 3)) (aCons (eOp oSub (eV 2) (eC (.int 1))) aNil)))) aNil))) (eSl false (eV 1) (pIs (eOp (oAdd false) (eV 3) (eC (.int 1)))) pNo)))) sNil)
  (sRet (eCall f__law_leaf (aCons (eV 0) (aCons (eV 1) aNil)))))
def r__law_bent : Nat → FM
  | 0 => fun _ _ => .fail
  | k + 1 => fnM 3 ["_law_deck_here", "_law_thing", "_law_depth", "_law_at"] (b__law_bent (r__law_bent k))
abbrev f__law_bent : FM := r__law_bent 8
def b__law_otherwise : SM :=
  (sSeq (sAsg (eV 1) (mTup (mCons (mName 2) (mCons (mName 3) (mCons (mName 4) (mCons (mName 5) mNil))))))
  (sSeq (sPar 6 7 (aCons (eCall f__law_draw (aCons (eV 0) (aCons (eC (.int 7)) aNil))) (aCons (eCall f__law_draw (aCons (eV 0) (aCons (eLs bLen (aCons (eV 5) aNil)) aNil))) aNil)))
  (sSeq (sAsg (eTup (aCons (eOp oSub (eCall f__law_draw (aCons (eV 0) (aCons (eOp (oAdd false) (eLs bLen (aCons (eV 5) aNil)) (eC (.int 4))) aNil))) (eC (.int 1))) (aCons (eOp oSub (eCall f__law_draw (aCons (eV 0) (aCons (eOp (oAdd false) (eV 4) (eC (.int 2))) aNil))) (eC (.int 1))) (aCons (eOp oSub (eCall f__law_draw (aCons (eV 0) (aCons (eC (.int 5)) aNil))) (eC (.int 2))) aNil)))) (mName 8))
  (sSeq (sAsg (eCall f__law_draw (aCons (eV 0) (aCons (eV 4) aNil))) (mName 9))
  (sSeq (sIf (tB (eOp oLt (eV 6) (eC (.int 2)))) (sSeq (sAsg (eOp (oAdd false) (eOp (oAdd false) (eSl false (eOp oIx (eV 5) (eV 7)) pNo (pIs (eV 9))) (eTup (aCons (eV 8) aNil))) (eSl false (eOp oIx (eV 5) (eV 7)) (pIs (eOp (oAdd false) (eV 9) (eC (.int 1)))) pNo)) (mName 10))
  (sRet (eTup (aCons (eV 2) (aCons (eV 3) (aCons (eV 4) (aCons (eOp (oAdd false) (eOp (oAdd false) (eSl false (eV 5) pNo (pIs (eV 7))) (eTup (aCons (eV 10) aNil))) (eSl false (eV 5) (pIs (eOp (oAdd false) (eV 7) (eC (.int 1)))) pNo)) aNil))))))) sNil)
  (sSeq (sIf (tB (eOp oEqD (eV 6) (eC (.int 2)))) (sRet (eTup (aCons (eV 2) (aCons (eCall f__law_pick (aCons (eV 0) (aCons (eLst false (aCons (eOp (oAdd false) (eV 3) (eTup (aCons (eC (.str "more")) aNil))) (aCons (eSl false (eV 3) (pIs (eC (.int 1))) pNo) (aCons (eOp (oAdd false) (eV 3) (eSl false (eV 3) pNo (pIs (eC (.int 1))))) (aCons (eTup (aCons (eC (.str "Bad")) aNil)) (aCons (eTup (aCons (eC (.str "")) aNil)) (aCons (eTup (aCons (eC (.str "a")) (aCons (eC (.str "b")) (aCons (eC (.str "a")) aNil)))) (aCons (eLs (bList false) (aCons (eV 3) aNil)) aNil)))))))) aNil))) (aCons (eV 4) (aCons (eV 5) aNil)))))) sNil)
  (sSeq (sIf (tB (eOp oEqD (eV 6) (eC (.int 3)))) (sRet (eIf (tB (eOp oLt (eV 4) (eC (.int 5)))) (eTup (aCons (eV 2) (aCons (eV 3) (aCons (eOp (oAdd false) (eV 4) (eC (.int 1))) (aCons (eLs bTuple (aCons (eLc false (iAny (eV 5)) (mName 10) tYesM (eOp (oAdd false) (eV 10) (eTup (aCons (eTup (aCons (eC (.int 0)) (aCons (eC (.int 0)) (aCons (eC (.int 0)) aNil)))) aNil))) [10]) aNil)) aNil))))) (eUn (uBack false) (eV 1)))) sNil)
  (sSeq (sIf (tB (eOp oEqD (eV 6) (eC (.int 4)))) (sRet (eTup (aCons (eV 2) (aCons (eV 3) (aCons (eV 4) (aCons (eCall f__law_pick (aCons (eV 0) (aCons (eLst false (aCons (eSl false (eV 5) (pIs (eC (.int 1))) pNo) (aCons (eOp (oAdd false) (eV 5) (eSl false (eV 5) pNo (pIs (eC (.int 1))))) (aCons (eTup aNil) (aCons (eOp (oAdd false) (eOp (oAdd false) (eSl false (eV 5) pNo (pIs (eV 7))) (eTup (aCons (eSl false (eOp oIx (eV 5) (eV 7)) (pIs (eC (.int 1))) pNo) aNil))) (eSl false (eV 5) (pIs (eOp (oAdd false) (eV 7) (eC (.int 1)))) pNo)) aNil))))) aNil))) aNil)))))) sNil)
  (sRet (eCall f__law_bent (aCons (eV 0) (aCons (eV 1) (aCons (eCall f__law_draw (aCons (eV 0) (aCons (eC (.int 4)) aNil))) aNil)))))))))))))
def f__law_otherwise : FM := fnM 2 ["_law_deck_here", "_law_machine", "_law_kind", "_law_tags_here", "_law_signs", "_law_states", "_law_way", "_law_at", "_law_rule", "_law_spot", "_law_state"] b__law_otherwise
def b_is_tuple : SM :=
  (sRet (eAnd (eUn (uIsi .tuple) (eV 0)) (eOp oEqD (eLs bLen (aCons (eV 0) aNil)) (eV 1))))
def f_is_tuple : FM := fnM 2 ["thing", "many"] b_is_tuple
def b_is_tag_value : SM :=
  (sSeq (sIf (tOr (tNot (tB (eUn (uIsi .str) (eV 0)))) (tNot (tB (eCh oLe oLe (eC (.int 1)) (eLs bLen (aCons (eV 0) aNil)) (eC c_LONGEST_TAG))))) (sRet (eC (.bl false))) sNil)
  (sRet (eLs bAll (aCons (eLc false (iAny (eV 0)) (mName 1) tYesM (eOp oIn (eV 1) (eC c_SMALL)) [1]) aNil))))
def f_is_tag_value : FM := fnM 1 ["thing", "sign"] b_is_tag_value
def b_are_unlike_tags : SM :=
  (sRet (eAnd (eUn (uIsi .tuple) (eV 0)) (eAnd (eLs bAll (aCons (eLc false (iAny (eV 0)) (mName 1) tYesM (eCall f_is_tag_value (aCons (eV 1) aNil)) [1]) aNil)) (eOp oEqD (eUn uLenSet (eV 0)) (eLs bLen (aCons (eV 0) aNil))))))
def f_are_unlike_tags : FM := fnM 1 ["thing", "tag"] b_are_unlike_tags
def b_is_integer : SM :=
  (sRet (eAnd (eUn (uIsi .int) (eV 0)) (eNot (eUn (uIsi .bool) (eV 0)))))
def f_is_integer : FM := fnM 1 ["thing"] b_is_integer
def b_is_from : SM :=
  (sRet (eAnd (eCall f_is_integer (aCons (eV 0) aNil)) (eOp oGe (eV 0) (eV 1))))
def f_is_from : FM := fnM 2 ["thing", "least"] b_is_from
def b_is_rule : SM :=
  (sSeq (sIf (tOr (tNot (tB (eCall f_is_tuple (aCons (eV 0) (aCons (eC (.int 3)) aNil))))) (tNot (tB (eLs bAll (aCons (eLc false (iAny (eV 0)) (mName 3) tYesM (eCall f_is_integer (aCons (eV 3) aNil)) [3]) aNil))))) (sRet (eC (.bl false))) sNil)
  (sRet (eAnd (eCh oLe oLe (eC (.int 0)) (eOp oIx (eV 0) (eC (.int 0))) (eOp (oAdd false) (eV 2) (eC (.int 1)))) (eAnd (eCh oLe oLt (eC (.int 0)) (eOp oIx (eV 0) (eC (.int 1))) (eV 1)) (eOp oIn (eOp oIx (eV 0) (eC (.int 2))) (eC c_MOVES))))))
def f_is_rule : FM := fnM 3 ["thing", "signs", "states", "part"] b_is_rule
def b_is_state : SM :=
  (sRet (eAnd (eCall f_is_tuple (aCons (eV 0) (aCons (eV 1) aNil))) (eLs bAll (aCons (eLc false (iAny (eV 0)) (mName 3) tYesM (eCall f_is_rule (aCons (eV 3) (aCons (eV 1) (aCons (eV 2) aNil)))) [3]) aNil))))
def f_is_state : FM := fnM 3 ["thing", "signs", "states", "rule"] b_is_state
def b_is_tape_value : SM :=
  (sSeq (sIf (tOr (tNot (tB (eCall f_is_tuple (aCons (eV 0) (aCons (eC (.int 4)) aNil))))) (tOr (tB (eOp oNeD (eOp oIx (eV 0) (eC (.int 0))) (eC (.str "tape")))) (tNot (tB (eCall f_are_unlike_tags (aCons (eOp oIx (eV 0) (eC (.int 1))) aNil)))))) (sRet (eC (.bl false))) sNil)
  (sSeq (sAsg (eTup (aCons (eOp oIx (eV 0) (eC (.int 2))) (aCons (eOp oIx (eV 0) (eC (.int 3))) aNil))) (mTup (mCons (mName 1) (mCons (mName 2) mNil))))
  (sSeq (sIf (tOr (tNot (tB (eCall f_is_from (aCons (eV 1) (aCons (eOp (oAdd false) (eLs bLen (aCons (eOp oIx (eV 0) (eC (.int 1))) aNil)) (eC (.int 2))) aNil))))) (tOr (tNot (tB (eUn (uIsi .tuple) (eV 2)))) (tB (eOp oEqD (eV 2) (eTup aNil))))) (sRet (eC (.bl false))) sNil)
  (sRet (eLs bAll (aCons (eLc false (iAny (eV 2)) (mName 3) tYesM (eCall f_is_state (aCons (eV 3) (aCons (eV 1) (aCons (eLs bLen (aCons (eV 2) aNil)) aNil)))) [3]) aNil))))))
def f_is_tape_value : FM := fnM 1 ["thing", "signs", "states", "state"] b_is_tape_value
def b_is_tape : SM :=
  (sRet (eCall f_is_tape_value (aCons (eV 0) aNil)))
def f_is_tape : FM := fnM 1 ["thing"] b_is_tape
def b__law_is_tuple : SM :=
  (sRet (eAnd (eUn (uIsi .tuple) (eV 0)) (eOp oEqD (eLs bLen (aCons (eV 0) aNil)) (eV 1))))
def f__law_is_tuple : FM := fnM 2 ["_law_thing", "_law_many"] b__law_is_tuple
def b__law_is_int : SM :=
  (sRet (eAnd (eUn (uIsi .int) (eV 0)) (eAnd (eNot (eUn (uIsi .bool) (eV 0))) (eCh oLe oLe (eV 1) (eV 0) (eV 2)))))
def f__law_is_int : FM := fnM 3 ["_law_thing", "_law_low", "_law_high"] b__law_is_int
def b__law_is_tag : SM :=
  (sSeq (sIf (tOr (tNot (tB (eUn (uIsi .str) (eV 0)))) (tNot (tB (eCh oLe oLe (eC (.int 1)) (eLs bLen (aCons (eV 0) aNil)) (eC (.int 8)))))) (sRet (eC (.bl false))) sNil)
  (sRet (eOp oEqD (eLc false (iAny (eV 0)) (mName 1) (tB (eOp oNotIn (eV 1) (eC (.str "abcdefghijklmnopqrstuvwxyz")))) (eV 1) [1]) (eLst false aNil))))
def f__law_is_tag : FM := fnM 1 ["_law_thing", "_law_sign"] b__law_is_tag
def l__law_is_tape_2 : SM :=
  (sSeq (sIf (tOr (tNot (tB (eCall f__law_is_tuple (aCons (eV 6) (aCons (eC (.int 3)) aNil))))) (tNot (tB (eCall f__law_is_int (aCons (eOp oIx (eV 6) (eC (.int 0))) (aCons (eC (.int 0)) (aCons (eOp (oAdd false) (eLs bLen (aCons (eV 4) aNil)) (eC (.int 1))) aNil))))))) (sRet (eC (.bl false))) sNil)
  (sIf (tOr (tNot (tB (eCall f__law_is_int (aCons (eOp oIx (eV 6) (eC (.int 1))) (aCons (eC (.int 0)) (aCons (eOp oSub (eV 3) (eC (.int 1))) aNil)))))) (tNot (tB (eCall f__law_is_int (aCons (eOp oIx (eV 6) (eC (.int 2))) (aCons (eUn uNeg (eC (.int 1))) (aCons (eC (.int 1)) aNil))))))) (sRet (eC (.bl false))) sNil))
def l__law_is_tape_1 : SM :=
  (sSeq (sIf (tNot (tB (eCall f__law_is_tuple (aCons (eV 5) (aCons (eV 3) aNil))))) (sRet (eC (.bl false))) sNil)
  (sFor (iAny (eV 5)) (mName 6) l__law_is_tape_2))
def b__law_is_tape : SM :=
  (sSeq (sIf (tOr (tNot (tB (eCall f__law_is_tuple (aCons (eV 0) (aCons (eC (.int 4)) aNil))))) (tOr (tNot (tB (eUn (uIsi .str) (eOp oIx (eV 0) (eC (.int 0)))))) (tOr (tB (eOp oNeD (eOp oIx (eV 0) (eC (.int 0))) (eC (.str "tape")))) (tNot (tB (eUn (uIsi .tuple) (eOp oIx (eV 0) (eC (.int 1))))))))) (sRet (eC (.bl false))) sNil)
  (sSeq (sAsg (eV 0) (mTup (mCons (mName 1) (mCons (mName 2) (mCons (mName 3) (mCons (mName 4) mNil))))))
  (sSeq (sIf (tOr (tB (eOp oNeD (eLc false (iAny (eV 2)) (mName 7) (tNot (tB (eCall f__law_is_tag (aCons (eV 7) aNil)))) (eV 7) [7]) (eLst false aNil))) (tB (eOp oNeD (eUn uLenSet (eV 2)) (eLs bLen (aCons (eV 2) aNil))))) (sRet (eC (.bl false))) sNil)
  (sSeq (sIf (tOr (tNot (tB (eCall f__law_is_int (aCons (eV 3) (aCons (eOp (oAdd false) (eLs bLen (aCons (eV 2) aNil)) (eC (.int 2))) (aCons (eOp oPow (eC (.int 10)) (eC (.int 40))) aNil)))))) (tOr (tNot (tB (eUn (uIsi .tuple) (eV 4)))) (tB (eOp oEqD (eV 4) (eTup aNil))))) (sRet (eC (.bl false))) sNil)
  (sSeq (sFor (iAny (eV 4)) (mName 5) l__law_is_tape_1)
  (sRet (eC (.bl true))))))))
def f__law_is_tape : FM := fnM 1 ["_law_thing", "_law_kind", "_law_tags_here", "_law_signs", "_law_states", "_law_state", "_law_rule", "_law_tag"] b__law_is_tape
def b__law_is_beyond : SM :=
  (sRet (eAnd (eCall f__law_is_tape (aCons (eV 0) aNil)) (eOr (eOp oGt (eLs bLen (aCons (eOp oIx (eV 0) (eC (.int 1))) aNil)) (eC (.int 3))) (eOr (eOp oGt (eOp oIx (eV 0) (eC (.int 2))) (eC (.int 5))) (eOp oGt (eLs bLen (aCons (eOp oIx (eV 0) (eC (.int 3))) aNil)) (eC (.int 4)))))))
def f__law_is_beyond : FM := fnM 1 ["_law_thing"] b__law_is_beyond
def l_law_2 : SM :=
  (sSeq (sAsg (eLs bRepr (aCons (eV 4) aNil)) (mName 5))
  (sSeq (sAsg (eIf (tB (eOp oEqD (eV 2) (eC (.int 0)))) (eCallK0 f_is_tape [0] (aCons (eV 4) aNil)) (eCall f_is_tape (aCons (eV 4) aNil))) (mName 6))
  (sIf (tOr (tAnd (tNot (tB (eCall f__law_is_beyond (aCons (eV 4) aNil)))) (tB (eOp oNeD (eLs bRepr (aCons (eV 6) aNil)) (eLs bRepr (aCons (eCall f__law_is_tape (aCons (eV 4) aNil)) aNil))))) (tB (eOp oNeD (eLs bRepr (aCons (eV 4) aNil)) (eV 5)))) (sRet (eC (.bl false))) sNil)))
def l_law_1 : SM :=
  (sSeq (sAsg (eCall f__law_tape (aCons (eV 1) (aCons (eC (.int 4)) aNil))) (mName 3))
  (sFor (iAny (eOp (oAdd false) (eLst false (aCons (eV 3) aNil)) (eLc false (iR1 (aCons (eC (.int 4)) aNil)) (mName 7) tYesM (eCall f__law_otherwise (aCons (eV 1) (aCons (eV 3) aNil))) [7]))) (mName 4) l_law_2))
def b_law : SM :=
  (sSeq (sAsg (eCall f__law_deck (aCons (eV 0) aNil)) (mName 1))
  (sSeq (sFor (iR1 (aCons (eC (.int 4)) aNil)) (mName 2) l_law_1)
  (sRet (eC (.bl true)))))
def f_law : FM := fnM 1 ["_law_script", "_law_deck_here", "_law_turn", "_law_machine", "_law_thing", "_law_text", "_law_told", "_law_more"] b_law
end
end Lk55

set_option Elab.async false
set_option linter.all false
set_option maxRecDepth 100000
set_option maxHeartbeats 4000000
/-! k55: the walk, the head (printed by pyz.py). -/
namespace Wk55
open PySem PySem.Spec PyProof.Rows L2 Z Lk55
def top (i : Nat) : Stmt := PySem.Challenge.pw_eyesonly_k55_tape_machines_of_any_value.main.body.getD i (.Pass ⟨0, 0, 0, 0⟩)
def fdOf (K : PySem.W.Frag) (x : Str) : FuncData := match K.lookup (He.ga K x) with
  | some ⟨_, _, .func d, _⟩ => d
  | _ => default
abbrev FnP (K : PySem.W.Frag) (x : Str) (i : Nat) : Prop := FunD K x x (defArgs (top i)) (defBody (top i)) (defScope (top i)) [] [] (He.ga K x) (fdOf K x)
structure Mx (K : PySem.W.Frag) (mg : Str → Option Value) : Prop where
  sys : SysD K
  b_all : mg "all" = none
  b_bool : mg "bool" = none
  b_int : mg "int" = none
  b_isinstance : mg "isinstance" = none
  b_len : mg "len" = none
  b_list : mg "list" = none
  b_max : mg "max" = none
  b_min : mg "min" = none
  b_range : mg "range" = none
  b_repr : mg "repr" = none
  b_set : mg "set" = none
  b_str : mg "str" = none
  b_tuple : mg "tuple" = none
  g__law_deck : mg "_law_deck" = some (.ref (He.ga K "_law_deck"))
  d__law_deck : FnP K "_law_deck" 16
  g__law_draw : mg "_law_draw" = some (.ref (He.ga K "_law_draw"))
  d__law_draw : FnP K "_law_draw" 17
  g__law_pick : mg "_law_pick" = some (.ref (He.ga K "_law_pick"))
  d__law_pick : FnP K "_law_pick" 18
  g__law_tags : mg "_law_tags" = some (.ref (He.ga K "_law_tags"))
  d__law_tags : FnP K "_law_tags" 22
  g__law_tape : mg "_law_tape" = some (.ref (He.ga K "_law_tape"))
  d__law_tape : FnP K "_law_tape" 24
  g__law_leaf : mg "_law_leaf" = some (.ref (He.ga K "_law_leaf"))
  d__law_leaf : FnP K "_law_leaf" 25
  g__law_bent : mg "_law_bent" = some (.ref (He.ga K "_law_bent"))
  d__law_bent : FnP K "_law_bent" 26
  g__law_otherwise : mg "_law_otherwise" = some (.ref (He.ga K "_law_otherwise"))
  d__law_otherwise : FnP K "_law_otherwise" 27
  g_is_tuple : mg "is_tuple" = some (.ref (He.ga K "is_tuple"))
  d_is_tuple : FnP K "is_tuple" 5
  g_is_tag_value : mg "is_tag_value" = some (.ref (He.ga K "is_tag_value"))
  d_is_tag_value : FnP K "is_tag_value" 6
  g_are_unlike_tags : mg "are_unlike_tags" = some (.ref (He.ga K "are_unlike_tags"))
  d_are_unlike_tags : FnP K "are_unlike_tags" 11
  g_is_integer : mg "is_integer" = some (.ref (He.ga K "is_integer"))
  d_is_integer : FnP K "is_integer" 3
  g_is_from : mg "is_from" = some (.ref (He.ga K "is_from"))
  d_is_from : FnP K "is_from" 4
  g_is_rule : mg "is_rule" = some (.ref (He.ga K "is_rule"))
  d_is_rule : FnP K "is_rule" 9
  g_is_state : mg "is_state" = some (.ref (He.ga K "is_state"))
  d_is_state : FnP K "is_state" 10
  g_is_tape_value : mg "is_tape_value" = some (.ref (He.ga K "is_tape_value"))
  d_is_tape_value : FnP K "is_tape_value" 12
  g_is_tape : mg "is_tape" = some (.ref (He.ga K "is_tape"))
  d_is_tape : FnP K "is_tape" 14
  g__law_is_tuple : mg "_law_is_tuple" = some (.ref (He.ga K "_law_is_tuple"))
  d__law_is_tuple : FnP K "_law_is_tuple" 20
  g__law_is_int : mg "_law_is_int" = some (.ref (He.ga K "_law_is_int"))
  d__law_is_int : FnP K "_law_is_int" 19
  g__law_is_tag : mg "_law_is_tag" = some (.ref (He.ga K "_law_is_tag"))
  d__law_is_tag : FnP K "_law_is_tag" 21
  g__law_is_tape : mg "_law_is_tape" = some (.ref (He.ga K "_law_is_tape"))
  d__law_is_tape : FnP K "_law_is_tape" 23
  g__law_is_beyond : mg "_law_is_beyond" = some (.ref (He.ga K "_law_is_beyond"))
  d__law_is_beyond : FnP K "_law_is_beyond" 28
  g_law : mg "law" = some (.ref (He.ga K "law"))
  d_law : FnP K "law" 29
  c_LONGEST_TAG : Con K mg "LONGEST_TAG" c_LONGEST_TAG
  c_MOVES : Con K mg "MOVES" c_MOVES
  c_SMALL : Con K mg "SMALL" c_SMALL
section
variable {P : Program} {w : World} {K : PySem.W.Frag} {mg : Str → Option Value} {base : Heap}
theorem sc__law_deck : FnScope ["_law_script", "_law_mixed", "_law_cell"] ["_law_script"] (defScope (top 16)) := ⟨rfl, rfl, rfl, by decide +kernel, rfl, by decide +kernel, by decide +kernel⟩
theorem F__law_deck (M : Mx K mg) : FnZ P w K mg base CXN 1 (He.ga K "_law_deck") (fdOf K "_law_deck") ["_law_script"] f__law_deck := by
  refine fnz_of (ps := ["_law_script"]) (m := b__law_deck) M.d__law_deck sc__law_deck fun cdv A outer sh H E hr gd => ?_
  have hu := hr.units
  have hu1 := Nat.lt_of_le_of_lt (Nat.add_le_add_left (show 1 ≤ 64 by decide) _) hr.units
  exact PSs.nox ((sss_cons (ss_set sc__law_deck.nd rfl (by first | exact .inl rfl | exact .inr rfl) (by first | exact .inl rfl | exact .inr rfl) se_int)
  (sss_cons (ss_for PassesOwn.never rfl (si_any (se_slice false (se_var (i := 0) rfl (by first | exact .inl rfl | exact .inr (.inl rfl) | exact .inr (.inr rfl))) sp_none (sp_some se_int))) (sg_name sc__law_deck.nd rfl (by first | exact .inl rfl | exact .inr rfl) (by first | exact .inl rfl | exact .inr rfl)) (sss_one (ss_set sc__law_deck.nd rfl (by first | exact .inl rfl | exact .inr rfl) (by first | exact .inl rfl | exact .inr rfl) (se_op r_mod (se_callTy c_int rfl M.b_int (by decide +kernel) (sa_cons (se_op (r_add false) (se_op (r_add false) (se_op r_mulI (se_var (i := 1) rfl (by first | exact .inl rfl | exact .inr (.inl rfl) | exact .inr (.inr rfl))) se_int) (se_op r_mod (se_callTy c_int rfl M.b_int (by decide +kernel) (sa_cons (se_var (i := 2) rfl (by first | exact .inl rfl | exact .inr (.inl rfl) | exact .inr (.inr rfl))) sa_nil)) se_int)) se_int) sa_nil)) se_int))))
  (sss_one (ss_ret (se_disp true (pps_cons se_str (se_back true (se_callTy (c_list false) rfl M.b_list (by decide +kernel) (sa_cons (se_slice false (se_var (i := 0) rfl (by first | exact .inl rfl | exact .inr (.inl rfl) | exact .inr (.inr rfl))) sp_none (sp_some se_int)) sa_nil))) (pps_cons se_str (se_var (i := 1) rfl (by first | exact .inl rfl | exact .inr (.inl rfl) | exact .inr (.inr rfl))) (pps_cons se_str se_int pps_nil))) (dok_cons (dok_cons (dok_cons dok_nil)))))))))
theorem bd__law_deck (M : Mx K mg) : Binds K (fdOf K "_law_deck") ["_law_script"] [] := M.d__law_deck.bindsN fun _ _ _ _ _ _ us hl => match us, hl with | [_], _ => rfl
theorem sc__law_draw : FnScope ["_law_deck_here", "_law_many", "_law_figure", "_law_cell"] ["_law_deck_here", "_law_many"] (defScope (top 17)) := ⟨rfl, rfl, rfl, by decide +kernel, rfl, by decide +kernel, by decide +kernel⟩
theorem F__law_draw (M : Mx K mg) : FnZ P w K mg base CXN 1 (He.ga K "_law_draw") (fdOf K "_law_draw") ["_law_deck_here", "_law_many"] f__law_draw := by
  refine fnz_of (ps := ["_law_deck_here", "_law_many"]) (m := b__law_draw) M.d__law_draw sc__law_draw fun cdv A outer sh H E hr gd => ?_
  have hu := hr.units
  have hu1 := Nat.lt_of_le_of_lt (Nat.add_le_add_left (show 1 ≤ 64 by decide) _) hr.units
  exact PSs.nox ((sss_cons (ss_dput hu1 (se_var (i := 0) rfl (by first | exact .inl rfl | exact .inr (.inl rfl) | exact .inr (.inr rfl))) se_str (se_op (r_add false) (se_dget hu1 (se_var (i := 0) rfl (by first | exact .inl rfl | exact .inr (.inl rfl) | exact .inr (.inr rfl))) se_str) se_int))
  (sss_cons (ss_set sc__law_draw.nd rfl (by first | exact .inl rfl | exact .inr rfl) (by first | exact .inl rfl | exact .inr rfl) (se_op (r_add false) (se_dget hu1 (se_var (i := 0) rfl (by first | exact .inl rfl | exact .inr (.inl rfl) | exact .inr (.inr rfl))) se_str) (se_op r_mulI se_int (se_dget hu1 (se_var (i := 0) rfl (by first | exact .inl rfl | exact .inr (.inl rfl) | exact .inr (.inr rfl))) se_str))))
  (sss_cons (ss_if (st_cmp (r_neD hu) (se_dget hu1 (se_var (i := 0) rfl (by first | exact .inl rfl | exact .inr (.inl rfl) | exact .inr (.inr rfl))) se_str) (se_lst false sa_nil) rfl) (sss_cons (ss_set sc__law_draw.nd rfl (by first | exact .inl rfl | exact .inr rfl) (by first | exact .inl rfl | exact .inr rfl) (se_bm0 (T := .list) PySem.F.plainAttrs_list PySem.F.slot_list_pop PySem.F.type_list_pop m_pop (se_dget hu1 (se_var (i := 0) rfl (by first | exact .inl rfl | exact .inr (.inl rfl) | exact .inr (.inr rfl))) se_str)))
  (sss_cons (ss_if (st_cmp r_ge (se_var (i := 3) rfl (by first | exact .inl rfl | exact .inr (.inl rfl) | exact .inr (.inr rfl))) (se_op r_pow se_int se_int) rfl) (sss_cons (ss_expr (se_bm (T := .list) PySem.F.plainAttrs_list PySem.F.slot_list_append PySem.F.type_list_append m_append (se_dget hu1 (se_var (i := 0) rfl (by first | exact .inl rfl | exact .inr (.inl rfl) | exact .inr (.inr rfl))) se_str) (sa_cons (se_op r_fdiv (se_var (i := 3) rfl (by first | exact .inl rfl | exact .inr (.inl rfl) | exact .inr (.inr rfl))) (se_callB (c_max2 rfl) rfl M.b_max (by decide +kernel) (sa_cons se_int (sa_cons (se_var (i := 1) rfl (by first | exact .inl rfl | exact .inr (.inl rfl) | exact .inr (.inr rfl))) sa_nil)))) sa_nil)))
  (sss_one (ss_ret (se_op r_mod (se_callTy c_int rfl M.b_int (by decide +kernel) (sa_cons (se_var (i := 3) rfl (by first | exact .inl rfl | exact .inr (.inl rfl) | exact .inr (.inr rfl))) sa_nil)) (se_var (i := 1) rfl (by first | exact .inl rfl | exact .inr (.inl rfl) | exact .inr (.inr rfl))))))) sss_nil)
  (sss_one (ss_set sc__law_draw.nd rfl (by first | exact .inl rfl | exact .inr rfl) (by first | exact .inl rfl | exact .inr rfl) (se_op (r_add false) (se_var (i := 2) rfl (by first | exact .inl rfl | exact .inr (.inl rfl) | exact .inr (.inr rfl))) (se_op r_mod (se_callTy c_int rfl M.b_int (by decide +kernel) (sa_cons (se_var (i := 3) rfl (by first | exact .inl rfl | exact .inr (.inl rfl) | exact .inr (.inr rfl))) sa_nil)) se_int)))))) sss_nil)
  (sss_cons (ss_set sc__law_draw.nd rfl (by first | exact .inl rfl | exact .inr rfl) (by first | exact .inl rfl | exact .inr rfl) (se_op r_mod (se_callTy c_int rfl M.b_int (by decide +kernel) (sa_cons (se_op (r_add false) (se_op r_mulI (se_var (i := 2) rfl (by first | exact .inl rfl | exact .inr (.inl rfl) | exact .inr (.inr rfl))) se_int) se_int) sa_nil)) se_int))
  (sss_cons (ss_set sc__law_draw.nd rfl (by first | exact .inl rfl | exact .inr rfl) (by first | exact .inl rfl | exact .inr rfl) (se_op r_mod (se_callTy c_int rfl M.b_int (by decide +kernel) (sa_cons (se_op (r_add false) (se_op (r_add false) (se_op r_mulI (se_var (i := 2) rfl (by first | exact .inl rfl | exact .inr (.inl rfl) | exact .inr (.inr rfl))) (se_var (i := 2) rfl (by first | exact .inl rfl | exact .inr (.inl rfl) | exact .inr (.inr rfl)))) (se_op r_mulI se_int (se_dget hu1 (se_var (i := 0) rfl (by first | exact .inl rfl | exact .inr (.inl rfl) | exact .inr (.inr rfl))) se_str))) se_int) sa_nil)) se_int))
  (sss_cons (ss_set sc__law_draw.nd rfl (by first | exact .inl rfl | exact .inr rfl) (by first | exact .inl rfl | exact .inr rfl) (se_op r_mod (se_callTy c_int rfl M.b_int (by decide +kernel) (sa_cons (se_op r_mulI (se_var (i := 2) rfl (by first | exact .inl rfl | exact .inr (.inl rfl) | exact .inr (.inr rfl))) se_int) sa_nil)) se_int))
  (sss_one (ss_ret (se_op r_mod (se_callTy c_int rfl M.b_int (by decide +kernel) (sa_cons (se_op r_fdiv (se_var (i := 2) rfl (by first | exact .inl rfl | exact .inr (.inl rfl) | exact .inr (.inr rfl))) se_int) sa_nil)) (se_var (i := 1) rfl (by first | exact .inl rfl | exact .inr (.inl rfl) | exact .inr (.inr rfl)))))))))))))
theorem bd__law_draw (M : Mx K mg) : Binds K (fdOf K "_law_draw") ["_law_deck_here", "_law_many"] [] := M.d__law_draw.bindsN fun _ _ _ _ _ _ us hl => match us, hl with | [_, _], _ => rfl
theorem sc__law_pick : FnScope ["_law_deck_here", "_law_some"] ["_law_deck_here", "_law_some"] (defScope (top 18)) := ⟨rfl, rfl, rfl, by decide +kernel, rfl, by decide +kernel, by decide +kernel⟩
theorem F__law_pick (M : Mx K mg) : FnZ P w K mg base CXN 2 (He.ga K "_law_pick") (fdOf K "_law_pick") ["_law_deck_here", "_law_some"] f__law_pick := by
  refine fnz_of (ps := ["_law_deck_here", "_law_some"]) (m := b__law_pick) M.d__law_pick sc__law_pick fun cdv A outer sh H E hr gd => ?_
  have hu := hr.units
  have hu1 := Nat.lt_of_le_of_lt (Nat.add_le_add_left (show 1 ≤ 64 by decide) _) hr.units
  exact PSs.nox ((sss_one (ss_ret (se_ix (se_var (i := 1) rfl (by first | exact .inl rfl | exact .inr (.inl rfl) | exact .inr (.inr rfl))) (se_call (F__law_draw M) (hr.mono (by decide)) gd rfl M.g__law_draw M.d__law_draw.kp (bd__law_draw M) passN (sa_cons (se_var (i := 0) rfl (by first | exact .inl rfl | exact .inr (.inl rfl) | exact .inr (.inr rfl))) (sa_cons (se_callB c_len rfl M.b_len (by decide +kernel) (sa_cons (se_var (i := 1) rfl (by first | exact .inl rfl | exact .inr (.inl rfl) | exact .inr (.inr rfl))) sa_nil)) sa_nil)))))))
theorem bd__law_pick (M : Mx K mg) : Binds K (fdOf K "_law_pick") ["_law_deck_here", "_law_some"] [] := M.d__law_pick.bindsN fun _ _ _ _ _ _ us hl => match us, hl with | [_, _], _ => rfl
theorem sc__law_tags : FnScope ["_law_deck_here", "_law_many", "_law_found", "_law_turn", "_law_size", "_law_tag", "_law_spare", "_law_letter", "_law_one"] ["_law_deck_here", "_law_many"] (defScope (top 22)) := ⟨rfl, rfl, rfl, by decide +kernel, rfl, by decide +kernel, by decide +kernel⟩
theorem F__law_tags (M : Mx K mg) : FnZ P w K mg base CXN 3 (He.ga K "_law_tags") (fdOf K "_law_tags") ["_law_deck_here", "_law_many"] f__law_tags := by
  refine fnz_of (ps := ["_law_deck_here", "_law_many"]) (m := b__law_tags) M.d__law_tags sc__law_tags fun cdv A outer sh H E hr gd => ?_
  have hu := hr.units
  have hu1 := Nat.lt_of_le_of_lt (Nat.add_le_add_left (show 1 ≤ 64 by decide) _) hr.units
  exact PSs.nox ((sss_cons (ss_set sc__law_tags.nd rfl (by first | exact .inl rfl | exact .inr rfl) (by first | exact .inl rfl | exact .inr rfl) (se_lst true sa_nil))
  (sss_cons (ss_for PassesOwn.never rfl (si_range1 rfl M.b_range (sa_cons (se_var (i := 1) rfl (by first | exact .inl rfl | exact .inr (.inl rfl) | exact .inr (.inr rfl))) sa_nil)) (sg_name sc__law_tags.nd rfl (by first | exact .inl rfl | exact .inr rfl) (by first | exact .inl rfl | exact .inr rfl)) (sss_cons (ss_set sc__law_tags.nd rfl (by first | exact .inl rfl | exact .inr rfl) (by first | exact .inl rfl | exact .inr rfl) (se_call (F__law_pick M) (hr.mono (by decide)) gd rfl M.g__law_pick M.d__law_pick.kp (bd__law_pick M) passN (sa_cons (se_var (i := 0) rfl (by first | exact .inl rfl | exact .inr (.inl rfl) | exact .inr (.inr rfl))) (sa_cons (se_lst false (sa_cons se_int (sa_cons se_int (sa_cons se_int (sa_cons se_int (sa_cons se_int sa_nil)))))) sa_nil))))
  (sss_cons (ss_set sc__law_tags.nd rfl (by first | exact .inl rfl | exact .inr rfl) (by first | exact .inl rfl | exact .inr rfl) (se_bm (T := .str) PySem.F.plainAttrs_str PySem.F.slot_str_join PySem.F.type_str_join m_join se_str (sa_cons (se_lc (own := [("_law_letter", 7)]) false rfl sc__law_tags.nd (si_range1 rfl M.b_range (sa_cons (se_var (i := 4) rfl (by first | exact .inl rfl | exact .inr (.inl rfl) | exact .inr (.inr rfl))) sa_nil)) (blkOk_by (N := ["_law_deck_here", "_law_many", "_law_found", "_law_turn", "_law_size", "_law_tag", "_law_spare", "_law_letter", "_law_one"]) (sc := defScope (top 22)) (by decide +kernel)) (fun _ _ _ _ _ => (sg_name sc__law_tags.nd rfl (by first | exact .inl rfl | exact .inr rfl) (by first | exact .inl rfl | exact .inr rfl))) (fun _ _ _ _ _ => sts_nil) (fun _ _ _ _ _ => (se_call (F__law_pick M) (hr.mono (by decide)) gd rfl M.g__law_pick M.d__law_pick.kp (bd__law_pick M) passN (sa_cons (se_var (i := 0) rfl (by first | exact .inl rfl | exact .inr (.inl rfl) | exact .inr (.inr rfl))) (sa_cons se_str sa_nil))))) sa_nil)))
  (sss_cons (ss_setLc (own := [("_law_one", 8)]) false rfl sc__law_tags.nd rfl rfl (sw_true rfl rfl rfl (by decide +kernel)) (si_any (se_tup (sa_cons (se_var (i := 5) rfl (by first | exact .inl rfl | exact .inr (.inl rfl) | exact .inr (.inr rfl))) (sa_cons se_str (sa_cons se_str (sa_cons se_str (sa_cons se_str sa_nil))))))) (blkOk_by (N := ["_law_deck_here", "_law_many", "_law_found", "_law_turn", "_law_size", "_law_tag", "_law_spare", "_law_letter", "_law_one"]) (sc := defScope (top 22)) (by decide +kernel)) (fun _ _ _ _ _ => (sg_name sc__law_tags.nd rfl (by first | exact .inl rfl | exact .inr rfl) (by first | exact .inl rfl | exact .inr rfl))) (fun _ _ _ _ _ => (sts_one (st_cmp r_notin (se_var (i := 8) rfl (by first | exact .inl rfl | exact .inr (.inl rfl) | exact .inr (.inr rfl))) (se_var (i := 2) rfl (by first | exact .inl rfl | exact .inr (.inl rfl) | exact .inr (.inr rfl))) rfl))) (fun _ _ _ _ _ => (se_var (i := 8) rfl (by first | exact .inl rfl | exact .inr (.inl rfl) | exact .inr (.inr rfl)))))
  (sss_one (ss_expr (se_bm (T := .list) PySem.F.plainAttrs_list PySem.F.slot_list_append PySem.F.type_list_append m_append (se_var (i := 2) rfl (by first | exact .inl rfl | exact .inr (.inl rfl) | exact .inr (.inr rfl))) (sa_cons (se_ix (se_var (i := 6) rfl (by first | exact .inl rfl | exact .inr (.inl rfl) | exact .inr (.inr rfl))) se_int) sa_nil))))))))
  (sss_one (ss_ret (se_callTy c_tuple rfl M.b_tuple (by decide +kernel) (sa_cons (se_var (i := 2) rfl (by first | exact .inl rfl | exact .inr (.inl rfl) | exact .inr (.inr rfl))) sa_nil)))))))
theorem bd__law_tags (M : Mx K mg) : Binds K (fdOf K "_law_tags") ["_law_deck_here", "_law_many"] [] := M.d__law_tags.bindsN fun _ _ _ _ _ _ us hl => match us, hl with | [_, _], _ => rfl
theorem sc__law_tape : FnScope ["_law_deck_here", "_law_most", "_law_tags_here", "_law_signs", "_law_many", "_law_states", "_law_state", "_law_rules", "_law_sign", "_law_to"] ["_law_deck_here", "_law_most"] (defScope (top 24)) := ⟨rfl, rfl, rfl, by decide +kernel, rfl, by decide +kernel, by decide +kernel⟩
theorem F__law_tape (M : Mx K mg) : FnZ P w K mg base CXN 4 (He.ga K "_law_tape") (fdOf K "_law_tape") ["_law_deck_here", "_law_most"] f__law_tape := by
  refine fnz_of (ps := ["_law_deck_here", "_law_most"]) (m := b__law_tape) M.d__law_tape sc__law_tape fun cdv A outer sh H E hr gd => ?_
  have hu := hr.units
  have hu1 := Nat.lt_of_le_of_lt (Nat.add_le_add_left (show 1 ≤ 64 by decide) _) hr.units
  exact PSs.nox ((sss_cons (ss_set sc__law_tape.nd rfl (by first | exact .inl rfl | exact .inr rfl) (by first | exact .inl rfl | exact .inr rfl) (se_call (F__law_tags M) (hr.mono (by decide)) gd rfl M.g__law_tags M.d__law_tags.kp (bd__law_tags M) passN (sa_cons (se_var (i := 0) rfl (by first | exact .inl rfl | exact .inr (.inl rfl) | exact .inr (.inr rfl))) (sa_cons (se_call (F__law_pick M) (hr.mono (by decide)) gd rfl M.g__law_pick M.d__law_pick.kp (bd__law_pick M) passN (sa_cons (se_var (i := 0) rfl (by first | exact .inl rfl | exact .inr (.inl rfl) | exact .inr (.inr rfl))) (sa_cons (se_lst false (sa_cons se_int (sa_cons se_int (sa_cons se_int (sa_cons se_int sa_nil))))) sa_nil))) sa_nil))))
  (sss_cons (ss_set sc__law_tape.nd rfl (by first | exact .inl rfl | exact .inr rfl) (by first | exact .inl rfl | exact .inr rfl) (se_callB (c_min2 rfl) rfl M.b_min (by decide +kernel) (sa_cons se_int (sa_cons (se_op (r_add false) (se_op (r_add false) (se_callB c_len rfl M.b_len (by decide +kernel) (sa_cons (se_var (i := 2) rfl (by first | exact .inl rfl | exact .inr (.inl rfl) | exact .inr (.inr rfl))) sa_nil)) se_int) (se_call (F__law_draw M) (hr.mono (by decide)) gd rfl M.g__law_draw M.d__law_draw.kp (bd__law_draw M) passN (sa_cons (se_var (i := 0) rfl (by first | exact .inl rfl | exact .inr (.inl rfl) | exact .inr (.inr rfl))) (sa_cons se_int sa_nil)))) sa_nil))))
  (sss_cons (ss_par rfl sc__law_tape.nd rfl rfl (by decide) rfl rfl (sa_cons (se_op (r_add false) se_int (se_call (F__law_draw M) (hr.mono (by decide)) gd rfl M.g__law_draw M.d__law_draw.kp (bd__law_draw M) passN (sa_cons (se_var (i := 0) rfl (by first | exact .inl rfl | exact .inr (.inl rfl) | exact .inr (.inr rfl))) (sa_cons (se_var (i := 1) rfl (by first | exact .inl rfl | exact .inr (.inl rfl) | exact .inr (.inr rfl))) sa_nil)))) (sa_cons (se_lst true sa_nil) sa_nil)))
  (sss_cons (ss_for PassesOwn.never rfl (si_range1 rfl M.b_range (sa_cons (se_var (i := 4) rfl (by first | exact .inl rfl | exact .inr (.inl rfl) | exact .inr (.inr rfl))) sa_nil)) (sg_name sc__law_tape.nd rfl (by first | exact .inl rfl | exact .inr rfl) (by first | exact .inl rfl | exact .inr rfl)) (sss_cons (ss_set sc__law_tape.nd rfl (by first | exact .inl rfl | exact .inr rfl) (by first | exact .inl rfl | exact .inr rfl) (se_lst true sa_nil))
  (sss_cons (ss_for PassesOwn.never rfl (si_range1 rfl M.b_range (sa_cons (se_var (i := 3) rfl (by first | exact .inl rfl | exact .inr (.inl rfl) | exact .inr (.inr rfl))) sa_nil)) (sg_name sc__law_tape.nd rfl (by first | exact .inl rfl | exact .inr rfl) (by first | exact .inl rfl | exact .inr rfl)) (sss_cons (ss_set sc__law_tape.nd rfl (by first | exact .inl rfl | exact .inr rfl) (by first | exact .inl rfl | exact .inr rfl) (se_call (F__law_pick M) (hr.mono (by decide)) gd rfl M.g__law_pick M.d__law_pick.kp (bd__law_pick M) passN (sa_cons (se_var (i := 0) rfl (by first | exact .inl rfl | exact .inr (.inl rfl) | exact .inr (.inr rfl))) (sa_cons (se_lst false (sa_cons (se_call (F__law_draw M) (hr.mono (by decide)) gd rfl M.g__law_draw M.d__law_draw.kp (bd__law_draw M) passN (sa_cons (se_var (i := 0) rfl (by first | exact .inl rfl | exact .inr (.inl rfl) | exact .inr (.inr rfl))) (sa_cons (se_op (r_add false) (se_var (i := 4) rfl (by first | exact .inl rfl | exact .inr (.inl rfl) | exact .inr (.inr rfl))) se_int) sa_nil))) (sa_cons (se_var (i := 6) rfl (by first | exact .inl rfl | exact .inr (.inl rfl) | exact .inr (.inr rfl))) (sa_cons (se_var (i := 4) rfl (by first | exact .inl rfl | exact .inr (.inl rfl) | exact .inr (.inr rfl))) (sa_cons (se_call (F__law_draw M) (hr.mono (by decide)) gd rfl M.g__law_draw M.d__law_draw.kp (bd__law_draw M) passN (sa_cons (se_var (i := 0) rfl (by first | exact .inl rfl | exact .inr (.inl rfl) | exact .inr (.inr rfl))) (sa_cons (se_var (i := 4) rfl (by first | exact .inl rfl | exact .inr (.inl rfl) | exact .inr (.inr rfl))) sa_nil))) sa_nil))))) sa_nil))))
  (sss_one (ss_expr (se_bm (T := .list) PySem.F.plainAttrs_list PySem.F.slot_list_append PySem.F.type_list_append m_append (se_var (i := 7) rfl (by first | exact .inl rfl | exact .inr (.inl rfl) | exact .inr (.inr rfl))) (sa_cons (se_tup (sa_cons (se_var (i := 9) rfl (by first | exact .inl rfl | exact .inr (.inl rfl) | exact .inr (.inr rfl))) (sa_cons (se_call (F__law_pick M) (hr.mono (by decide)) gd rfl M.g__law_pick M.d__law_pick.kp (bd__law_pick M) passN (sa_cons (se_var (i := 0) rfl (by first | exact .inl rfl | exact .inr (.inl rfl) | exact .inr (.inr rfl))) (sa_cons (se_lst false (sa_cons (se_var (i := 8) rfl (by first | exact .inl rfl | exact .inr (.inl rfl) | exact .inr (.inr rfl))) (sa_cons (se_call (F__law_draw M) (hr.mono (by decide)) gd rfl M.g__law_draw M.d__law_draw.kp (bd__law_draw M) passN (sa_cons (se_var (i := 0) rfl (by first | exact .inl rfl | exact .inr (.inl rfl) | exact .inr (.inr rfl))) (sa_cons (se_var (i := 3) rfl (by first | exact .inl rfl | exact .inr (.inl rfl) | exact .inr (.inr rfl))) sa_nil))) sa_nil))) sa_nil))) (sa_cons (se_call (F__law_pick M) (hr.mono (by decide)) gd rfl M.g__law_pick M.d__law_pick.kp (bd__law_pick M) passN (sa_cons (se_var (i := 0) rfl (by first | exact .inl rfl | exact .inr (.inl rfl) | exact .inr (.inr rfl))) (sa_cons (se_lst false (sa_cons se_int (sa_cons se_int (sa_cons (se_un r_neg se_int) (sa_cons se_int (sa_cons se_int sa_nil)))))) sa_nil))) sa_nil)))) sa_nil))))))
  (sss_one (ss_expr (se_bm (T := .list) PySem.F.plainAttrs_list PySem.F.slot_list_append PySem.F.type_list_append m_append (se_var (i := 5) rfl (by first | exact .inl rfl | exact .inr (.inl rfl) | exact .inr (.inr rfl))) (sa_cons (se_callTy c_tuple rfl M.b_tuple (by decide +kernel) (sa_cons (se_var (i := 7) rfl (by first | exact .inl rfl | exact .inr (.inl rfl) | exact .inr (.inr rfl))) sa_nil)) sa_nil)))))))
  (sss_one (ss_ret (se_tup (sa_cons se_str (sa_cons (se_var (i := 2) rfl (by first | exact .inl rfl | exact .inr (.inl rfl) | exact .inr (.inr rfl))) (sa_cons (se_var (i := 3) rfl (by first | exact .inl rfl | exact .inr (.inl rfl) | exact .inr (.inr rfl))) (sa_cons (se_callTy c_tuple rfl M.b_tuple (by decide +kernel) (sa_cons (se_var (i := 5) rfl (by first | exact .inl rfl | exact .inr (.inl rfl) | exact .inr (.inr rfl))) sa_nil)) sa_nil))))))))))))
theorem bd__law_tape (M : Mx K mg) : Binds K (fdOf K "_law_tape") ["_law_deck_here", "_law_most"] [] := M.d__law_tape.bindsN fun _ _ _ _ _ _ us hl => match us, hl with | [_, _], _ => rfl
theorem sc__law_leaf : FnScope ["_law_deck_here", "_law_thing", "_law_odd"] ["_law_deck_here", "_law_thing"] (defScope (top 25)) := ⟨rfl, rfl, rfl, by decide +kernel, rfl, by decide +kernel, by decide +kernel⟩
theorem F__law_leaf (M : Mx K mg) : FnZ P w K mg base CXN 3 (He.ga K "_law_leaf") (fdOf K "_law_leaf") ["_law_deck_here", "_law_thing"] f__law_leaf := by
  refine fnz_of (ps := ["_law_deck_here", "_law_thing"]) (m := b__law_leaf) M.d__law_leaf sc__law_leaf fun cdv A outer sh H E hr gd => ?_
  have hu := hr.units
  have hu1 := Nat.lt_of_le_of_lt (Nat.add_le_add_left (show 1 ≤ 64 by decide) _) hr.units
  exact PSs.nox ((sss_cons (ss_set sc__law_leaf.nd rfl (by first | exact .inl rfl | exact .inr rfl) (by first | exact .inl rfl | exact .inr rfl) (se_lst false (sa_cons se_non (sa_cons se_bl (sa_cons se_bl (sa_cons se_int (sa_cons se_int (sa_cons (se_un r_neg se_int) (sa_cons se_int (sa_cons se_str (sa_cons se_str (sa_cons se_str (sa_cons (se_tup sa_nil) (sa_cons (se_lst false sa_nil) (sa_cons (se_dic0 false) (sa_cons (se_op r_pow se_int se_int) (sa_cons se_str (sa_cons se_str sa_nil))))))))))))))))))
  (sss_cons (ss_if (st_w (sw_and (st_val (se_isi .tuple rfl M.b_isinstance rfl M.b_tuple (by decide +kernel) (se_var (i := 1) rfl (by first | exact .inl rfl | exact .inr (.inl rfl) | exact .inr (.inr rfl))))) (sw_and1 (st_cmp r_gt (se_call (F__law_draw M) (hr.mono (by decide)) gd rfl M.g__law_draw M.d__law_draw.kp (bd__law_draw M) passN (sa_cons (se_var (i := 0) rfl (by first | exact .inl rfl | exact .inr (.inl rfl) | exact .inr (.inr rfl))) (sa_cons se_int sa_nil))) se_int rfl)))) (sss_one (ss_ret (se_call (F__law_pick M) (hr.mono (by decide)) gd rfl M.g__law_pick M.d__law_pick.kp (bd__law_pick M) passN (sa_cons (se_var (i := 0) rfl (by first | exact .inl rfl | exact .inr (.inl rfl) | exact .inr (.inr rfl))) (sa_cons (se_lst false (sa_cons (se_callTy (c_list false) rfl M.b_list (by decide +kernel) (sa_cons (se_var (i := 1) rfl (by first | exact .inl rfl | exact .inr (.inl rfl) | exact .inr (.inr rfl))) sa_nil)) (sa_cons (se_back false (se_var (i := 1) rfl (by first | exact .inl rfl | exact .inr (.inl rfl) | exact .inr (.inr rfl)))) (sa_cons (se_slice false (se_var (i := 1) rfl (by first | exact .inl rfl | exact .inr (.inl rfl) | exact .inr (.inr rfl))) (sp_some se_int) sp_none) (sa_cons (se_op (r_add false) (se_var (i := 1) rfl (by first | exact .inl rfl | exact .inr (.inl rfl) | exact .inr (.inr rfl))) (se_slice false (se_var (i := 1) rfl (by first | exact .inl rfl | exact .inr (.inl rfl) | exact .inr (.inr rfl))) (sp_some (se_un r_neg se_int)) sp_none)) (sa_cons (se_op (r_add false) (se_var (i := 1) rfl (by first | exact .inl rfl | exact .inr (.inl rfl) | exact .inr (.inr rfl))) (se_tup (sa_cons se_int sa_nil))) (sa_cons (se_slice false (se_var (i := 1) rfl (by first | exact .inl rfl | exact .inr (.inl rfl) | exact .inr (.inr rfl))) sp_none (sp_some (se_un r_neg se_int))) (sa_cons (se_tup (sa_cons (se_var (i := 1) rfl (by first | exact .inl rfl | exact .inr (.inl rfl) | exact .inr (.inr rfl))) sa_nil)) sa_nil)))))))) sa_nil))))) sss_nil)
  (sss_cons (ss_if (st_w (sw_and (st_val (se_isi .int rfl M.b_isinstance rfl M.b_int (by decide +kernel) (se_var (i := 1) rfl (by first | exact .inl rfl | exact .inr (.inl rfl) | exact .inr (.inr rfl))))) (sw_and1 (st_cmp r_gt (se_call (F__law_draw M) (hr.mono (by decide)) gd rfl M.g__law_draw M.d__law_draw.kp (bd__law_draw M) passN (sa_cons (se_var (i := 0) rfl (by first | exact .inl rfl | exact .inr (.inl rfl) | exact .inr (.inr rfl))) (sa_cons se_int sa_nil))) se_int rfl)))) (sss_one (ss_ret (se_call (F__law_pick M) (hr.mono (by decide)) gd rfl M.g__law_pick M.d__law_pick.kp (bd__law_pick M) passN (sa_cons (se_var (i := 0) rfl (by first | exact .inl rfl | exact .inr (.inl rfl) | exact .inr (.inr rfl))) (sa_cons (se_lst false (sa_cons (se_op (r_add false) (se_var (i := 1) rfl (by first | exact .inl rfl | exact .inr (.inl rfl) | exact .inr (.inr rfl))) se_int) (sa_cons (se_op r_sub (se_var (i := 1) rfl (by first | exact .inl rfl | exact .inr (.inl rfl) | exact .inr (.inr rfl))) se_int) (sa_cons (se_cmp (r_eqD hu) (se_var (i := 1) rfl (by first | exact .inl rfl | exact .inr (.inl rfl) | exact .inr (.inr rfl))) se_int rfl) (sa_cons (se_callTy c_str rfl M.b_str (by decide +kernel) (sa_cons (se_var (i := 1) rfl (by first | exact .inl rfl | exact .inr (.inl rfl) | exact .inr (.inr rfl))) sa_nil)) (sa_cons (se_un r_neg (se_var (i := 1) rfl (by first | exact .inl rfl | exact .inr (.inl rfl) | exact .inr (.inr rfl)))) (sa_cons (se_op (r_add false) (se_var (i := 1) rfl (by first | exact .inl rfl | exact .inr (.inl rfl) | exact .inr (.inr rfl))) se_int) (sa_cons (se_tup (sa_cons (se_var (i := 1) rfl (by first | exact .inl rfl | exact .inr (.inl rfl) | exact .inr (.inr rfl))) sa_nil)) sa_nil)))))))) sa_nil))))) sss_nil)
  (sss_one (ss_ret (se_call (F__law_pick M) (hr.mono (by decide)) gd rfl M.g__law_pick M.d__law_pick.kp (bd__law_pick M) passN (sa_cons (se_var (i := 0) rfl (by first | exact .inl rfl | exact .inr (.inl rfl) | exact .inr (.inr rfl))) (sa_cons (se_op (r_add false) (se_var (i := 2) rfl (by first | exact .inl rfl | exact .inr (.inl rfl) | exact .inr (.inr rfl))) (se_if (st_val (se_isi .str rfl M.b_isinstance rfl M.b_str (by decide +kernel) (se_var (i := 1) rfl (by first | exact .inl rfl | exact .inr (.inl rfl) | exact .inr (.inr rfl))))) (se_lst false (sa_cons (se_op (r_add false) (se_var (i := 1) rfl (by first | exact .inl rfl | exact .inr (.inl rfl) | exact .inr (.inr rfl))) se_str) (sa_cons (se_slice false (se_var (i := 1) rfl (by first | exact .inl rfl | exact .inr (.inl rfl) | exact .inr (.inr rfl))) (sp_some se_int) sp_none) (sa_cons (se_bm0 (T := .str) PySem.F.plainAttrs_str PySem.F.slot_str_upper PySem.F.type_str_upper m_upper (se_var (i := 1) rfl (by first | exact .inl rfl | exact .inr (.inl rfl) | exact .inr (.inr rfl)))) (sa_cons (se_tup (sa_cons (se_var (i := 1) rfl (by first | exact .inl rfl | exact .inr (.inl rfl) | exact .inr (.inr rfl))) sa_nil)) sa_nil))))) (se_lst false sa_nil))) sa_nil)))))))))
theorem bd__law_leaf (M : Mx K mg) : Binds K (fdOf K "_law_leaf") ["_law_deck_here", "_law_thing"] [] := M.d__law_leaf.bindsN fun _ _ _ _ _ _ us hl => match us, hl with | [_, _], _ => rfl
theorem sc__law_bent : FnScope ["_law_deck_here", "_law_thing", "_law_depth", "_law_at"] ["_law_deck_here", "_law_thing", "_law_depth"] (defScope (top 26)) := ⟨rfl, rfl, rfl, by decide +kernel, rfl, by decide +kernel, by decide +kernel⟩
theorem bd__law_bent (M : Mx K mg) : Binds K (fdOf K "_law_bent") ["_law_deck_here", "_law_thing", "_law_depth"] [] := M.d__law_bent.bindsN fun _ _ _ _ _ _ us hl => match us, hl with | [_, _, _], _ => rfl
theorem W__law_bent (M : Mx K mg) {k : Nat} {rec : FM} (hk : 3 ≤ k) (FR : FnZ P w K mg base CXN k (He.ga K "_law_bent") (fdOf K "_law_bent") ["_law_deck_here", "_law_thing", "_law_depth"] rec) : FnZ P w K mg base CXN (k + 1) (He.ga K "_law_bent") (fdOf K "_law_bent") ["_law_deck_here", "_law_thing", "_law_depth"] (fnM 3 ["_law_deck_here", "_law_thing", "_law_depth", "_law_at"] (b__law_bent rec)) := by
  refine fnz_of (ps := ["_law_deck_here", "_law_thing", "_law_depth"]) M.d__law_bent sc__law_bent fun cdv A outer sh H E hr gd => ?_
  have hu := hr.units
  have hu1 := Nat.lt_of_le_of_lt (Nat.add_le_add_left (show 1 ≤ 64 by decide) _) hr.units
  exact PSs.nox ((sss_cons (ss_if (st_w (sw_and (st_val (se_isi .tuple rfl M.b_isinstance rfl M.b_tuple (by decide +kernel) (se_var (i := 1) rfl (by first | exact .inl rfl | exact .inr (.inl rfl) | exact .inr (.inr rfl))))) (sw_and (st_cmp (r_neD hu) (se_var (i := 1) rfl (by first | exact .inl rfl | exact .inr (.inl rfl) | exact .inr (.inr rfl))) (se_tup sa_nil) rfl) (sw_and1 (st_w (sw_or (st_cmp r_gt (se_var (i := 2) rfl (by first | exact .inl rfl | exact .inr (.inl rfl) | exact .inr (.inr rfl))) se_int rfl) (sw_or1 (st_cmp r_gt (se_call (F__law_draw M) (hr.mono (by omega)) gd rfl M.g__law_draw M.d__law_draw.kp (bd__law_draw M) passN (sa_cons (se_var (i := 0) rfl (by first | exact .inl rfl | exact .inr (.inl rfl) | exact .inr (.inr rfl))) (sa_cons se_int sa_nil))) se_int rfl)))))))) (sss_cons (ss_set sc__law_bent.nd rfl (by first | exact .inl rfl | exact .inr rfl) (by first | exact .inl rfl | exact .inr rfl) (se_call (F__law_draw M) (hr.mono (by omega)) gd rfl M.g__law_draw M.d__law_draw.kp (bd__law_draw M) passN (sa_cons (se_var (i := 0) rfl (by first | exact .inl rfl | exact .inr (.inl rfl) | exact .inr (.inr rfl))) (sa_cons (se_callB c_len rfl M.b_len (by decide +kernel) (sa_cons (se_var (i := 1) rfl (by first | exact .inl rfl | exact .inr (.inl rfl) | exact .inr (.inr rfl))) sa_nil)) sa_nil))))
  (sss_one (ss_ret (se_op (r_add false) (se_op (r_add false) (se_slice false (se_var (i := 1) rfl (by first | exact .inl rfl | exact .inr (.inl rfl) | exact .inr (.inr rfl))) sp_none (sp_some (se_var (i := 3) rfl (by first | exact .inl rfl | exact .inr (.inl rfl) | exact .inr (.inr rfl))))) (se_tup (sa_cons (se_call FR (hr.mono (by omega)) gd rfl M.g__law_bent M.d__law_bent.kp (bd__law_bent M) passN (sa_cons (se_var (i := 0) rfl (by first | exact .inl rfl | exact .inr (.inl rfl) | exact .inr (.inr rfl))) (sa_cons (se_ix (se_var (i := 1) rfl (by first | exact .inl rfl | exact .inr (.inl rfl) | exact .inr (.inr rfl))) (se_var (i := 3) rfl (by first | exact .inl rfl | exact .inr (.inl rfl) | exact .inr (.inr rfl)))) (sa_cons (se_op r_sub (se_var (i := 2) rfl (by first | exact .inl rfl | exact .inr (.inl rfl) | exact .inr (.inr rfl))) se_int) sa_nil)))) sa_nil))) (se_slice false (se_var (i := 1) rfl (by first | exact .inl rfl | exact .inr (.inl rfl) | exact .inr (.inr rfl))) (sp_some (se_op (r_add false) (se_var (i := 3) rfl (by first | exact .inl rfl | exact .inr (.inl rfl) | exact .inr (.inr rfl))) se_int)) sp_none))))) sss_nil)
  (sss_one (ss_ret (se_call (F__law_leaf M) (hr.mono (by omega)) gd rfl M.g__law_leaf M.d__law_leaf.kp (bd__law_leaf M) passN (sa_cons (se_var (i := 0) rfl (by first | exact .inl rfl | exact .inr (.inl rfl) | exact .inr (.inr rfl))) (sa_cons (se_var (i := 1) rfl (by first | exact .inl rfl | exact .inr (.inl rfl) | exact .inr (.inr rfl))) sa_nil)))))))
theorem R__law_bent (M : Mx K mg) : ∀ n : Nat, FnZ P w K mg base CXN (3 + n) (He.ga K "_law_bent") (fdOf K "_law_bent") ["_law_deck_here", "_law_thing", "_law_depth"] (r__law_bent n)
  | 0 => ⟨fun _ _ _ => rfl, fun A outer sh H args us vs Q E _ _ _ _ _ h => by obtain ⟨W, s, pvs, _, _, q⟩ := h; exact q.elim⟩
  | n + 1 => W__law_bent M (Nat.le_add_right _ _) (R__law_bent M n)
theorem F__law_bent (M : Mx K mg) : FnZ P w K mg base CXN 12 (He.ga K "_law_bent") (fdOf K "_law_bent") ["_law_deck_here", "_law_thing", "_law_depth"] f__law_bent := (R__law_bent M 8).up (by decide)
theorem sc__law_otherwise : FnScope ["_law_deck_here", "_law_machine", "_law_kind", "_law_tags_here", "_law_signs", "_law_states", "_law_way", "_law_at", "_law_rule", "_law_spot", "_law_state"] ["_law_deck_here", "_law_machine"] (defScope (top 27)) := ⟨rfl, rfl, rfl, by decide +kernel, rfl, by decide +kernel, by decide +kernel⟩
theorem F__law_otherwise (M : Mx K mg) : FnZ P w K mg base CXN 13 (He.ga K "_law_otherwise") (fdOf K "_law_otherwise") ["_law_deck_here", "_law_machine"] f__law_otherwise := by
  refine fnz_of (ps := ["_law_deck_here", "_law_machine"]) (m := b__law_otherwise) M.d__law_otherwise sc__law_otherwise fun cdv A outer sh H E hr gd => ?_
  have hu := hr.units
  have hu1 := Nat.lt_of_le_of_lt (Nat.add_le_add_left (show 1 ≤ 64 by decide) _) hr.units
  exact PSs.nox ((sss_cons (ss_asg (se_var (i := 1) rfl (by first | exact .inl rfl | exact .inr (.inl rfl) | exact .inr (.inr rfl))) (sg_tup rfl (sgs_cons (sg_name sc__law_otherwise.nd rfl (by first | exact .inl rfl | exact .inr rfl) (by first | exact .inl rfl | exact .inr rfl)) (sgs_cons (sg_name sc__law_otherwise.nd rfl (by first | exact .inl rfl | exact .inr rfl) (by first | exact .inl rfl | exact .inr rfl)) (sgs_cons (sg_name sc__law_otherwise.nd rfl (by first | exact .inl rfl | exact .inr rfl) (by first | exact .inl rfl | exact .inr rfl)) (sgs_cons (sg_name sc__law_otherwise.nd rfl (by first | exact .inl rfl | exact .inr rfl) (by first | exact .inl rfl | exact .inr rfl)) sgs_nil)))) (ar_cons (ar_cons (ar_cons (ar_cons ar_nil))))))
  (sss_cons (ss_par rfl sc__law_otherwise.nd rfl rfl (by decide) rfl rfl (sa_cons (se_call (F__law_draw M) (hr.mono (by decide)) gd rfl M.g__law_draw M.d__law_draw.kp (bd__law_draw M) passN (sa_cons (se_var (i := 0) rfl (by first | exact .inl rfl | exact .inr (.inl rfl) | exact .inr (.inr rfl))) (sa_cons se_int sa_nil))) (sa_cons (se_call (F__law_draw M) (hr.mono (by decide)) gd rfl M.g__law_draw M.d__law_draw.kp (bd__law_draw M) passN (sa_cons (se_var (i := 0) rfl (by first | exact .inl rfl | exact .inr (.inl rfl) | exact .inr (.inr rfl))) (sa_cons (se_callB c_len rfl M.b_len (by decide +kernel) (sa_cons (se_var (i := 5) rfl (by first | exact .inl rfl | exact .inr (.inl rfl) | exact .inr (.inr rfl))) sa_nil)) sa_nil))) sa_nil)))
  (sss_cons (ss_set sc__law_otherwise.nd rfl (by first | exact .inl rfl | exact .inr rfl) (by first | exact .inl rfl | exact .inr rfl) (se_tup (sa_cons (se_op r_sub (se_call (F__law_draw M) (hr.mono (by decide)) gd rfl M.g__law_draw M.d__law_draw.kp (bd__law_draw M) passN (sa_cons (se_var (i := 0) rfl (by first | exact .inl rfl | exact .inr (.inl rfl) | exact .inr (.inr rfl))) (sa_cons (se_op (r_add false) (se_callB c_len rfl M.b_len (by decide +kernel) (sa_cons (se_var (i := 5) rfl (by first | exact .inl rfl | exact .inr (.inl rfl) | exact .inr (.inr rfl))) sa_nil)) se_int) sa_nil))) se_int) (sa_cons (se_op r_sub (se_call (F__law_draw M) (hr.mono (by decide)) gd rfl M.g__law_draw M.d__law_draw.kp (bd__law_draw M) passN (sa_cons (se_var (i := 0) rfl (by first | exact .inl rfl | exact .inr (.inl rfl) | exact .inr (.inr rfl))) (sa_cons (se_op (r_add false) (se_var (i := 4) rfl (by first | exact .inl rfl | exact .inr (.inl rfl) | exact .inr (.inr rfl))) se_int) sa_nil))) se_int) (sa_cons (se_op r_sub (se_call (F__law_draw M) (hr.mono (by decide)) gd rfl M.g__law_draw M.d__law_draw.kp (bd__law_draw M) passN (sa_cons (se_var (i := 0) rfl (by first | exact .inl rfl | exact .inr (.inl rfl) | exact .inr (.inr rfl))) (sa_cons se_int sa_nil))) se_int) sa_nil)))))
  (sss_cons (ss_set sc__law_otherwise.nd rfl (by first | exact .inl rfl | exact .inr rfl) (by first | exact .inl rfl | exact .inr rfl) (se_call (F__law_draw M) (hr.mono (by decide)) gd rfl M.g__law_draw M.d__law_draw.kp (bd__law_draw M) passN (sa_cons (se_var (i := 0) rfl (by first | exact .inl rfl | exact .inr (.inl rfl) | exact .inr (.inr rfl))) (sa_cons (se_var (i := 4) rfl (by first | exact .inl rfl | exact .inr (.inl rfl) | exact .inr (.inr rfl))) sa_nil))))
  (sss_cons (ss_if (st_cmp r_lt (se_var (i := 6) rfl (by first | exact .inl rfl | exact .inr (.inl rfl) | exact .inr (.inr rfl))) se_int rfl) (sss_cons (ss_set sc__law_otherwise.nd rfl (by first | exact .inl rfl | exact .inr rfl) (by first | exact .inl rfl | exact .inr rfl) (se_op (r_add false) (se_op (r_add false) (se_slice false (se_ix (se_var (i := 5) rfl (by first | exact .inl rfl | exact .inr (.inl rfl) | exact .inr (.inr rfl))) (se_var (i := 7) rfl (by first | exact .inl rfl | exact .inr (.inl rfl) | exact .inr (.inr rfl)))) sp_none (sp_some (se_var (i := 9) rfl (by first | exact .inl rfl | exact .inr (.inl rfl) | exact .inr (.inr rfl))))) (se_tup (sa_cons (se_var (i := 8) rfl (by first | exact .inl rfl | exact .inr (.inl rfl) | exact .inr (.inr rfl))) sa_nil))) (se_slice false (se_ix (se_var (i := 5) rfl (by first | exact .inl rfl | exact .inr (.inl rfl) | exact .inr (.inr rfl))) (se_var (i := 7) rfl (by first | exact .inl rfl | exact .inr (.inl rfl) | exact .inr (.inr rfl)))) (sp_some (se_op (r_add false) (se_var (i := 9) rfl (by first | exact .inl rfl | exact .inr (.inl rfl) | exact .inr (.inr rfl))) se_int)) sp_none)))
  (sss_one (ss_ret (se_tup (sa_cons (se_var (i := 2) rfl (by first | exact .inl rfl | exact .inr (.inl rfl) | exact .inr (.inr rfl))) (sa_cons (se_var (i := 3) rfl (by first | exact .inl rfl | exact .inr (.inl rfl) | exact .inr (.inr rfl))) (sa_cons (se_var (i := 4) rfl (by first | exact .inl rfl | exact .inr (.inl rfl) | exact .inr (.inr rfl))) (sa_cons (se_op (r_add false) (se_op (r_add false) (se_slice false (se_var (i := 5) rfl (by first | exact .inl rfl | exact .inr (.inl rfl) | exact .inr (.inr rfl))) sp_none (sp_some (se_var (i := 7) rfl (by first | exact .inl rfl | exact .inr (.inl rfl) | exact .inr (.inr rfl))))) (se_tup (sa_cons (se_var (i := 10) rfl (by first | exact .inl rfl | exact .inr (.inl rfl) | exact .inr (.inr rfl))) sa_nil))) (se_slice false (se_var (i := 5) rfl (by first | exact .inl rfl | exact .inr (.inl rfl) | exact .inr (.inr rfl))) (sp_some (se_op (r_add false) (se_var (i := 7) rfl (by first | exact .inl rfl | exact .inr (.inl rfl) | exact .inr (.inr rfl))) se_int)) sp_none)) sa_nil)))))))) sss_nil)
  (sss_cons (ss_if (st_cmp (r_eqD hu) (se_var (i := 6) rfl (by first | exact .inl rfl | exact .inr (.inl rfl) | exact .inr (.inr rfl))) se_int rfl) (sss_one (ss_ret (se_tup (sa_cons (se_var (i := 2) rfl (by first | exact .inl rfl | exact .inr (.inl rfl) | exact .inr (.inr rfl))) (sa_cons (se_call (F__law_pick M) (hr.mono (by decide)) gd rfl M.g__law_pick M.d__law_pick.kp (bd__law_pick M) passN (sa_cons (se_var (i := 0) rfl (by first | exact .inl rfl | exact .inr (.inl rfl) | exact .inr (.inr rfl))) (sa_cons (se_lst false (sa_cons (se_op (r_add false) (se_var (i := 3) rfl (by first | exact .inl rfl | exact .inr (.inl rfl) | exact .inr (.inr rfl))) (se_tup (sa_cons se_str sa_nil))) (sa_cons (se_slice false (se_var (i := 3) rfl (by first | exact .inl rfl | exact .inr (.inl rfl) | exact .inr (.inr rfl))) (sp_some se_int) sp_none) (sa_cons (se_op (r_add false) (se_var (i := 3) rfl (by first | exact .inl rfl | exact .inr (.inl rfl) | exact .inr (.inr rfl))) (se_slice false (se_var (i := 3) rfl (by first | exact .inl rfl | exact .inr (.inl rfl) | exact .inr (.inr rfl))) sp_none (sp_some se_int))) (sa_cons (se_tup (sa_cons se_str sa_nil)) (sa_cons (se_tup (sa_cons se_str sa_nil)) (sa_cons (se_tup (sa_cons se_str (sa_cons se_str (sa_cons se_str sa_nil)))) (sa_cons (se_callTy (c_list false) rfl M.b_list (by decide +kernel) (sa_cons (se_var (i := 3) rfl (by first | exact .inl rfl | exact .inr (.inl rfl) | exact .inr (.inr rfl))) sa_nil)) sa_nil)))))))) sa_nil))) (sa_cons (se_var (i := 4) rfl (by first | exact .inl rfl | exact .inr (.inl rfl) | exact .inr (.inr rfl))) (sa_cons (se_var (i := 5) rfl (by first | exact .inl rfl | exact .inr (.inl rfl) | exact .inr (.inr rfl))) sa_nil))))))) sss_nil)
  (sss_cons (ss_if (st_cmp (r_eqD hu) (se_var (i := 6) rfl (by first | exact .inl rfl | exact .inr (.inl rfl) | exact .inr (.inr rfl))) se_int rfl) (sss_one (ss_ret (se_if (st_cmp r_lt (se_var (i := 4) rfl (by first | exact .inl rfl | exact .inr (.inl rfl) | exact .inr (.inr rfl))) se_int rfl) (se_tup (sa_cons (se_var (i := 2) rfl (by first | exact .inl rfl | exact .inr (.inl rfl) | exact .inr (.inr rfl))) (sa_cons (se_var (i := 3) rfl (by first | exact .inl rfl | exact .inr (.inl rfl) | exact .inr (.inr rfl))) (sa_cons (se_op (r_add false) (se_var (i := 4) rfl (by first | exact .inl rfl | exact .inr (.inl rfl) | exact .inr (.inr rfl))) se_int) (sa_cons (se_callTy c_tuple rfl M.b_tuple (by decide +kernel) (sa_cons (se_lc (own := [("_law_state", 10)]) false rfl sc__law_otherwise.nd (si_any (se_var (i := 5) rfl (by first | exact .inl rfl | exact .inr (.inl rfl) | exact .inr (.inr rfl)))) (blkOk_by (N := ["_law_deck_here", "_law_machine", "_law_kind", "_law_tags_here", "_law_signs", "_law_states", "_law_way", "_law_at", "_law_rule", "_law_spot", "_law_state"]) (sc := defScope (top 27)) (by decide +kernel)) (fun _ _ _ _ _ => (sg_name sc__law_otherwise.nd rfl (by first | exact .inl rfl | exact .inr rfl) (by first | exact .inl rfl | exact .inr rfl))) (fun _ _ _ _ _ => sts_nil) (fun _ _ _ _ _ => (se_op (r_add false) (se_var (i := 10) rfl (by first | exact .inl rfl | exact .inr (.inl rfl) | exact .inr (.inr rfl))) (se_tup (sa_cons (se_tup (sa_cons se_int (sa_cons se_int (sa_cons se_int sa_nil)))) sa_nil))))) sa_nil)) sa_nil))))) (se_back false (se_var (i := 1) rfl (by first | exact .inl rfl | exact .inr (.inl rfl) | exact .inr (.inr rfl))))))) sss_nil)
  (sss_cons (ss_if (st_cmp (r_eqD hu) (se_var (i := 6) rfl (by first | exact .inl rfl | exact .inr (.inl rfl) | exact .inr (.inr rfl))) se_int rfl) (sss_one (ss_ret (se_tup (sa_cons (se_var (i := 2) rfl (by first | exact .inl rfl | exact .inr (.inl rfl) | exact .inr (.inr rfl))) (sa_cons (se_var (i := 3) rfl (by first | exact .inl rfl | exact .inr (.inl rfl) | exact .inr (.inr rfl))) (sa_cons (se_var (i := 4) rfl (by first | exact .inl rfl | exact .inr (.inl rfl) | exact .inr (.inr rfl))) (sa_cons (se_call (F__law_pick M) (hr.mono (by decide)) gd rfl M.g__law_pick M.d__law_pick.kp (bd__law_pick M) passN (sa_cons (se_var (i := 0) rfl (by first | exact .inl rfl | exact .inr (.inl rfl) | exact .inr (.inr rfl))) (sa_cons (se_lst false (sa_cons (se_slice false (se_var (i := 5) rfl (by first | exact .inl rfl | exact .inr (.inl rfl) | exact .inr (.inr rfl))) (sp_some se_int) sp_none) (sa_cons (se_op (r_add false) (se_var (i := 5) rfl (by first | exact .inl rfl | exact .inr (.inl rfl) | exact .inr (.inr rfl))) (se_slice false (se_var (i := 5) rfl (by first | exact .inl rfl | exact .inr (.inl rfl) | exact .inr (.inr rfl))) sp_none (sp_some se_int))) (sa_cons (se_tup sa_nil) (sa_cons (se_op (r_add false) (se_op (r_add false) (se_slice false (se_var (i := 5) rfl (by first | exact .inl rfl | exact .inr (.inl rfl) | exact .inr (.inr rfl))) sp_none (sp_some (se_var (i := 7) rfl (by first | exact .inl rfl | exact .inr (.inl rfl) | exact .inr (.inr rfl))))) (se_tup (sa_cons (se_slice false (se_ix (se_var (i := 5) rfl (by first | exact .inl rfl | exact .inr (.inl rfl) | exact .inr (.inr rfl))) (se_var (i := 7) rfl (by first | exact .inl rfl | exact .inr (.inl rfl) | exact .inr (.inr rfl)))) (sp_some se_int) sp_none) sa_nil))) (se_slice false (se_var (i := 5) rfl (by first | exact .inl rfl | exact .inr (.inl rfl) | exact .inr (.inr rfl))) (sp_some (se_op (r_add false) (se_var (i := 7) rfl (by first | exact .inl rfl | exact .inr (.inl rfl) | exact .inr (.inr rfl))) se_int)) sp_none)) sa_nil))))) sa_nil))) sa_nil))))))) sss_nil)
  (sss_one (ss_ret (se_call (F__law_bent M) (hr.mono (by decide)) gd rfl M.g__law_bent M.d__law_bent.kp (bd__law_bent M) passN (sa_cons (se_var (i := 0) rfl (by first | exact .inl rfl | exact .inr (.inl rfl) | exact .inr (.inr rfl))) (sa_cons (se_var (i := 1) rfl (by first | exact .inl rfl | exact .inr (.inl rfl) | exact .inr (.inr rfl))) (sa_cons (se_call (F__law_draw M) (hr.mono (by decide)) gd rfl M.g__law_draw M.d__law_draw.kp (bd__law_draw M) passN (sa_cons (se_var (i := 0) rfl (by first | exact .inl rfl | exact .inr (.inl rfl) | exact .inr (.inr rfl))) (sa_cons se_int sa_nil))) sa_nil)))))))))))))))
theorem bd__law_otherwise (M : Mx K mg) : Binds K (fdOf K "_law_otherwise") ["_law_deck_here", "_law_machine"] [] := M.d__law_otherwise.bindsN fun _ _ _ _ _ _ us hl => match us, hl with | [_, _], _ => rfl
theorem sc_is_tuple : FnScope ["thing", "many"] ["thing", "many"] (defScope (top 5)) := ⟨rfl, rfl, rfl, by decide +kernel, rfl, by decide +kernel, by decide +kernel⟩
theorem F_is_tuple (M : Mx K mg) : FnZ P w K mg base CXN 1 (He.ga K "is_tuple") (fdOf K "is_tuple") ["thing", "many"] f_is_tuple := by
  refine fnz_of (ps := ["thing", "many"]) (m := b_is_tuple) M.d_is_tuple sc_is_tuple fun cdv A outer sh H E hr gd => ?_
  have hu := hr.units
  have hu1 := Nat.lt_of_le_of_lt (Nat.add_le_add_left (show 1 ≤ 64 by decide) _) hr.units
  exact PSs.nox ((sss_one (ss_ret (se_and (se_isi .tuple rfl M.b_isinstance rfl M.b_tuple (by decide +kernel) (se_var (i := 0) rfl (by first | exact .inl rfl | exact .inr (.inl rfl) | exact .inr (.inr rfl)))) (se_one (se_cmp (r_eqD hu) (se_callB c_len rfl M.b_len (by decide +kernel) (sa_cons (se_var (i := 0) rfl (by first | exact .inl rfl | exact .inr (.inl rfl) | exact .inr (.inr rfl))) sa_nil)) (se_var (i := 1) rfl (by first | exact .inl rfl | exact .inr (.inl rfl) | exact .inr (.inr rfl))) rfl))))))
theorem bd_is_tuple (M : Mx K mg) : Binds K (fdOf K "is_tuple") ["thing", "many"] [] := M.d_is_tuple.bindsN fun _ _ _ _ _ _ us hl => match us, hl with | [_, _], _ => rfl
theorem sc_is_tag_value : FnScope ["thing", "sign"] ["thing"] (defScope (top 6)) := ⟨rfl, rfl, rfl, by decide +kernel, rfl, by decide +kernel, by decide +kernel⟩
theorem F_is_tag_value (M : Mx K mg) : FnZ P w K mg base CXN 1 (He.ga K "is_tag_value") (fdOf K "is_tag_value") ["thing"] f_is_tag_value := by
  refine fnz_of (ps := ["thing"]) (m := b_is_tag_value) M.d_is_tag_value sc_is_tag_value fun cdv A outer sh H E hr gd => ?_
  have hu := hr.units
  have hu1 := Nat.lt_of_le_of_lt (Nat.add_le_add_left (show 1 ≤ 64 by decide) _) hr.units
  exact PSs.nox ((sss_cons (ss_if (st_w (sw_or (st_not (st_val (se_isi .str rfl M.b_isinstance rfl M.b_str (by decide +kernel) (se_var (i := 0) rfl (by first | exact .inl rfl | exact .inr (.inl rfl) | exact .inr (.inr rfl)))))) (sw_or1 (st_not (st_chain r_le r_le se_int (se_callB c_len rfl M.b_len (by decide +kernel) (sa_cons (se_var (i := 0) rfl (by first | exact .inl rfl | exact .inr (.inl rfl) | exact .inr (.inr rfl))) sa_nil)) (se_con rfl M.c_LONGEST_TAG)))))) (sss_one (ss_ret se_bl)) sss_nil)
  (sss_one (ss_ret (se_callB (c_all rfl) rfl M.b_all (by decide +kernel) (sa_cons (se_lc (own := [("sign", 1)]) false rfl sc_is_tag_value.nd (si_any (se_var (i := 0) rfl (by first | exact .inl rfl | exact .inr (.inl rfl) | exact .inr (.inr rfl)))) (blkOk_by (N := ["thing", "sign"]) (sc := defScope (top 6)) (by decide +kernel)) (fun _ _ _ _ _ => (sg_name sc_is_tag_value.nd rfl (by first | exact .inl rfl | exact .inr rfl) (by first | exact .inl rfl | exact .inr rfl))) (fun _ _ _ _ _ => sts_nil) (fun _ _ _ _ _ => (se_cmp r_in (se_var (i := 1) rfl (by first | exact .inl rfl | exact .inr (.inl rfl) | exact .inr (.inr rfl))) (se_con rfl M.c_SMALL) rfl))) sa_nil))))))
theorem bd_is_tag_value (M : Mx K mg) : Binds K (fdOf K "is_tag_value") ["thing"] [] := M.d_is_tag_value.bindsN fun _ _ _ _ _ _ us hl => match us, hl with | [_], _ => rfl
theorem sc_are_unlike_tags : FnScope ["thing", "tag"] ["thing"] (defScope (top 11)) := ⟨rfl, rfl, rfl, by decide +kernel, rfl, by decide +kernel, by decide +kernel⟩
theorem F_are_unlike_tags (M : Mx K mg) : FnZ P w K mg base CXN 2 (He.ga K "are_unlike_tags") (fdOf K "are_unlike_tags") ["thing"] f_are_unlike_tags := by
  refine fnz_of (ps := ["thing"]) (m := b_are_unlike_tags) M.d_are_unlike_tags sc_are_unlike_tags fun cdv A outer sh H E hr gd => ?_
  have hu := hr.units
  have hu1 := Nat.lt_of_le_of_lt (Nat.add_le_add_left (show 1 ≤ 64 by decide) _) hr.units
  exact PSs.nox ((sss_one (ss_ret (se_and (se_isi .tuple rfl M.b_isinstance rfl M.b_tuple (by decide +kernel) (se_var (i := 0) rfl (by first | exact .inl rfl | exact .inr (.inl rfl) | exact .inr (.inr rfl)))) (se_and (se_callB (c_all rfl) rfl M.b_all (by decide +kernel) (sa_cons (se_lc (own := [("tag", 1)]) false rfl sc_are_unlike_tags.nd (si_any (se_var (i := 0) rfl (by first | exact .inl rfl | exact .inr (.inl rfl) | exact .inr (.inr rfl)))) (blkOk_by (N := ["thing", "tag"]) (sc := defScope (top 11)) (by decide +kernel)) (fun _ _ _ _ _ => (sg_name sc_are_unlike_tags.nd rfl (by first | exact .inl rfl | exact .inr rfl) (by first | exact .inl rfl | exact .inr rfl))) (fun _ _ _ _ _ => sts_nil) (fun _ _ _ _ _ => (se_call (F_is_tag_value M) (hr.mono (by decide)) gd rfl M.g_is_tag_value M.d_is_tag_value.kp (bd_is_tag_value M) passN (sa_cons (se_var (i := 1) rfl (by first | exact .inl rfl | exact .inr (.inl rfl) | exact .inr (.inr rfl))) sa_nil)))) sa_nil)) (se_one (se_cmp (r_eqD hu) (se_lenSet rfl rfl M.b_len rfl M.b_set (se_var (i := 0) rfl (by first | exact .inl rfl | exact .inr (.inl rfl) | exact .inr (.inr rfl)))) (se_callB c_len rfl M.b_len (by decide +kernel) (sa_cons (se_var (i := 0) rfl (by first | exact .inl rfl | exact .inr (.inl rfl) | exact .inr (.inr rfl))) sa_nil)) rfl)))))))
theorem bd_are_unlike_tags (M : Mx K mg) : Binds K (fdOf K "are_unlike_tags") ["thing"] [] := M.d_are_unlike_tags.bindsN fun _ _ _ _ _ _ us hl => match us, hl with | [_], _ => rfl
theorem sc_is_integer : FnScope ["thing"] ["thing"] (defScope (top 3)) := ⟨rfl, rfl, rfl, by decide +kernel, rfl, by decide +kernel, by decide +kernel⟩
theorem F_is_integer (M : Mx K mg) : FnZ P w K mg base CXN 1 (He.ga K "is_integer") (fdOf K "is_integer") ["thing"] f_is_integer := by
  refine fnz_of (ps := ["thing"]) (m := b_is_integer) M.d_is_integer sc_is_integer fun cdv A outer sh H E hr gd => ?_
  have hu := hr.units
  have hu1 := Nat.lt_of_le_of_lt (Nat.add_le_add_left (show 1 ≤ 64 by decide) _) hr.units
  exact PSs.nox ((sss_one (ss_ret (se_and (se_isi .int rfl M.b_isinstance rfl M.b_int (by decide +kernel) (se_var (i := 0) rfl (by first | exact .inl rfl | exact .inr (.inl rfl) | exact .inr (.inr rfl)))) (se_one (se_not (se_isi .bool rfl M.b_isinstance rfl M.b_bool (by decide +kernel) (se_var (i := 0) rfl (by first | exact .inl rfl | exact .inr (.inl rfl) | exact .inr (.inr rfl))))))))))
theorem bd_is_integer (M : Mx K mg) : Binds K (fdOf K "is_integer") ["thing"] [] := M.d_is_integer.bindsN fun _ _ _ _ _ _ us hl => match us, hl with | [_], _ => rfl
theorem sc_is_from : FnScope ["thing", "least"] ["thing", "least"] (defScope (top 4)) := ⟨rfl, rfl, rfl, by decide +kernel, rfl, by decide +kernel, by decide +kernel⟩
theorem F_is_from (M : Mx K mg) : FnZ P w K mg base CXN 2 (He.ga K "is_from") (fdOf K "is_from") ["thing", "least"] f_is_from := by
  refine fnz_of (ps := ["thing", "least"]) (m := b_is_from) M.d_is_from sc_is_from fun cdv A outer sh H E hr gd => ?_
  have hu := hr.units
  have hu1 := Nat.lt_of_le_of_lt (Nat.add_le_add_left (show 1 ≤ 64 by decide) _) hr.units
  exact PSs.nox ((sss_one (ss_ret (se_and (se_call (F_is_integer M) (hr.mono (by decide)) gd rfl M.g_is_integer M.d_is_integer.kp (bd_is_integer M) passN (sa_cons (se_var (i := 0) rfl (by first | exact .inl rfl | exact .inr (.inl rfl) | exact .inr (.inr rfl))) sa_nil)) (se_one (se_cmp r_ge (se_var (i := 0) rfl (by first | exact .inl rfl | exact .inr (.inl rfl) | exact .inr (.inr rfl))) (se_var (i := 1) rfl (by first | exact .inl rfl | exact .inr (.inl rfl) | exact .inr (.inr rfl))) rfl))))))
theorem bd_is_from (M : Mx K mg) : Binds K (fdOf K "is_from") ["thing", "least"] [] := M.d_is_from.bindsN fun _ _ _ _ _ _ us hl => match us, hl with | [_, _], _ => rfl
theorem sc_is_rule : FnScope ["thing", "signs", "states", "part"] ["thing", "signs", "states"] (defScope (top 9)) := ⟨rfl, rfl, rfl, by decide +kernel, rfl, by decide +kernel, by decide +kernel⟩
theorem F_is_rule (M : Mx K mg) : FnZ P w K mg base CXN 2 (He.ga K "is_rule") (fdOf K "is_rule") ["thing", "signs", "states"] f_is_rule := by
  refine fnz_of (ps := ["thing", "signs", "states"]) (m := b_is_rule) M.d_is_rule sc_is_rule fun cdv A outer sh H E hr gd => ?_
  have hu := hr.units
  have hu1 := Nat.lt_of_le_of_lt (Nat.add_le_add_left (show 1 ≤ 64 by decide) _) hr.units
  exact PSs.nox ((sss_cons (ss_if (st_w (sw_or (st_not (st_val (se_call (F_is_tuple M) (hr.mono (by decide)) gd rfl M.g_is_tuple M.d_is_tuple.kp (bd_is_tuple M) passN (sa_cons (se_var (i := 0) rfl (by first | exact .inl rfl | exact .inr (.inl rfl) | exact .inr (.inr rfl))) (sa_cons se_int sa_nil))))) (sw_or1 (st_not (st_val (se_callB (c_all rfl) rfl M.b_all (by decide +kernel) (sa_cons (se_lc (own := [("part", 3)]) false rfl sc_is_rule.nd (si_any (se_var (i := 0) rfl (by first | exact .inl rfl | exact .inr (.inl rfl) | exact .inr (.inr rfl)))) (blkOk_by (N := ["thing", "signs", "states", "part"]) (sc := defScope (top 9)) (by decide +kernel)) (fun _ _ _ _ _ => (sg_name sc_is_rule.nd rfl (by first | exact .inl rfl | exact .inr rfl) (by first | exact .inl rfl | exact .inr rfl))) (fun _ _ _ _ _ => sts_nil) (fun _ _ _ _ _ => (se_call (F_is_integer M) (hr.mono (by decide)) gd rfl M.g_is_integer M.d_is_integer.kp (bd_is_integer M) passN (sa_cons (se_var (i := 3) rfl (by first | exact .inl rfl | exact .inr (.inl rfl) | exact .inr (.inr rfl))) sa_nil)))) sa_nil))))))) (sss_one (ss_ret se_bl)) sss_nil)
  (sss_one (ss_ret (se_and (se_chain r_le r_le se_int (se_ix (se_var (i := 0) rfl (by first | exact .inl rfl | exact .inr (.inl rfl) | exact .inr (.inr rfl))) se_int) (se_op (r_add false) (se_var (i := 2) rfl (by first | exact .inl rfl | exact .inr (.inl rfl) | exact .inr (.inr rfl))) se_int)) (se_and (se_chain r_le r_lt se_int (se_ix (se_var (i := 0) rfl (by first | exact .inl rfl | exact .inr (.inl rfl) | exact .inr (.inr rfl))) se_int) (se_var (i := 1) rfl (by first | exact .inl rfl | exact .inr (.inl rfl) | exact .inr (.inr rfl)))) (se_one (se_cmp r_in (se_ix (se_var (i := 0) rfl (by first | exact .inl rfl | exact .inr (.inl rfl) | exact .inr (.inr rfl))) se_int) (se_con rfl M.c_MOVES) rfl))))))))
theorem bd_is_rule (M : Mx K mg) : Binds K (fdOf K "is_rule") ["thing", "signs", "states"] [] := M.d_is_rule.bindsN fun _ _ _ _ _ _ us hl => match us, hl with | [_, _, _], _ => rfl
theorem sc_is_state : FnScope ["thing", "signs", "states", "rule"] ["thing", "signs", "states"] (defScope (top 10)) := ⟨rfl, rfl, rfl, by decide +kernel, rfl, by decide +kernel, by decide +kernel⟩
theorem F_is_state (M : Mx K mg) : FnZ P w K mg base CXN 3 (He.ga K "is_state") (fdOf K "is_state") ["thing", "signs", "states"] f_is_state := by
  refine fnz_of (ps := ["thing", "signs", "states"]) (m := b_is_state) M.d_is_state sc_is_state fun cdv A outer sh H E hr gd => ?_
  have hu := hr.units
  have hu1 := Nat.lt_of_le_of_lt (Nat.add_le_add_left (show 1 ≤ 64 by decide) _) hr.units
  exact PSs.nox ((sss_one (ss_ret (se_and (se_call (F_is_tuple M) (hr.mono (by decide)) gd rfl M.g_is_tuple M.d_is_tuple.kp (bd_is_tuple M) passN (sa_cons (se_var (i := 0) rfl (by first | exact .inl rfl | exact .inr (.inl rfl) | exact .inr (.inr rfl))) (sa_cons (se_var (i := 1) rfl (by first | exact .inl rfl | exact .inr (.inl rfl) | exact .inr (.inr rfl))) sa_nil))) (se_one (se_callB (c_all rfl) rfl M.b_all (by decide +kernel) (sa_cons (se_lc (own := [("rule", 3)]) false rfl sc_is_state.nd (si_any (se_var (i := 0) rfl (by first | exact .inl rfl | exact .inr (.inl rfl) | exact .inr (.inr rfl)))) (blkOk_by (N := ["thing", "signs", "states", "rule"]) (sc := defScope (top 10)) (by decide +kernel)) (fun _ _ _ _ _ => (sg_name sc_is_state.nd rfl (by first | exact .inl rfl | exact .inr rfl) (by first | exact .inl rfl | exact .inr rfl))) (fun _ _ _ _ _ => sts_nil) (fun _ _ _ _ _ => (se_call (F_is_rule M) (hr.mono (by decide)) gd rfl M.g_is_rule M.d_is_rule.kp (bd_is_rule M) passN (sa_cons (se_var (i := 3) rfl (by first | exact .inl rfl | exact .inr (.inl rfl) | exact .inr (.inr rfl))) (sa_cons (se_var (i := 1) rfl (by first | exact .inl rfl | exact .inr (.inl rfl) | exact .inr (.inr rfl))) (sa_cons (se_var (i := 2) rfl (by first | exact .inl rfl | exact .inr (.inl rfl) | exact .inr (.inr rfl))) sa_nil)))))) sa_nil)))))))
theorem bd_is_state (M : Mx K mg) : Binds K (fdOf K "is_state") ["thing", "signs", "states"] [] := M.d_is_state.bindsN fun _ _ _ _ _ _ us hl => match us, hl with | [_, _, _], _ => rfl
theorem sc_is_tape_value : FnScope ["thing", "signs", "states", "state"] ["thing"] (defScope (top 12)) := ⟨rfl, rfl, rfl, by decide +kernel, rfl, by decide +kernel, by decide +kernel⟩
theorem F_is_tape_value (M : Mx K mg) : FnZ P w K mg base CXN 4 (He.ga K "is_tape_value") (fdOf K "is_tape_value") ["thing"] f_is_tape_value := by
  refine fnz_of (ps := ["thing"]) (m := b_is_tape_value) M.d_is_tape_value sc_is_tape_value fun cdv A outer sh H E hr gd => ?_
  have hu := hr.units
  have hu1 := Nat.lt_of_le_of_lt (Nat.add_le_add_left (show 1 ≤ 64 by decide) _) hr.units
  exact PSs.nox ((sss_cons (ss_if (st_w (sw_or (st_not (st_val (se_call (F_is_tuple M) (hr.mono (by decide)) gd rfl M.g_is_tuple M.d_is_tuple.kp (bd_is_tuple M) passN (sa_cons (se_var (i := 0) rfl (by first | exact .inl rfl | exact .inr (.inl rfl) | exact .inr (.inr rfl))) (sa_cons se_int sa_nil))))) (sw_or (st_cmp (r_neD hu) (se_ix (se_var (i := 0) rfl (by first | exact .inl rfl | exact .inr (.inl rfl) | exact .inr (.inr rfl))) se_int) se_str rfl) (sw_or1 (st_not (st_val (se_call (F_are_unlike_tags M) (hr.mono (by decide)) gd rfl M.g_are_unlike_tags M.d_are_unlike_tags.kp (bd_are_unlike_tags M) passN (sa_cons (se_ix (se_var (i := 0) rfl (by first | exact .inl rfl | exact .inr (.inl rfl) | exact .inr (.inr rfl))) se_int) sa_nil)))))))) (sss_one (ss_ret se_bl)) sss_nil)
  (sss_cons (ss_asg (se_tup (sa_cons (se_ix (se_var (i := 0) rfl (by first | exact .inl rfl | exact .inr (.inl rfl) | exact .inr (.inr rfl))) se_int) (sa_cons (se_ix (se_var (i := 0) rfl (by first | exact .inl rfl | exact .inr (.inl rfl) | exact .inr (.inr rfl))) se_int) sa_nil))) (sg_tup rfl (sgs_cons (sg_name sc_is_tape_value.nd rfl (by first | exact .inl rfl | exact .inr rfl) (by first | exact .inl rfl | exact .inr rfl)) (sgs_cons (sg_name sc_is_tape_value.nd rfl (by first | exact .inl rfl | exact .inr rfl) (by first | exact .inl rfl | exact .inr rfl)) sgs_nil)) (ar_cons (ar_cons ar_nil))))
  (sss_cons (ss_if (st_w (sw_or (st_not (st_val (se_call (F_is_from M) (hr.mono (by decide)) gd rfl M.g_is_from M.d_is_from.kp (bd_is_from M) passN (sa_cons (se_var (i := 1) rfl (by first | exact .inl rfl | exact .inr (.inl rfl) | exact .inr (.inr rfl))) (sa_cons (se_op (r_add false) (se_callB c_len rfl M.b_len (by decide +kernel) (sa_cons (se_ix (se_var (i := 0) rfl (by first | exact .inl rfl | exact .inr (.inl rfl) | exact .inr (.inr rfl))) se_int) sa_nil)) se_int) sa_nil))))) (sw_or (st_not (st_val (se_isi .tuple rfl M.b_isinstance rfl M.b_tuple (by decide +kernel) (se_var (i := 2) rfl (by first | exact .inl rfl | exact .inr (.inl rfl) | exact .inr (.inr rfl)))))) (sw_or1 (st_cmp (r_eqD hu) (se_var (i := 2) rfl (by first | exact .inl rfl | exact .inr (.inl rfl) | exact .inr (.inr rfl))) (se_tup sa_nil) rfl))))) (sss_one (ss_ret se_bl)) sss_nil)
  (sss_one (ss_ret (se_callB (c_all rfl) rfl M.b_all (by decide +kernel) (sa_cons (se_lc (own := [("state", 3)]) false rfl sc_is_tape_value.nd (si_any (se_var (i := 2) rfl (by first | exact .inl rfl | exact .inr (.inl rfl) | exact .inr (.inr rfl)))) (blkOk_by (N := ["thing", "signs", "states", "state"]) (sc := defScope (top 12)) (by decide +kernel)) (fun _ _ _ _ _ => (sg_name sc_is_tape_value.nd rfl (by first | exact .inl rfl | exact .inr rfl) (by first | exact .inl rfl | exact .inr rfl))) (fun _ _ _ _ _ => sts_nil) (fun _ _ _ _ _ => (se_call (F_is_state M) (hr.mono (by decide)) gd rfl M.g_is_state M.d_is_state.kp (bd_is_state M) passN (sa_cons (se_var (i := 3) rfl (by first | exact .inl rfl | exact .inr (.inl rfl) | exact .inr (.inr rfl))) (sa_cons (se_var (i := 1) rfl (by first | exact .inl rfl | exact .inr (.inl rfl) | exact .inr (.inr rfl))) (sa_cons (se_callB c_len rfl M.b_len (by decide +kernel) (sa_cons (se_var (i := 2) rfl (by first | exact .inl rfl | exact .inr (.inl rfl) | exact .inr (.inr rfl))) sa_nil)) sa_nil)))))) sa_nil))))))))
theorem bd_is_tape_value (M : Mx K mg) : Binds K (fdOf K "is_tape_value") ["thing"] [] := M.d_is_tape_value.bindsN fun _ _ _ _ _ _ us hl => match us, hl with | [_], _ => rfl
theorem sc_is_tape : FnScope ["thing"] ["thing"] (defScope (top 14)) := ⟨rfl, rfl, rfl, by decide +kernel, rfl, by decide +kernel, by decide +kernel⟩
theorem F_is_tape (M : Mx K mg) : FnZ P w K mg base CXN 5 (He.ga K "is_tape") (fdOf K "is_tape") ["thing"] f_is_tape := by
  refine fnz_of (ps := ["thing"]) (m := b_is_tape) M.d_is_tape sc_is_tape fun cdv A outer sh H E hr gd => ?_
  have hu := hr.units
  have hu1 := Nat.lt_of_le_of_lt (Nat.add_le_add_left (show 1 ≤ 64 by decide) _) hr.units
  exact PSs.nox ((sss_one (ss_ret (se_call (F_is_tape_value M) (hr.mono (by decide)) gd rfl M.g_is_tape_value M.d_is_tape_value.kp (bd_is_tape_value M) passN (sa_cons (se_var (i := 0) rfl (by first | exact .inl rfl | exact .inr (.inl rfl) | exact .inr (.inr rfl))) sa_nil)))))
theorem bd_is_tape (M : Mx K mg) : Binds K (fdOf K "is_tape") ["thing"] [] := M.d_is_tape.bindsN fun _ _ _ _ _ _ us hl => match us, hl with | [_], _ => rfl
theorem sc__law_is_tuple : FnScope ["_law_thing", "_law_many"] ["_law_thing", "_law_many"] (defScope (top 20)) := ⟨rfl, rfl, rfl, by decide +kernel, rfl, by decide +kernel, by decide +kernel⟩
theorem F__law_is_tuple (M : Mx K mg) : FnZ P w K mg base CXN 1 (He.ga K "_law_is_tuple") (fdOf K "_law_is_tuple") ["_law_thing", "_law_many"] f__law_is_tuple := by
  refine fnz_of (ps := ["_law_thing", "_law_many"]) (m := b__law_is_tuple) M.d__law_is_tuple sc__law_is_tuple fun cdv A outer sh H E hr gd => ?_
  have hu := hr.units
  have hu1 := Nat.lt_of_le_of_lt (Nat.add_le_add_left (show 1 ≤ 64 by decide) _) hr.units
  exact PSs.nox ((sss_one (ss_ret (se_and (se_isi .tuple rfl M.b_isinstance rfl M.b_tuple (by decide +kernel) (se_var (i := 0) rfl (by first | exact .inl rfl | exact .inr (.inl rfl) | exact .inr (.inr rfl)))) (se_one (se_cmp (r_eqD hu) (se_callB c_len rfl M.b_len (by decide +kernel) (sa_cons (se_var (i := 0) rfl (by first | exact .inl rfl | exact .inr (.inl rfl) | exact .inr (.inr rfl))) sa_nil)) (se_var (i := 1) rfl (by first | exact .inl rfl | exact .inr (.inl rfl) | exact .inr (.inr rfl))) rfl))))))
theorem bd__law_is_tuple (M : Mx K mg) : Binds K (fdOf K "_law_is_tuple") ["_law_thing", "_law_many"] [] := M.d__law_is_tuple.bindsN fun _ _ _ _ _ _ us hl => match us, hl with | [_, _], _ => rfl
theorem sc__law_is_int : FnScope ["_law_thing", "_law_low", "_law_high"] ["_law_thing", "_law_low", "_law_high"] (defScope (top 19)) := ⟨rfl, rfl, rfl, by decide +kernel, rfl, by decide +kernel, by decide +kernel⟩
theorem F__law_is_int (M : Mx K mg) : FnZ P w K mg base CXN 1 (He.ga K "_law_is_int") (fdOf K "_law_is_int") ["_law_thing", "_law_low", "_law_high"] f__law_is_int := by
  refine fnz_of (ps := ["_law_thing", "_law_low", "_law_high"]) (m := b__law_is_int) M.d__law_is_int sc__law_is_int fun cdv A outer sh H E hr gd => ?_
  have hu := hr.units
  have hu1 := Nat.lt_of_le_of_lt (Nat.add_le_add_left (show 1 ≤ 64 by decide) _) hr.units
  exact PSs.nox ((sss_one (ss_ret (se_and (se_isi .int rfl M.b_isinstance rfl M.b_int (by decide +kernel) (se_var (i := 0) rfl (by first | exact .inl rfl | exact .inr (.inl rfl) | exact .inr (.inr rfl)))) (se_and (se_not (se_isi .bool rfl M.b_isinstance rfl M.b_bool (by decide +kernel) (se_var (i := 0) rfl (by first | exact .inl rfl | exact .inr (.inl rfl) | exact .inr (.inr rfl))))) (se_one (se_chain r_le r_le (se_var (i := 1) rfl (by first | exact .inl rfl | exact .inr (.inl rfl) | exact .inr (.inr rfl))) (se_var (i := 0) rfl (by first | exact .inl rfl | exact .inr (.inl rfl) | exact .inr (.inr rfl))) (se_var (i := 2) rfl (by first | exact .inl rfl | exact .inr (.inl rfl) | exact .inr (.inr rfl))))))))))
theorem bd__law_is_int (M : Mx K mg) : Binds K (fdOf K "_law_is_int") ["_law_thing", "_law_low", "_law_high"] [] := M.d__law_is_int.bindsN fun _ _ _ _ _ _ us hl => match us, hl with | [_, _, _], _ => rfl
theorem sc__law_is_tag : FnScope ["_law_thing", "_law_sign"] ["_law_thing"] (defScope (top 21)) := ⟨rfl, rfl, rfl, by decide +kernel, rfl, by decide +kernel, by decide +kernel⟩
theorem F__law_is_tag (M : Mx K mg) : FnZ P w K mg base CXN 1 (He.ga K "_law_is_tag") (fdOf K "_law_is_tag") ["_law_thing"] f__law_is_tag := by
  refine fnz_of (ps := ["_law_thing"]) (m := b__law_is_tag) M.d__law_is_tag sc__law_is_tag fun cdv A outer sh H E hr gd => ?_
  have hu := hr.units
  have hu1 := Nat.lt_of_le_of_lt (Nat.add_le_add_left (show 1 ≤ 64 by decide) _) hr.units
  exact PSs.nox ((sss_cons (ss_if (st_w (sw_or (st_not (st_val (se_isi .str rfl M.b_isinstance rfl M.b_str (by decide +kernel) (se_var (i := 0) rfl (by first | exact .inl rfl | exact .inr (.inl rfl) | exact .inr (.inr rfl)))))) (sw_or1 (st_not (st_chain r_le r_le se_int (se_callB c_len rfl M.b_len (by decide +kernel) (sa_cons (se_var (i := 0) rfl (by first | exact .inl rfl | exact .inr (.inl rfl) | exact .inr (.inr rfl))) sa_nil)) se_int))))) (sss_one (ss_ret se_bl)) sss_nil)
  (sss_one (ss_ret (se_cmp (r_eqD hu) (se_lc (own := [("_law_sign", 1)]) false rfl sc__law_is_tag.nd (si_any (se_var (i := 0) rfl (by first | exact .inl rfl | exact .inr (.inl rfl) | exact .inr (.inr rfl)))) (blkOk_by (N := ["_law_thing", "_law_sign"]) (sc := defScope (top 21)) (by decide +kernel)) (fun _ _ _ _ _ => (sg_name sc__law_is_tag.nd rfl (by first | exact .inl rfl | exact .inr rfl) (by first | exact .inl rfl | exact .inr rfl))) (fun _ _ _ _ _ => (sts_one (st_cmp r_notin (se_var (i := 1) rfl (by first | exact .inl rfl | exact .inr (.inl rfl) | exact .inr (.inr rfl))) se_str rfl))) (fun _ _ _ _ _ => (se_var (i := 1) rfl (by first | exact .inl rfl | exact .inr (.inl rfl) | exact .inr (.inr rfl))))) (se_lst false sa_nil) rfl)))))
theorem bd__law_is_tag (M : Mx K mg) : Binds K (fdOf K "_law_is_tag") ["_law_thing"] [] := M.d__law_is_tag.bindsN fun _ _ _ _ _ _ us hl => match us, hl with | [_], _ => rfl
theorem sc__law_is_tape : FnScope ["_law_thing", "_law_kind", "_law_tags_here", "_law_signs", "_law_states", "_law_state", "_law_rule", "_law_tag"] ["_law_thing"] (defScope (top 23)) := ⟨rfl, rfl, rfl, by decide +kernel, rfl, by decide +kernel, by decide +kernel⟩
theorem F__law_is_tape (M : Mx K mg) : FnZ P w K mg base CXN 2 (He.ga K "_law_is_tape") (fdOf K "_law_is_tape") ["_law_thing"] f__law_is_tape := by
  refine fnz_of (ps := ["_law_thing"]) (m := b__law_is_tape) M.d__law_is_tape sc__law_is_tape fun cdv A outer sh H E hr gd => ?_
  have hu := hr.units
  have hu1 := Nat.lt_of_le_of_lt (Nat.add_le_add_left (show 1 ≤ 64 by decide) _) hr.units
  exact PSs.nox ((sss_cons (ss_if (st_w (sw_or (st_not (st_val (se_call (F__law_is_tuple M) (hr.mono (by decide)) gd rfl M.g__law_is_tuple M.d__law_is_tuple.kp (bd__law_is_tuple M) passN (sa_cons (se_var (i := 0) rfl (by first | exact .inl rfl | exact .inr (.inl rfl) | exact .inr (.inr rfl))) (sa_cons se_int sa_nil))))) (sw_or (st_not (st_val (se_isi .str rfl M.b_isinstance rfl M.b_str (by decide +kernel) (se_ix (se_var (i := 0) rfl (by first | exact .inl rfl | exact .inr (.inl rfl) | exact .inr (.inr rfl))) se_int)))) (sw_or (st_cmp (r_neD hu) (se_ix (se_var (i := 0) rfl (by first | exact .inl rfl | exact .inr (.inl rfl) | exact .inr (.inr rfl))) se_int) se_str rfl) (sw_or1 (st_not (st_val (se_isi .tuple rfl M.b_isinstance rfl M.b_tuple (by decide +kernel) (se_ix (se_var (i := 0) rfl (by first | exact .inl rfl | exact .inr (.inl rfl) | exact .inr (.inr rfl))) se_int))))))))) (sss_one (ss_ret se_bl)) sss_nil)
  (sss_cons (ss_asg (se_var (i := 0) rfl (by first | exact .inl rfl | exact .inr (.inl rfl) | exact .inr (.inr rfl))) (sg_tup rfl (sgs_cons (sg_name sc__law_is_tape.nd rfl (by first | exact .inl rfl | exact .inr rfl) (by first | exact .inl rfl | exact .inr rfl)) (sgs_cons (sg_name sc__law_is_tape.nd rfl (by first | exact .inl rfl | exact .inr rfl) (by first | exact .inl rfl | exact .inr rfl)) (sgs_cons (sg_name sc__law_is_tape.nd rfl (by first | exact .inl rfl | exact .inr rfl) (by first | exact .inl rfl | exact .inr rfl)) (sgs_cons (sg_name sc__law_is_tape.nd rfl (by first | exact .inl rfl | exact .inr rfl) (by first | exact .inl rfl | exact .inr rfl)) sgs_nil)))) (ar_cons (ar_cons (ar_cons (ar_cons ar_nil))))))
  (sss_cons (ss_if (st_w (sw_or (st_cmp (r_neD hu) (se_lc (own := [("_law_tag", 7)]) false rfl sc__law_is_tape.nd (si_any (se_var (i := 2) rfl (by first | exact .inl rfl | exact .inr (.inl rfl) | exact .inr (.inr rfl)))) (blkOk_by (N := ["_law_thing", "_law_kind", "_law_tags_here", "_law_signs", "_law_states", "_law_state", "_law_rule", "_law_tag"]) (sc := defScope (top 23)) (by decide +kernel)) (fun _ _ _ _ _ => (sg_name sc__law_is_tape.nd rfl (by first | exact .inl rfl | exact .inr rfl) (by first | exact .inl rfl | exact .inr rfl))) (fun _ _ _ _ _ => (sts_one (st_not (st_val (se_call (F__law_is_tag M) (hr.mono (by decide)) gd rfl M.g__law_is_tag M.d__law_is_tag.kp (bd__law_is_tag M) passN (sa_cons (se_var (i := 7) rfl (by first | exact .inl rfl | exact .inr (.inl rfl) | exact .inr (.inr rfl))) sa_nil)))))) (fun _ _ _ _ _ => (se_var (i := 7) rfl (by first | exact .inl rfl | exact .inr (.inl rfl) | exact .inr (.inr rfl))))) (se_lst false sa_nil) rfl) (sw_or1 (st_cmp (r_neD hu) (se_lenSet rfl rfl M.b_len rfl M.b_set (se_var (i := 2) rfl (by first | exact .inl rfl | exact .inr (.inl rfl) | exact .inr (.inr rfl)))) (se_callB c_len rfl M.b_len (by decide +kernel) (sa_cons (se_var (i := 2) rfl (by first | exact .inl rfl | exact .inr (.inl rfl) | exact .inr (.inr rfl))) sa_nil)) rfl)))) (sss_one (ss_ret se_bl)) sss_nil)
  (sss_cons (ss_if (st_w (sw_or (st_not (st_val (se_call (F__law_is_int M) (hr.mono (by decide)) gd rfl M.g__law_is_int M.d__law_is_int.kp (bd__law_is_int M) passN (sa_cons (se_var (i := 3) rfl (by first | exact .inl rfl | exact .inr (.inl rfl) | exact .inr (.inr rfl))) (sa_cons (se_op (r_add false) (se_callB c_len rfl M.b_len (by decide +kernel) (sa_cons (se_var (i := 2) rfl (by first | exact .inl rfl | exact .inr (.inl rfl) | exact .inr (.inr rfl))) sa_nil)) se_int) (sa_cons (se_op r_pow se_int se_int) sa_nil)))))) (sw_or (st_not (st_val (se_isi .tuple rfl M.b_isinstance rfl M.b_tuple (by decide +kernel) (se_var (i := 4) rfl (by first | exact .inl rfl | exact .inr (.inl rfl) | exact .inr (.inr rfl)))))) (sw_or1 (st_cmp (r_eqD hu) (se_var (i := 4) rfl (by first | exact .inl rfl | exact .inr (.inl rfl) | exact .inr (.inr rfl))) (se_tup sa_nil) rfl))))) (sss_one (ss_ret se_bl)) sss_nil)
  (sss_cons (ss_for PassesOwn.never rfl (si_any (se_var (i := 4) rfl (by first | exact .inl rfl | exact .inr (.inl rfl) | exact .inr (.inr rfl)))) (sg_name sc__law_is_tape.nd rfl (by first | exact .inl rfl | exact .inr rfl) (by first | exact .inl rfl | exact .inr rfl)) (sss_cons (ss_if (st_not (st_val (se_call (F__law_is_tuple M) (hr.mono (by decide)) gd rfl M.g__law_is_tuple M.d__law_is_tuple.kp (bd__law_is_tuple M) passN (sa_cons (se_var (i := 5) rfl (by first | exact .inl rfl | exact .inr (.inl rfl) | exact .inr (.inr rfl))) (sa_cons (se_var (i := 3) rfl (by first | exact .inl rfl | exact .inr (.inl rfl) | exact .inr (.inr rfl))) sa_nil))))) (sss_one (ss_ret se_bl)) sss_nil)
  (sss_one (ss_for PassesOwn.never rfl (si_any (se_var (i := 5) rfl (by first | exact .inl rfl | exact .inr (.inl rfl) | exact .inr (.inr rfl)))) (sg_name sc__law_is_tape.nd rfl (by first | exact .inl rfl | exact .inr rfl) (by first | exact .inl rfl | exact .inr rfl)) (sss_cons (ss_if (st_w (sw_or (st_not (st_val (se_call (F__law_is_tuple M) (hr.mono (by decide)) gd rfl M.g__law_is_tuple M.d__law_is_tuple.kp (bd__law_is_tuple M) passN (sa_cons (se_var (i := 6) rfl (by first | exact .inl rfl | exact .inr (.inl rfl) | exact .inr (.inr rfl))) (sa_cons se_int sa_nil))))) (sw_or1 (st_not (st_val (se_call (F__law_is_int M) (hr.mono (by decide)) gd rfl M.g__law_is_int M.d__law_is_int.kp (bd__law_is_int M) passN (sa_cons (se_ix (se_var (i := 6) rfl (by first | exact .inl rfl | exact .inr (.inl rfl) | exact .inr (.inr rfl))) se_int) (sa_cons se_int (sa_cons (se_op (r_add false) (se_callB c_len rfl M.b_len (by decide +kernel) (sa_cons (se_var (i := 4) rfl (by first | exact .inl rfl | exact .inr (.inl rfl) | exact .inr (.inr rfl))) sa_nil)) se_int) sa_nil))))))))) (sss_one (ss_ret se_bl)) sss_nil)
  (sss_one (ss_if (st_w (sw_or (st_not (st_val (se_call (F__law_is_int M) (hr.mono (by decide)) gd rfl M.g__law_is_int M.d__law_is_int.kp (bd__law_is_int M) passN (sa_cons (se_ix (se_var (i := 6) rfl (by first | exact .inl rfl | exact .inr (.inl rfl) | exact .inr (.inr rfl))) se_int) (sa_cons se_int (sa_cons (se_op r_sub (se_var (i := 3) rfl (by first | exact .inl rfl | exact .inr (.inl rfl) | exact .inr (.inr rfl))) se_int) sa_nil)))))) (sw_or1 (st_not (st_val (se_call (F__law_is_int M) (hr.mono (by decide)) gd rfl M.g__law_is_int M.d__law_is_int.kp (bd__law_is_int M) passN (sa_cons (se_ix (se_var (i := 6) rfl (by first | exact .inl rfl | exact .inr (.inl rfl) | exact .inr (.inr rfl))) se_int) (sa_cons (se_un r_neg se_int) (sa_cons se_int sa_nil))))))))) (sss_one (ss_ret se_bl)) sss_nil)))))))
  (sss_one (ss_ret se_bl))))))))
theorem bd__law_is_tape (M : Mx K mg) : Binds K (fdOf K "_law_is_tape") ["_law_thing"] [] := M.d__law_is_tape.bindsN fun _ _ _ _ _ _ us hl => match us, hl with | [_], _ => rfl
theorem sc__law_is_beyond : FnScope ["_law_thing"] ["_law_thing"] (defScope (top 28)) := ⟨rfl, rfl, rfl, by decide +kernel, rfl, by decide +kernel, by decide +kernel⟩
theorem F__law_is_beyond (M : Mx K mg) : FnZ P w K mg base CXN 3 (He.ga K "_law_is_beyond") (fdOf K "_law_is_beyond") ["_law_thing"] f__law_is_beyond := by
  refine fnz_of (ps := ["_law_thing"]) (m := b__law_is_beyond) M.d__law_is_beyond sc__law_is_beyond fun cdv A outer sh H E hr gd => ?_
  have hu := hr.units
  have hu1 := Nat.lt_of_le_of_lt (Nat.add_le_add_left (show 1 ≤ 64 by decide) _) hr.units
  exact PSs.nox ((sss_one (ss_ret (se_and (se_call (F__law_is_tape M) (hr.mono (by decide)) gd rfl M.g__law_is_tape M.d__law_is_tape.kp (bd__law_is_tape M) passN (sa_cons (se_var (i := 0) rfl (by first | exact .inl rfl | exact .inr (.inl rfl) | exact .inr (.inr rfl))) sa_nil)) (se_one (se_or (se_cmp r_gt (se_callB c_len rfl M.b_len (by decide +kernel) (sa_cons (se_ix (se_var (i := 0) rfl (by first | exact .inl rfl | exact .inr (.inl rfl) | exact .inr (.inr rfl))) se_int) sa_nil)) se_int rfl) (se_or (se_cmp r_gt (se_ix (se_var (i := 0) rfl (by first | exact .inl rfl | exact .inr (.inl rfl) | exact .inr (.inr rfl))) se_int) se_int rfl) (se_one (se_cmp r_gt (se_callB c_len rfl M.b_len (by decide +kernel) (sa_cons (se_ix (se_var (i := 0) rfl (by first | exact .inl rfl | exact .inr (.inl rfl) | exact .inr (.inr rfl))) se_int) sa_nil)) se_int rfl)))))))))
theorem bd__law_is_beyond (M : Mx K mg) : Binds K (fdOf K "_law_is_beyond") ["_law_thing"] [] := M.d__law_is_beyond.bindsN fun _ _ _ _ _ _ us hl => match us, hl with | [_], _ => rfl
theorem kb_is_tape_0_0 (M : Mx K mg) : KBz K (fdOf K "is_tape") ["thing"] ["thing"] [0] 0 := kbz_of M.d_is_tape fun _ _ _ _ _ _ us ws h1 h2 => match us, ws, h1, h2 with | [], [_], _, _ => rfl
theorem sc_law : FnScope ["_law_script", "_law_deck_here", "_law_turn", "_law_machine", "_law_thing", "_law_text", "_law_told", "_law_more"] ["_law_script"] (defScope (top 29)) := ⟨rfl, rfl, rfl, by decide +kernel, rfl, by decide +kernel, by decide +kernel⟩
theorem F_law (M : Mx K mg) : FnZ P w K mg base CXN 14 (He.ga K "law") (fdOf K "law") ["_law_script"] f_law := by
  refine fnz_of (ps := ["_law_script"]) (m := b_law) M.d_law sc_law fun cdv A outer sh H E hr gd => ?_
  have hu := hr.units
  have hu1 := Nat.lt_of_le_of_lt (Nat.add_le_add_left (show 1 ≤ 64 by decide) _) hr.units
  exact PSs.nox ((sss_cons (ss_set sc_law.nd rfl (by first | exact .inl rfl | exact .inr rfl) (by first | exact .inl rfl | exact .inr rfl) (se_call (F__law_deck M) (hr.mono (by decide)) gd rfl M.g__law_deck M.d__law_deck.kp (bd__law_deck M) passN (sa_cons (se_var (i := 0) rfl (by first | exact .inl rfl | exact .inr (.inl rfl) | exact .inr (.inr rfl))) sa_nil)))
  (sss_cons (ss_for PassesOwn.never rfl (si_range1 rfl M.b_range (sa_cons se_int sa_nil)) (sg_name sc_law.nd rfl (by first | exact .inl rfl | exact .inr rfl) (by first | exact .inl rfl | exact .inr rfl)) (sss_cons (ss_set sc_law.nd rfl (by first | exact .inl rfl | exact .inr rfl) (by first | exact .inl rfl | exact .inr rfl) (se_call (F__law_tape M) (hr.mono (by decide)) gd rfl M.g__law_tape M.d__law_tape.kp (bd__law_tape M) passN (sa_cons (se_var (i := 1) rfl (by first | exact .inl rfl | exact .inr (.inl rfl) | exact .inr (.inr rfl))) (sa_cons se_int sa_nil))))
  (sss_one (ss_for PassesOwn.never rfl (si_any (se_op (r_add false) (se_lst false (sa_cons (se_var (i := 3) rfl (by first | exact .inl rfl | exact .inr (.inl rfl) | exact .inr (.inr rfl))) sa_nil)) (se_lc (own := [("_law_more", 7)]) false rfl sc_law.nd (si_range1 rfl M.b_range (sa_cons se_int sa_nil)) (blkOk_by (N := ["_law_script", "_law_deck_here", "_law_turn", "_law_machine", "_law_thing", "_law_text", "_law_told", "_law_more"]) (sc := defScope (top 29)) (by decide +kernel)) (fun _ _ _ _ _ => (sg_name sc_law.nd rfl (by first | exact .inl rfl | exact .inr rfl) (by first | exact .inl rfl | exact .inr rfl))) (fun _ _ _ _ _ => sts_nil) (fun _ _ _ _ _ => (se_call (F__law_otherwise M) (hr.mono (by decide)) gd rfl M.g__law_otherwise M.d__law_otherwise.kp (bd__law_otherwise M) passN (sa_cons (se_var (i := 1) rfl (by first | exact .inl rfl | exact .inr (.inl rfl) | exact .inr (.inr rfl))) (sa_cons (se_var (i := 3) rfl (by first | exact .inl rfl | exact .inr (.inl rfl) | exact .inr (.inr rfl))) sa_nil))))))) (sg_name sc_law.nd rfl (by first | exact .inl rfl | exact .inr rfl) (by first | exact .inl rfl | exact .inr rfl)) (sss_cons (ss_set sc_law.nd rfl (by first | exact .inl rfl | exact .inr rfl) (by first | exact .inl rfl | exact .inr rfl) (se_callB (c_repr M.sys gd hu) rfl M.b_repr (by decide +kernel) (sa_cons (se_var (i := 4) rfl (by first | exact .inl rfl | exact .inr (.inl rfl) | exact .inr (.inr rfl))) sa_nil)))
  (sss_cons (ss_set sc_law.nd rfl (by first | exact .inl rfl | exact .inr rfl) (by first | exact .inl rfl | exact .inr rfl) (se_if (st_cmp (r_eqD hu) (se_var (i := 2) rfl (by first | exact .inl rfl | exact .inr (.inl rfl) | exact .inr (.inr rfl))) se_int rfl) (se_callK0 (F_is_tape M) (hr.mono (by decide)) gd rfl M.g_is_tape M.d_is_tape.kp (kb_is_tape_0_0 M) passN rfl (sk_cons (se_var (i := 4) rfl (by first | exact .inl rfl | exact .inr (.inl rfl) | exact .inr (.inr rfl))) sk_nil)) (se_call (F_is_tape M) (hr.mono (by decide)) gd rfl M.g_is_tape M.d_is_tape.kp (bd_is_tape M) passN (sa_cons (se_var (i := 4) rfl (by first | exact .inl rfl | exact .inr (.inl rfl) | exact .inr (.inr rfl))) sa_nil))))
  (sss_one (ss_if (st_w (sw_or (st_w (sw_and (st_not (st_val (se_call (F__law_is_beyond M) (hr.mono (by decide)) gd rfl M.g__law_is_beyond M.d__law_is_beyond.kp (bd__law_is_beyond M) passN (sa_cons (se_var (i := 4) rfl (by first | exact .inl rfl | exact .inr (.inl rfl) | exact .inr (.inr rfl))) sa_nil)))) (sw_and1 (st_cmp (r_neD hu) (se_callB (c_repr M.sys gd hu) rfl M.b_repr (by decide +kernel) (sa_cons (se_var (i := 6) rfl (by first | exact .inl rfl | exact .inr (.inl rfl) | exact .inr (.inr rfl))) sa_nil)) (se_callB (c_repr M.sys gd hu) rfl M.b_repr (by decide +kernel) (sa_cons (se_call (F__law_is_tape M) (hr.mono (by decide)) gd rfl M.g__law_is_tape M.d__law_is_tape.kp (bd__law_is_tape M) passN (sa_cons (se_var (i := 4) rfl (by first | exact .inl rfl | exact .inr (.inl rfl) | exact .inr (.inr rfl))) sa_nil)) sa_nil)) rfl)))) (sw_or1 (st_cmp (r_neD hu) (se_callB (c_repr M.sys gd hu) rfl M.b_repr (by decide +kernel) (sa_cons (se_var (i := 4) rfl (by first | exact .inl rfl | exact .inr (.inl rfl) | exact .inr (.inr rfl))) sa_nil)) (se_var (i := 5) rfl (by first | exact .inl rfl | exact .inr (.inl rfl) | exact .inr (.inr rfl))) rfl)))) (sss_one (ss_ret se_bl)) sss_nil))))))))
  (sss_one (ss_ret se_bl)))))
theorem bd_law (M : Mx K mg) : Binds K (fdOf K "law") ["_law_script"] [] := M.d_law.bindsN fun _ _ _ _ _ _ us hl => match us, hl with | [_], _ => rfl
end
/-! ### the head -/
def dd__law_deck : He.DefD := ⟨("_law_deck", none), "_law_deck", "_law_deck", defArgs (top 16), defBody (top 16), defScope (top 16), [], []⟩
def dd__law_draw : He.DefD := ⟨("_law_draw", none), "_law_draw", "_law_draw", defArgs (top 17), defBody (top 17), defScope (top 17), [], []⟩
def dd__law_pick : He.DefD := ⟨("_law_pick", none), "_law_pick", "_law_pick", defArgs (top 18), defBody (top 18), defScope (top 18), [], []⟩
def dd__law_tags : He.DefD := ⟨("_law_tags", none), "_law_tags", "_law_tags", defArgs (top 22), defBody (top 22), defScope (top 22), [], []⟩
def dd__law_tape : He.DefD := ⟨("_law_tape", none), "_law_tape", "_law_tape", defArgs (top 24), defBody (top 24), defScope (top 24), [], []⟩
def dd__law_leaf : He.DefD := ⟨("_law_leaf", none), "_law_leaf", "_law_leaf", defArgs (top 25), defBody (top 25), defScope (top 25), [], []⟩
def dd__law_bent : He.DefD := ⟨("_law_bent", none), "_law_bent", "_law_bent", defArgs (top 26), defBody (top 26), defScope (top 26), [], []⟩
def dd__law_otherwise : He.DefD := ⟨("_law_otherwise", none), "_law_otherwise", "_law_otherwise", defArgs (top 27), defBody (top 27), defScope (top 27), [], []⟩
def dd_is_tuple : He.DefD := ⟨("is_tuple", none), "is_tuple", "is_tuple", defArgs (top 5), defBody (top 5), defScope (top 5), [], []⟩
def dd_is_tag_value : He.DefD := ⟨("is_tag_value", none), "is_tag_value", "is_tag_value", defArgs (top 6), defBody (top 6), defScope (top 6), [], []⟩
def dd_are_unlike_tags : He.DefD := ⟨("are_unlike_tags", none), "are_unlike_tags", "are_unlike_tags", defArgs (top 11), defBody (top 11), defScope (top 11), [], []⟩
def dd_is_integer : He.DefD := ⟨("is_integer", none), "is_integer", "is_integer", defArgs (top 3), defBody (top 3), defScope (top 3), [], []⟩
def dd_is_from : He.DefD := ⟨("is_from", none), "is_from", "is_from", defArgs (top 4), defBody (top 4), defScope (top 4), [], []⟩
def dd_is_rule : He.DefD := ⟨("is_rule", none), "is_rule", "is_rule", defArgs (top 9), defBody (top 9), defScope (top 9), [], []⟩
def dd_is_state : He.DefD := ⟨("is_state", none), "is_state", "is_state", defArgs (top 10), defBody (top 10), defScope (top 10), [], []⟩
def dd_is_tape_value : He.DefD := ⟨("is_tape_value", none), "is_tape_value", "is_tape_value", defArgs (top 12), defBody (top 12), defScope (top 12), [], []⟩
def dd_is_tape : He.DefD := ⟨("is_tape", none), "is_tape", "is_tape", defArgs (top 14), defBody (top 14), defScope (top 14), [], []⟩
def dd__law_is_tuple : He.DefD := ⟨("_law_is_tuple", none), "_law_is_tuple", "_law_is_tuple", defArgs (top 20), defBody (top 20), defScope (top 20), [], []⟩
def dd__law_is_int : He.DefD := ⟨("_law_is_int", none), "_law_is_int", "_law_is_int", defArgs (top 19), defBody (top 19), defScope (top 19), [], []⟩
def dd__law_is_tag : He.DefD := ⟨("_law_is_tag", none), "_law_is_tag", "_law_is_tag", defArgs (top 21), defBody (top 21), defScope (top 21), [], []⟩
def dd__law_is_tape : He.DefD := ⟨("_law_is_tape", none), "_law_is_tape", "_law_is_tape", defArgs (top 23), defBody (top 23), defScope (top 23), [], []⟩
def dd__law_is_beyond : He.DefD := ⟨("_law_is_beyond", none), "_law_is_beyond", "_law_is_beyond", defArgs (top 28), defBody (top 28), defScope (top 28), [], []⟩
def dd_law : He.DefD := ⟨("law", none), "law", "law", defArgs (top 29), defBody (top 29), defScope (top 29), [], []⟩
def fnL : List He.DefD := [dd__law_deck, dd__law_draw, dd__law_pick, dd__law_tags, dd__law_tape, dd__law_leaf, dd__law_bent, dd__law_otherwise, dd_is_tuple, dd_is_tag_value, dd_are_unlike_tags, dd_is_integer, dd_is_from, dd_is_rule, dd_is_state, dd_is_tape_value, dd_is_tape, dd__law_is_tuple, dd__law_is_int, dd__law_is_tag, dd__law_is_tape, dd__law_is_beyond, dd_law]
def faL : List He.Fa := [.glo "_law_deck", .glo "_law_draw", .glo "_law_pick", .glo "_law_tags", .glo "_law_tape", .glo "_law_leaf", .glo "_law_bent", .glo "_law_otherwise", .glo "is_tuple", .glo "is_tag_value", .glo "are_unlike_tags", .glo "is_integer", .glo "is_from", .glo "is_rule", .glo "is_state", .glo "is_tape_value", .glo "is_tape", .glo "_law_is_tuple", .glo "_law_is_int", .glo "_law_is_tag", .glo "_law_is_tape", .glo "_law_is_beyond", .glo "law", .free "all", .free "bool", .free "int", .free "isinstance", .free "len", .free "list", .free "max", .free "min", .free "range", .free "repr", .free "set", .free "str", .free "tuple"]
def csL : List (Str × PV) := [("LONGEST_TAG", c_LONGEST_TAG), ("MOVES", c_MOVES), ("SMALL", c_SMALL)]
abbrev R : PySem.W.OpenRow := PySem.W.OpenLaw.row PySem.Challenge.rw_eyesonly_k55_tape_machines_of_any_value
abbrev hk : PySem.W.Hook := hookZ 6 faL fnL csL
def ob (s : PySem.W.SharedT) : AlZ := obsZG 6 faL fnL csL (HandSHeadRun.getT s)
theorem ob_eq (s : PySem.W.SharedT) : ob s = hk.obs s.abs := obsZG_eq (HandSHeadRun.getT_eq s)
def lo0 : List PySem.Str := ["SMALL", "LONGEST_TAG", "is_integer", "is_from", "is_tuple", "is_tag_value", "MOVES", "is_rule", "is_state", "are_unlike_tags", "is_tape_value", "is_tape", "_law_deck", "_law_draw", "_law_pick", "_law_is_int", "_law_is_tuple", "_law_is_tag", "_law_tags", "_law_is_tape", "_law_tape", "_law_leaf", "_law_bent", "_law_otherwise", "_law_is_beyond"]
def lo : List PySem.Str := lo0
theorem run (w : World) : HandSHeadRun.RunEq R (PySem.W.view R.prog [29]) hk ob 4000 lo w := by
  intro os
  kernel_rfl
theorem facts {K : PySem.W.Frag} {h : Heap} {mg : Str → Option Value} (X : K.In h) (G : h.Ns mainGlobals mg) (c : SaysZ faL fnL csL K) : Mx K mg := by
  have fd : ∀ {x : Str} {i : Nat} {f : FuncData}, FunD K x x (defArgs (top i)) (defBody (top i)) (defScope (top i)) [] [] (He.ga K x) f → FnP K x i := fun {x i f} F => by
    have e : fdOf K x = f := by
      obtain ⟨oc, od, dV, kV, doc, pm, an, cdv, ct, osl, _, lk, _⟩ := F.ex
      unfold fdOf
      rw [lk]
    show FunD K x x _ _ _ [] [] (He.ga K x) (fdOf K x)
    rw [e]; exact F
  refine ⟨c.sys, He.free_ok X G (c.1.fact 23 (f := .free "all") rfl),
    He.free_ok X G (c.1.fact 24 (f := .free "bool") rfl),
    He.free_ok X G (c.1.fact 25 (f := .free "int") rfl),
    He.free_ok X G (c.1.fact 26 (f := .free "isinstance") rfl),
    He.free_ok X G (c.1.fact 27 (f := .free "len") rfl),
    He.free_ok X G (c.1.fact 28 (f := .free "list") rfl),
    He.free_ok X G (c.1.fact 29 (f := .free "max") rfl),
    He.free_ok X G (c.1.fact 30 (f := .free "min") rfl),
    He.free_ok X G (c.1.fact 31 (f := .free "range") rfl),
    He.free_ok X G (c.1.fact 32 (f := .free "repr") rfl),
    He.free_ok X G (c.1.fact 33 (f := .free "set") rfl),
    He.free_ok X G (c.1.fact 34 (f := .free "str") rfl),
    He.free_ok X G (c.1.fact 35 (f := .free "tuple") rfl),
    He.glo_ok X G (c.1.fact 0 (f := .glo "_law_deck") rfl),
    (c.1.def_ 0 (d := dd__law_deck) rfl).elim fun _ F => fd F,
    He.glo_ok X G (c.1.fact 1 (f := .glo "_law_draw") rfl),
    (c.1.def_ 1 (d := dd__law_draw) rfl).elim fun _ F => fd F,
    He.glo_ok X G (c.1.fact 2 (f := .glo "_law_pick") rfl),
    (c.1.def_ 2 (d := dd__law_pick) rfl).elim fun _ F => fd F,
    He.glo_ok X G (c.1.fact 3 (f := .glo "_law_tags") rfl),
    (c.1.def_ 3 (d := dd__law_tags) rfl).elim fun _ F => fd F,
    He.glo_ok X G (c.1.fact 4 (f := .glo "_law_tape") rfl),
    (c.1.def_ 4 (d := dd__law_tape) rfl).elim fun _ F => fd F,
    He.glo_ok X G (c.1.fact 5 (f := .glo "_law_leaf") rfl),
    (c.1.def_ 5 (d := dd__law_leaf) rfl).elim fun _ F => fd F,
    He.glo_ok X G (c.1.fact 6 (f := .glo "_law_bent") rfl),
    (c.1.def_ 6 (d := dd__law_bent) rfl).elim fun _ F => fd F,
    He.glo_ok X G (c.1.fact 7 (f := .glo "_law_otherwise") rfl),
    (c.1.def_ 7 (d := dd__law_otherwise) rfl).elim fun _ F => fd F,
    He.glo_ok X G (c.1.fact 8 (f := .glo "is_tuple") rfl),
    (c.1.def_ 8 (d := dd_is_tuple) rfl).elim fun _ F => fd F,
    He.glo_ok X G (c.1.fact 9 (f := .glo "is_tag_value") rfl),
    (c.1.def_ 9 (d := dd_is_tag_value) rfl).elim fun _ F => fd F,
    He.glo_ok X G (c.1.fact 10 (f := .glo "are_unlike_tags") rfl),
    (c.1.def_ 10 (d := dd_are_unlike_tags) rfl).elim fun _ F => fd F,
    He.glo_ok X G (c.1.fact 11 (f := .glo "is_integer") rfl),
    (c.1.def_ 11 (d := dd_is_integer) rfl).elim fun _ F => fd F,
    He.glo_ok X G (c.1.fact 12 (f := .glo "is_from") rfl),
    (c.1.def_ 12 (d := dd_is_from) rfl).elim fun _ F => fd F,
    He.glo_ok X G (c.1.fact 13 (f := .glo "is_rule") rfl),
    (c.1.def_ 13 (d := dd_is_rule) rfl).elim fun _ F => fd F,
    He.glo_ok X G (c.1.fact 14 (f := .glo "is_state") rfl),
    (c.1.def_ 14 (d := dd_is_state) rfl).elim fun _ F => fd F,
    He.glo_ok X G (c.1.fact 15 (f := .glo "is_tape_value") rfl),
    (c.1.def_ 15 (d := dd_is_tape_value) rfl).elim fun _ F => fd F,
    He.glo_ok X G (c.1.fact 16 (f := .glo "is_tape") rfl),
    (c.1.def_ 16 (d := dd_is_tape) rfl).elim fun _ F => fd F,
    He.glo_ok X G (c.1.fact 17 (f := .glo "_law_is_tuple") rfl),
    (c.1.def_ 17 (d := dd__law_is_tuple) rfl).elim fun _ F => fd F,
    He.glo_ok X G (c.1.fact 18 (f := .glo "_law_is_int") rfl),
    (c.1.def_ 18 (d := dd__law_is_int) rfl).elim fun _ F => fd F,
    He.glo_ok X G (c.1.fact 19 (f := .glo "_law_is_tag") rfl),
    (c.1.def_ 19 (d := dd__law_is_tag) rfl).elim fun _ F => fd F,
    He.glo_ok X G (c.1.fact 20 (f := .glo "_law_is_tape") rfl),
    (c.1.def_ 20 (d := dd__law_is_tape) rfl).elim fun _ F => fd F,
    He.glo_ok X G (c.1.fact 21 (f := .glo "_law_is_beyond") rfl),
    (c.1.def_ 21 (d := dd__law_is_beyond) rfl).elim fun _ F => fd F,
    He.glo_ok X G (c.1.fact 22 (f := .glo "law") rfl),
    (c.1.def_ 22 (d := dd_law) rfl).elim fun _ F => fd F,
    c.con X G 0 rfl,
    c.con X G 1 rfl,
    c.con X G 2 rfl⟩
def Plain : Prop := ∀ ns : List Int, ns.length ≤ 63 → Post (f_law [.scr (ns.map .int)] []) (fun v _ => v = .bl true) fun _ _ _ => False
theorem holds (hp : Plain) : PySem.Challenge.rw_eyesonly_k55_tape_machines_of_any_value.Holds := by
  w_on; o_law
  refine HandSHeadRun.head_any (r := PySem.W.OpenLaw.row PySem.Challenge.rw_eyesonly_k55_tape_machines_of_any_value) (q := PySem.W.view (PySem.W.OpenLaw.row PySem.Challenge.rw_eyesonly_k55_tape_machines_of_any_value).prog [29]) (H := hk) (ob := ob) (M := 4000) (loose := lo) (d := HandSHeadRun.topDef (PySem.W.OpenLaw.row PySem.Challenge.rw_eyesonly_k55_tape_machines_of_any_value).prog 29) (kwd := []) ob_eq (by kernel_rfl) (fun s => by kernel_rfl) run (by kernel_rfl) (by kernel_rfl) (by kernel_rfl) (by rfl) (by first | assumption | decide +kernel) (by decide +kernel) ⟨rfl, rfl, rfl, rfl, rfl, by decide +kernel⟩ ?hw ?hc
  case hw => w_witness2
  case hc =>
    refine end_law (l := PySem.Challenge.rw_eyesonly_k55_tape_machines_of_any_value) (n := 63) (k := 14) (x := "_law_script") (CX := CXN) rfl (big_line (by decide)) (by kernel_rfl) ⟨rfl, by decide, by decide⟩ ?F (fun _ _ _ _ z => z)
    intro w mg f h Y G hmg0
    obtain ⟨K, KX, c⟩ := Y
    have hmg : mg ("law" : Str) = some (.ref f) := by
      rw [← show (HandSHeadRun.topDef (PySem.W.OpenLaw.row PySem.Challenge.rw_eyesonly_k55_tape_machines_of_any_value).prog 29).name = ("law" : Str) by kernel_rfl]
      exact hmg0
    have M := facts KX G c
    have e := hmg.symm.trans M.g_law
    cases e
    exact ⟨K, fdOf K "law", f_law, KX, fun s u => (M.d_law.bindsA (ps := ["_law_script"]) fun _ _ _ _ _ _ us hl => match us, hl with | [_], _ => rfl) s [u] rfl, hp, fun base _ _ => F_law M⟩
end Wk55

set_option Elab.async false
set_option linter.all false
set_option maxRecDepth 100000
set_option maxHeartbeats 4000000
/-! P1: how the mirrors compute. -/
namespace Z
open PySem PySem.Spec L2

section
variable {α β : Type} {a : α} {s s' : S} {k : α → S → Rs β} {env : En} {v x y : PV}
@[simp] theorem bind_ok : (Rs.ok a s).bind k = k a s := rfl
@[simp] theorem bind_fail : (Rs.fail : Rs α).bind k = .fail := rfl
@[simp] theorem post_ok {Q : α → S → Prop} {E : Str → PV → S → Prop} : Post (.ok a s) Q E ↔ Q a s := Iff.rfl
@[simp] theorem post_bind {r : Rs α} {Q : β → S → Prop} {E : Str → PV → S → Prop} : Post (r.bind k) Q E ↔ Post r (fun a s => Post (k a s) Q E) E := ⟨Post.bind, Post.of_bind⟩
@[simp] theorem lift_some : lift (some (v, s)) = .ok v s := rfl
@[simp] theorem lift_none : lift none = .fail := rfl
@[simp] theorem noX_ok : noX (.ok a s) = .ok a s := rfl
theorem eV_at {i : Nat} (h : env[i]? = some (some v)) : eV i env s = .ok v s := by unfold eV; rw [h]
@[simp] theorem eV_0 : eV 0 (some v :: env) s = .ok v s := rfl
@[simp] theorem eV_1 {a0 : Option PV} : eV 1 (a0 :: some v :: env) s = .ok v s := rfl
@[simp] theorem eV_2 {a0 a1 : Option PV} : eV 2 (a0 :: a1 :: some v :: env) s = .ok v s := rfl
@[simp] theorem eV_3 {a0 a1 a2 : Option PV} : eV 3 (a0 :: a1 :: a2 :: some v :: env) s = .ok v s := rfl
@[simp] theorem eV_4 {a0 a1 a2 a3 : Option PV} : eV 4 (a0 :: a1 :: a2 :: a3 :: some v :: env) s = .ok v s := rfl
@[simp] theorem eV_5 {a0 a1 a2 a3 a4 : Option PV} : eV 5 (a0 :: a1 :: a2 :: a3 :: a4 :: some v :: env) s = .ok v s := rfl
@[simp] theorem eV_6 {a0 a1 a2 a3 a4 a5 : Option PV} : eV 6 (a0 :: a1 :: a2 :: a3 :: a4 :: a5 :: some v :: env) s = .ok v s := rfl
@[simp] theorem eV_7 {a0 a1 a2 a3 a4 a5 a6 : Option PV} : eV 7 (a0 :: a1 :: a2 :: a3 :: a4 :: a5 :: a6 :: some v :: env) s = .ok v s := rfl
@[simp] theorem eV_8 {a0 a1 a2 a3 a4 a5 a6 a7 : Option PV} : eV 8 (a0 :: a1 :: a2 :: a3 :: a4 :: a5 :: a6 :: a7 :: some v :: env) s = .ok v s := rfl
@[simp] theorem eV_9 {a0 a1 a2 a3 a4 a5 a6 a7 a8 : Option PV} : eV 9 (a0 :: a1 :: a2 :: a3 :: a4 :: a5 :: a6 :: a7 :: a8 :: some v :: env) s = .ok v s := rfl
@[simp] theorem eV_10 {a0 a1 a2 a3 a4 a5 a6 a7 a8 a9 : Option PV} : eV 10 (a0 :: a1 :: a2 :: a3 :: a4 :: a5 :: a6 :: a7 :: a8 :: a9 :: some v :: env) s = .ok v s := rfl
@[simp] theorem eV_11 {a0 a1 a2 a3 a4 a5 a6 a7 a8 a9 a10 : Option PV} : eV 11 (a0 :: a1 :: a2 :: a3 :: a4 :: a5 :: a6 :: a7 :: a8 :: a9 :: a10 :: some v :: env) s = .ok v s := rfl
@[simp] theorem eV_12 {a0 a1 a2 a3 a4 a5 a6 a7 a8 a9 a10 a11 : Option PV} : eV 12 (a0 :: a1 :: a2 :: a3 :: a4 :: a5 :: a6 :: a7 :: a8 :: a9 :: a10 :: a11 :: some v :: env) s = .ok v s := rfl
@[simp] theorem eV_13 {a0 a1 a2 a3 a4 a5 a6 a7 a8 a9 a10 a11 a12 : Option PV} : eV 13 (a0 :: a1 :: a2 :: a3 :: a4 :: a5 :: a6 :: a7 :: a8 :: a9 :: a10 :: a11 :: a12 :: some v :: env) s = .ok v s := rfl
@[simp] theorem eV_14 {a0 a1 a2 a3 a4 a5 a6 a7 a8 a9 a10 a11 a12 a13 : Option PV} : eV 14 (a0 :: a1 :: a2 :: a3 :: a4 :: a5 :: a6 :: a7 :: a8 :: a9 :: a10 :: a11 :: a12 :: a13 :: some v :: env) s = .ok v s := rfl
@[simp] theorem eV_15 {a0 a1 a2 a3 a4 a5 a6 a7 a8 a9 a10 a11 a12 a13 a14 : Option PV} : eV 15 (a0 :: a1 :: a2 :: a3 :: a4 :: a5 :: a6 :: a7 :: a8 :: a9 :: a10 :: a11 :: a12 :: a13 :: a14 :: some v :: env) s = .ok v s := rfl
@[simp] theorem eV_16 {a0 a1 a2 a3 a4 a5 a6 a7 a8 a9 a10 a11 a12 a13 a14 a15 : Option PV} : eV 16 (a0 :: a1 :: a2 :: a3 :: a4 :: a5 :: a6 :: a7 :: a8 :: a9 :: a10 :: a11 :: a12 :: a13 :: a14 :: a15 :: some v :: env) s = .ok v s := rfl
@[simp] theorem eV_17 {a0 a1 a2 a3 a4 a5 a6 a7 a8 a9 a10 a11 a12 a13 a14 a15 a16 : Option PV} : eV 17 (a0 :: a1 :: a2 :: a3 :: a4 :: a5 :: a6 :: a7 :: a8 :: a9 :: a10 :: a11 :: a12 :: a13 :: a14 :: a15 :: a16 :: some v :: env) s = .ok v s := rfl
@[simp] theorem eV_18 {a0 a1 a2 a3 a4 a5 a6 a7 a8 a9 a10 a11 a12 a13 a14 a15 a16 a17 : Option PV} : eV 18 (a0 :: a1 :: a2 :: a3 :: a4 :: a5 :: a6 :: a7 :: a8 :: a9 :: a10 :: a11 :: a12 :: a13 :: a14 :: a15 :: a16 :: a17 :: some v :: env) s = .ok v s := rfl
@[simp] theorem eV_19 {a0 a1 a2 a3 a4 a5 a6 a7 a8 a9 a10 a11 a12 a13 a14 a15 a16 a17 a18 : Option PV} : eV 19 (a0 :: a1 :: a2 :: a3 :: a4 :: a5 :: a6 :: a7 :: a8 :: a9 :: a10 :: a11 :: a12 :: a13 :: a14 :: a15 :: a16 :: a17 :: a18 :: some v :: env) s = .ok v s := rfl
@[simp] theorem eC_e : eC v env s = .ok v s := rfl
@[simp] theorem eUn_e {f : O1} {m : EM} : eUn f m env s = (m env s).bind fun x s1 => lift (f x s1) := rfl
@[simp] theorem eOp_e {f : O2} {m n : EM} : eOp f m n env s = (m env s).bind fun x s1 => (n env s1).bind fun y s2 => lift (f x y s2) := rfl
@[simp] theorem aNil_e : aNil env s = .ok [] s := rfl
@[simp] theorem aCons_e {m : EM} {n : AM} : aCons m n env s = (m env s).bind fun x s1 => (n env s1).bind fun xs s2 => .ok (x :: xs) s2 := rfl
@[simp] theorem eLs_e {f : OL} {n : AM} : eLs f n env s = (n env s).bind fun xs s1 => lift (f xs s1) := rfl
@[simp] theorem eIf_e {t : TM} {m n : EM} : eIf t m n env s = (t env s).bind fun c s1 => if c then m env s1 else n env s1 := rfl
@[simp] theorem eAnd_e {m n : EM} : eAnd m n env s = (m env s).bind fun x s1 =>
  match x with
  | .bl true => n env s1
  | .bl false => .ok (.bl false) s1
  | _ => .fail := rfl
@[simp] theorem eOr_e {m n : EM} : eOr m n env s = (m env s).bind fun x s1 =>
  match x with
  | .bl true => .ok (.bl true) s1
  | .bl false => n env s1
  | _ => .fail := rfl
@[simp] theorem eNot_e {m : EM} : eNot m env s = (m env s).bind fun x s1 =>
  match x with
  | .bl k => .ok (.bl (!k)) s1
  | _ => .fail := rfl
@[simp] theorem tB_e {m : EM} : tB m env s = (m env s).bind fun x s1 =>
  match x with
  | .bl k => .ok k s1
  | _ => .fail := rfl
@[simp] theorem tAnd_e {m n : TM} : tAnd m n env s = (m env s).bind fun c s1 => if c then n env s1 else .ok false s1 := rfl
@[simp] theorem tOr_e {m n : TM} : tOr m n env s = (m env s).bind fun c s1 => if c then .ok true s1 else n env s1 := rfl
@[simp] theorem tNot_e {m : TM} : tNot m env s = (m env s).bind fun c s1 => .ok (!c) s1 := rfl
@[simp] theorem tYes_e : tYesM env s = .ok true s := rfl
@[simp] theorem eCh_e {f g : O2} {m n o : EM} : eCh f g m n o env s = (m env s).bind fun x s1 => (n env s1).bind fun y s2 => (lift (f x y s2)).bind fun r s3 =>
  match r with
  | .bl true => (o env s3).bind fun z s4 => lift (g y z s4)
  | .bl false => .ok (.bl false) s3
  | _ => .fail := rfl
@[simp] theorem eTup_e {n : AM} : eTup n env s = (n env s).bind fun xs s1 => lift (newT xs s1) := rfl
@[simp] theorem eLst_e {b : Bool} {n : AM} : eLst b n env s = (n env s).bind fun xs s1 => lift (newL b xs s1) := rfl
@[simp] theorem eMt_e {T : Kn} {f : OM} {m : EM} {n : AM} : eMt T f m n env s = (m env s).bind fun x s1 => if isTy T x s1 then (n env s1).bind fun xs s2 => lift (f x xs s2) else .fail := rfl
@[simp] theorem eSl_e {b : Bool} {m : EM} {lo hi : PM} : eSl b m lo hi env s = (m env s).bind fun x s1 => (lo env s1).bind fun l s2 => (hi env s2).bind fun h s3 => lift (oSl b x l h s3) := rfl
@[simp] theorem pNo_e : pNo env s = .ok none s := rfl
@[simp] theorem eCall_e {f : FM} {n : AM} : eCall f n env s = (n env s).bind fun vs s1 => f vs s1 := rfl
@[simp] theorem sNil_e : sNil env s = .ok (.nx env) s := rfl
@[simp] theorem sSeq_e {m n : SM} : sSeq m n env s = (m env s).bind (flK n) := rfl
@[simp] theorem flK_nx {n : SM} : flK n (.nx env) s = n env s := rfl
@[simp] theorem flK_ret {n : SM} : flK n (.ret v) s = .ok (.ret v) s := rfl
@[simp] theorem flK_brk {n : SM} : flK n (.brk env) s = .ok (.brk env) s := rfl
@[simp] theorem flK_cnt {n : SM} : flK n (.cnt env) s = .ok (.cnt env) s := rfl
@[simp] theorem sRet_e {m : EM} : sRet m env s = (m env s).bind fun v s1 => .ok (.ret v) s1 := rfl
@[simp] theorem sIf_e {t : TM} {m n : SM} : sIf t m n env s = (t env s).bind fun c s1 => if c then m env s1 else n env s1 := rfl
@[simp] theorem sExpr_e {m : EM} : sExpr m env s = (m env s).bind fun _ s1 => .ok (.nx env) s1 := rfl
@[simp] theorem sAsg_e {m : EM} {t : GM} : sAsg m t env s = (m env s).bind fun v s1 => liftE (t v env s1) s1 := rfl
@[simp] theorem liftE_some : liftE (some env) s = .ok (.nx env) s := rfl
@[simp] theorem mName_e {i : Nat} : mName i v env s = some (env.set i (some v)) := rfl
@[simp] theorem mNil_e : mNil [] env s = some env := rfl
@[simp] theorem mCons_e {t : GM} {u : GMs} {xs : List PV} : mCons t u (x :: xs) env s = (t x env s).bind fun e => u xs e s := rfl
@[simp] theorem mTup_e {u : GMs} {xs : List PV} : mTup u (.tup xs) env s = u xs env s := rfl
@[simp] theorem sPar_e {i j : Nat} {n : AM} : sPar i j n env s = (n env s).bind fun vs s1 =>
  match vs with
  | [a, b] => .ok (.nx ((env.set i (some a)).set j (some b))) s1
  | _ => .fail := rfl
@[simp] theorem flEnd_nx : flEnd (.nx env) s = .ok .non s := rfl
@[simp] theorem flEnd_ret : flEnd (.ret v) s = .ok v s := rfl
@[simp] theorem sFor_e {it : IM} {t : GM} {b : SM} : sFor it t b env s = (it env s).bind fun p s1 => forL p.2 t b p.1 env s1 := rfl
@[simp] theorem iAny_e {m : EM} : iAny m env s = (m env s).bind fun v s1 => liftI (itOf v s1) s1 := rfl
@[simp] theorem liftI_some {p : List PV × Ck} : liftI (some p) s = .ok p s := rfl
theorem iR1_ok {n : AM} {j : Int} (h : n env s = .ok [.int j] s') (hj : j < 4000000000000000000 ∧ -4000000000000000000 < j) : iR1 n env s = .ok (ups 0 j.toNat, none) s' := by
  unfold iR1
  rw [h]
  exact if_pos hj
@[simp] theorem sDPut_e {mv mo mi : EM} : sDPut mv mo mi env s = (mv env s).bind fun v s1 => (mo env s1).bind fun x s2 => (mi env s2).bind fun y s3 =>
  match mdic s3 x, kP y with
  | some (n, kvs), some k => if kvs.length < 16000000 then .ok (.nx env) (s3.set n (.dic (putP kvs k v))) else .fail
  | _, _ => .fail := rfl
end
/-- a def called -/
theorem fnM_e {n : Nat} {N : List Str} {m : SM} {vs : List PV} {s : S} (h : vs.length = n) : fnM n N m vs s = (m (startE N vs) s).bind flEnd := if_pos h
end Z
namespace Z
open PySem PySem.Spec L2
section
variable {s : S} {i j : Int} {mu : Bool} {xs ys : List PV}
@[simp] theorem oAdd_ii : oAdd mu (.int i) (.int j) s = some (.int (i + j), s) := rfl
@[simp] theorem oSub_ii : oSub (.int i) (.int j) s = some (.int (i - j), s) := rfl
theorem oMod_ii (h : j ≠ 0) : oMod (.int i) (.int j) s = some (.int (i.fmod j), s) := if_pos h
theorem oFdiv_ii (h : j ≠ 0 ∧ j.natAbs < 1073741824) : oFdiv (.int i) (.int j) s = some (.int (i.fdiv j), s) := if_pos h
theorem oMul_l (h : -(2 ^ 64) < i ∧ i < 2 ^ 64) : oMulI (.int i) (.int j) s = some (.int (i * j), s) := if_pos (.inl h)
theorem oMul_r (h : -(2 ^ 64) < j ∧ j < 2 ^ 64) : oMulI (.int i) (.int j) s = some (.int (i * j), s) := if_pos (.inr h)
@[simp] theorem uNeg_i : uNeg (.int i) s = some (.int (-i), s) := rfl
@[simp] theorem oLt_ii : oLt (.int i) (.int j) s = some (.bl (decide (i < j)), s) := rfl
@[simp] theorem oLe_ii : oLe (.int i) (.int j) s = some (.bl (decide (i ≤ j)), s) := rfl
@[simp] theorem oGt_ii : oGt (.int i) (.int j) s = some (.bl (decide (j < i)), s) := rfl
@[simp] theorem oGe_ii : oGe (.int i) (.int j) s = some (.bl (decide (j ≤ i)), s) := rfl
@[simp] theorem bInt_i : bInt [.int i] s = some (.int i, s) := rfl
@[simp] theorem bMax2_ii : bMax2 [.int i, .int j] s = some (.int (if j > i then j else i), s) := rfl
@[simp] theorem bMin2_ii : bMin2 [.int i, .int j] s = some (.int (if j < i then j else i), s) := rfl
theorem newT_ok' (h : xs.length ≤ 16000000) : newT xs s = some (.tup xs, s) := if_pos h
theorem newL_f (h : xs.length ≤ 16000000) : newL false xs s = some (.lst xs, s) := by unfold newL; rw [if_pos h]; rfl
theorem newL_t (h : xs.length ≤ 16000000) : newL true xs s = some (.obj s.length, s ++ [.lst xs]) := by unfold newL; rw [if_pos h]; rfl
@[simp] theorem newT0 : newT [] s = some (.tup [], s) := rfl
@[simp] theorem newL0 : newL false [] s = some (.lst [], s) := rfl
@[simp] theorem len_tup : bLen [.tup xs] s = some (.int xs.length, s) := rfl
@[simp] theorem len_lst : bLen [.lst xs] s = some (.int xs.length, s) := rfl
theorem fmod_r {n : Int} (h : 1 ≤ n) : 0 ≤ i.fmod n ∧ i.fmod n < n := ⟨Int.fmod_nonneg_of_pos _ (by omega), Int.fmod_lt_of_pos _ (by omega)⟩
/-- the deck: its dict at 0, what is left of it at 1 -/
theorem eqInt : oEqD (.int i) (.int j) s = some (.bl (i == j), s) := rfl
theorem neLst {n : Nat} (h : s[n]? = some (.lst xs)) : oNeD (.obj n) (.lst []) s = some (.bl (!xs.isEmpty), s) := by
  unfold oNeD dicStr
  simp only [Bool.false_eq_true, if_false]
  unfold oNe oEqB
  have : top s (.obj n) = .lst xs := by unfold top lsOf; simp only [h]
  rw [this]
  rfl
end
end Z
namespace Z
open PySem PySem.Spec L2
theorem atI_in {α : Type} {xs : List α} {r : Int} (h : 0 ≤ r ∧ r < xs.length) : ∃ v, v ∈ xs ∧ xs[r.toNat]? = some v ∧ L2.atI xs r = some v := by
  have hl : r.toNat < xs.length := by omega
  refine ⟨xs[r.toNat], List.getElem_mem hl, List.getElem?_eq_getElem hl, ?_⟩
  unfold L2.atI ixN
  rw [if_pos h.1, if_pos h.2]
  exact List.getElem?_eq_getElem hl
theorem ix_lst {xs : List PV} {r : Int} {s : S} (h : 0 ≤ r ∧ r < xs.length) : ∃ v, v ∈ xs ∧ xs[r.toNat]? = some v ∧ oIx (.lst xs) (.int r) s = some (v, s) := by
  obtain ⟨v, h1, h2, h3⟩ := atI_in h
  exact ⟨v, h1, h2, by unfold oIx; simp only [sqOf, rdOf, lsOf, h3]⟩
theorem ix_tup {xs : List PV} {r : Int} {s : S} (h : 0 ≤ r ∧ r < xs.length) : ∃ v, v ∈ xs ∧ xs[r.toNat]? = some v ∧ oIx (.tup xs) (.int r) s = some (v, s) := by
  obtain ⟨v, h1, h2, h3⟩ := atI_in h
  exact ⟨v, h1, h2, by unfold oIx; simp only [sqOf, h3]⟩
theorem ix_str {z : Str} {r : Int} {s : S} (h : 0 ≤ r ∧ r < z.cps.toList.length) (hz : z.length ≤ 16000000) : ∃ c, c ∈ z.cps.toList ∧ oIx (.str z) (.int r) s = some (.str ⟨#[c]⟩, s) := by
  obtain ⟨v, h1, h2, h3⟩ := atI_in h
  exact ⟨v, h1, by unfold oIx; simp only [h3, if_pos hz]⟩
theorem ix_tn {xs : List PV} {x : PV} {s : S} (k : Nat) (h : xs[k]? = some x) : oIx (.tup xs) (.int (k : Nat)) s = some (x, s) := by
  have hl := (List.getElem?_eq_some_iff.mp h).1
  obtain ⟨v, h1, h2, h3⟩ := ix_tup (xs := xs) (r := (k : Nat)) (s := s) (by omega)
  have : v = x := by
    rw [Int.toNat_natCast] at h2
    rw [h] at h2; exact (Option.some.inj h2).symm
  rw [← this]; exact h3
@[simp] theorem ix_t0 {x : PV} {xs : List PV} {s : S} : oIx (.tup (x :: xs)) (.int 0) s = some (x, s) := ix_tn 0 rfl
@[simp] theorem ix_t1 {x y : PV} {xs : List PV} {s : S} : oIx (.tup (x :: y :: xs)) (.int 1) s = some (y, s) := ix_tn 1 rfl
@[simp] theorem ix_t2 {x y z : PV} {xs : List PV} {s : S} : oIx (.tup (x :: y :: z :: xs)) (.int 2) s = some (z, s) := ix_tn 2 rfl
@[simp] theorem ix_t3 {x y z u : PV} {xs : List PV} {s : S} : oIx (.tup (x :: y :: z :: u :: xs)) (.int 3) s = some (u, s) := ix_tn 3 rfl
/-! ### comprehensions over what stands for ever -/
theorem lc_map {t : GM} {e : EM} {env : En} {s : S} {g : PV → PV} : ∀ (xs : List PV), (∀ x ∈ xs, ∃ e1, t x env s = some e1 ∧ e e1 s = .ok (g x) s) → lcL none t tYesM e env xs s = .ok (xs.map g) s
  | [], _ => by unfold lcL; rw [if_pos (show ckOk none _ from trivial)]; rfl
  | x :: xs, h => by
    obtain ⟨e1, h1, h2⟩ := h x (by simp)
    unfold lcL
    rw [if_pos (show ckOk none _ from trivial), h1]
    simp only [tYes_e, noX_ok, bind_ok, if_true, h2, lc_map xs fun y hy => h y (by simp [hy]), List.map_cons]
theorem lc_filter {t : GM} {c : TM} {e : EM} {env : En} {s : S} {p : PV → Bool} : ∀ (xs : List PV), (∀ x ∈ xs, ∃ e1, t x env s = some e1 ∧ c e1 s = .ok (p x) s ∧ e e1 s = .ok x s) → lcL none t c e env xs s = .ok (xs.filter p) s
  | [], _ => by unfold lcL; rw [if_pos (show ckOk none _ from trivial)]; rfl
  | x :: xs, h => by
    obtain ⟨e1, h1, h2, h3⟩ := h x (by simp)
    have ih := lc_filter (t := t) (c := c) (e := e) (env := env) (s := s) (p := p) xs fun y hy => h y (by simp [hy])
    unfold lcL
    rw [if_pos (show ckOk none _ from trivial), h1]
    simp only [h2, noX_ok, bind_ok, h3, ih]
    cases hp : p x <;> simp [hp]
/-- .. that draw: what each item is, what stays -/
theorem lc_inv {t : GM} {e : EM} {env : En} (I : S → Prop) (P : PV → Prop) : ∀ (xs : List PV) (s : S), I s → (∀ x ∈ xs, ∀ s, I s → ∃ e1 v s', t x env s = some e1 ∧ e e1 s = .ok v s' ∧ P v ∧ I s') →
    ∃ ys s', lcL none t tYesM e env xs s = .ok ys s' ∧ ys.length = xs.length ∧ (∀ y ∈ ys, P y) ∧ I s'
  | [], s, hI, _ => ⟨[], s, by unfold lcL; rw [if_pos (show ckOk none _ from trivial)], rfl, by simp, hI⟩
  | x :: xs, s, hI, h => by
    obtain ⟨e1, v, s1, h1, h2, h3, h4⟩ := h x (by simp) s hI
    obtain ⟨ys, s', g1, g2, g3, g4⟩ := lc_inv (t := t) (e := e) (env := env) I P xs s1 h4 fun y hy => h y (by simp [hy])
    refine ⟨v :: ys, s', ?_, by simp [g2], fun y hy => (List.mem_cons.mp hy).elim (fun z => z ▸ h3) (g3 y), g4⟩
    unfold lcL
    rw [if_pos (show ckOk none _ from trivial), h1]
    simp only [tYes_e, noX_ok, bind_ok, if_true, h2, g1]
/-- a loop that goes on to its end -/
theorem for_inv {t : GM} {b : SM} (I : En → S → Prop) : ∀ (xs : List PV) (env : En) (s : S), I env s → (∀ x ∈ xs, ∀ env s, I env s → ∃ e1 e2 s', t x env s = some e1 ∧ b e1 s = .ok (.nx e2) s' ∧ I e2 s') →
    ∃ env' s', forL none t b xs env s = .ok (.nx env') s' ∧ I env' s'
  | [], env, s, hI, _ => ⟨env, s, by unfold forL; rw [if_pos (show ckOk none _ from trivial)], hI⟩
  | x :: xs, env, s, hI, h => by
    obtain ⟨e1, e2, s1, h1, h2, h3⟩ := h x (by simp) env s hI
    obtain ⟨e3, s', g1, g2⟩ := for_inv (t := t) (b := b) I xs e2 s1 h3 fun y hy => h y (by simp [hy])
    refine ⟨e3, s', ?_, g2⟩
    unfold forL
    rw [if_pos (show ckOk none _ from trivial), h1]
    simp only [h2, bind_ok, g1]
theorem ups_mem {lo : Int} {n : Nat} {x : PV} (h : x ∈ ups lo n) : ∃ i : Nat, i < n ∧ x = .int (lo + i) := by
  unfold ups at h
  obtain ⟨i, hi, rfl⟩ := List.mem_map.mp h
  exact ⟨i, List.mem_range.mp hi, rfl⟩
@[simp] theorem ups_len {lo : Int} {n : Nat} : (ups lo n).length = n := by simp [ups]
/-- .. with the turn's number -/
theorem for_ix {t : GM} {b : SM} (I : Nat → En → S → Prop) : ∀ (xs : List PV) (k : Nat) (env : En) (s : S), I k env s → (∀ i x, xs[i]? = some x → ∀ env s, I (k + i) env s → ∃ e1 e2 s', t x env s = some e1 ∧ b e1 s = .ok (.nx e2) s' ∧ I (k + i + 1) e2 s') →
    ∃ env' s', forL none t b xs env s = .ok (.nx env') s' ∧ I (k + xs.length) env' s'
  | [], k, env, s, hI, _ => ⟨env, s, by unfold forL; rw [if_pos (show ckOk none _ from trivial)], hI⟩
  | x :: xs, k, env, s, hI, h => by
    obtain ⟨e1, e2, s1, h1, h2, h3⟩ := h 0 x rfl env s hI
    obtain ⟨e3, s', g1, g2⟩ := for_ix (t := t) (b := b) I xs (k + 1) e2 s1 h3 fun i y hy env s hI => by
      have := h (i + 1) y (by simpa using hy) env s (by rw [show k + (i + 1) = k + 1 + i by omega]; exact hI)
      rw [show k + (i + 1) + 1 = k + 1 + i + 1 by omega] at this
      exact this
    refine ⟨e3, s', ?_, by rw [show k + (x :: xs).length = k + 1 + xs.length by simp; omega]; exact g2⟩
    unfold forL
    rw [if_pos (show ckOk none _ from trivial), h1]
    simp only [h2, bind_ok, g1]
theorem eLc_e {mu : Bool} {it : IM} {t : GM} {c : TM} {e : EM} {vs : List Nat} {env : En} {s : S} : eLc mu it t c e vs env s = (it env s).bind fun p s1 => if p.1.length ≤ 16000000 then (lcL p.2 t c e (wipeE env vs) p.1 s1).bind fun ys s2 => lift (newL mu ys s2) else .fail := rfl
@[simp] theorem it_str' {z : Str} {s : S} : itOf (.str z) s = some (chs z, none) := rfl
@[simp] theorem it_tup' {z : List PV} {s : S} : itOf (.tup z) s = some (z, none) := rfl
@[simp] theorem it_lst' {z : List PV} {s : S} : itOf (.lst z) s = some (z, none) := rfl
@[simp] theorem it_scr' {z : List PV} {s : S} : itOf (.scr z) s = some (z, none) := rfl
theorem all_bls (f : PV → Bool) : ∀ xs : List PV, bls (xs.map fun x => .bl (f x)) = some (xs.map f)
  | [] => rfl
  | x :: xs => by simp only [List.map_cons, bls, all_bls f xs]
theorem bAll_map {f : PV → Bool} {xs : List PV} {s : S} : bAll [.lst (xs.map fun x => .bl (f x))] s = some (.bl (xs.all f), s) := by
  unfold bAll
  simp only [rdOf, lsOf, all_bls, List.all_map]
  rfl
end Z
namespace Z
open PySem PySem.Spec L2
/-- a loop that looks at each item and may go out with r -/
theorem for_test {t : GM} {b : SM} (p : PV → Bool) (r : PV) (I : En → Prop) {s : S} : ∀ (xs : List PV) (env : En), I env →
    (∀ x ∈ xs, ∀ env, I env → ∃ e1, t x env s = some e1 ∧ (p x = true → ∃ e2, b e1 s = .ok (.nx e2) s ∧ I e2) ∧ (p x = false → b e1 s = .ok (.ret r) s)) →
    (xs.all p = true → ∃ env', forL none t b xs env s = .ok (.nx env') s ∧ I env') ∧ (xs.all p = false → forL none t b xs env s = .ok (.ret r) s)
  | [], env, hI, _ => ⟨fun _ => ⟨env, by unfold forL; rw [if_pos (show ckOk none _ from trivial)], hI⟩, fun h => by cases h⟩
  | x :: xs, env, hI, h => by
    obtain ⟨e1, h1, h2, h3⟩ := h x (by simp) env hI
    cases hp : p x with
    | false =>
      refine ⟨fun q => by simp [hp] at q, fun _ => ?_⟩
      unfold forL
      rw [if_pos (show ckOk none _ from trivial), h1]
      simp only [h3 hp, bind_ok]
    | true =>
      obtain ⟨e2, g1, g2⟩ := h2 hp
      have ih := for_test p r I xs e2 g2 fun y hy => h y (by simp [hy])
      refine ⟨fun q => ?_, fun q => ?_⟩
      · obtain ⟨e3, k1, k2⟩ := ih.1 (by simpa [hp] using q)
        refine ⟨e3, ?_, k2⟩
        unfold forL
        rw [if_pos (show ckOk none _ from trivial), h1]
        simp only [g1, bind_ok, k1]
      · unfold forL
        rw [if_pos (show ckOk none _ from trivial), h1]
        simp only [g1, bind_ok, ih.2 (by simpa [hp] using q)]
end Z
namespace Z
open PySem PySem.Spec L2
/-! ### step by step -/
section
variable {env e1 : En} {s s1 : S} {v : PV} {r : SM}
theorem seq_asg {m : EM} {t : GM} (h : m env s = .ok v s1) (ht : t v env s1 = some e1) : sSeq (sAsg m t) r env s = r e1 s1 := by
  rw [sSeq_e, sAsg_e, h, bind_ok, ht, liftE_some, bind_ok, flK_nx]
theorem asg_e {m : EM} {t : GM} (h : m env s = .ok v s1) (ht : t v env s1 = some e1) : sAsg m t env s = .ok (.nx e1) s1 := by
  rw [sAsg_e, h, bind_ok, ht, liftE_some]
theorem seq_nx {m : SM} (h : m env s = .ok (.nx e1) s1) : sSeq m r env s = r e1 s1 := by rw [sSeq_e, h, bind_ok, flK_nx]
theorem seq_ret {m : SM} (h : m env s = .ok (.ret v) s1) : sSeq m r env s = .ok (.ret v) s1 := by rw [sSeq_e, h, bind_ok, flK_ret]
theorem ret_e {m : EM} (h : m env s = .ok v s1) : sRet m env s = .ok (.ret v) s1 := by rw [sRet_e, h, bind_ok]
theorem expr_e {m : EM} (h : m env s = .ok v s1) : sExpr m env s = .ok (.nx env) s1 := by rw [sExpr_e, h, bind_ok]
theorem if_t {t : TM} {a b : SM} (h : t env s = .ok true s1) : sIf t a b env s = a env s1 := by rw [sIf_e, h, bind_ok, if_pos rfl]
theorem if_f {t : TM} {a b : SM} (h : t env s = .ok false s1) : sIf t a b env s = b env s1 := by rw [sIf_e, h, bind_ok, if_neg Bool.false_ne_true]
theorem call_e {f : FM} {n : AM} {vs : List PV} {s2 : S} (h : n env s = .ok vs s1) (hf : f vs s1 = .ok v s2) : eCall f n env s = .ok v s2 := by rw [eCall_e, h, bind_ok, hf]
theorem cons_e {m : EM} {n : AM} {vs : List PV} {s2 : S} (h : m env s = .ok v s1) (hn : n env s1 = .ok vs s2) : aCons m n env s = .ok (v :: vs) s2 := by rw [aCons_e, h, bind_ok, hn, bind_ok]
theorem ls_e {f : OL} {n : AM} {vs : List PV} {s2 : S} (h : n env s = .ok vs s1) (hf : f vs s1 = some (v, s2)) : eLs f n env s = .ok v s2 := by rw [eLs_e, h, bind_ok, hf, lift_some]
theorem op_e {f : O2} {m n : EM} {x y : PV} {s2 s3 : S} (h : m env s = .ok x s1) (hn : n env s1 = .ok y s2) (hf : f x y s2 = some (v, s3)) : eOp f m n env s = .ok v s3 := by rw [eOp_e, h, bind_ok, hn, bind_ok, hf, lift_some]
theorem par_e {i j : Nat} {n : AM} {a b : PV} (h : n env s = .ok [a, b] s1) : sPar i j n env s = .ok (.nx ((env.set i (some a)).set j (some b))) s1 := by rw [sPar_e, h, bind_ok]
theorem for_e {it : IM} {t : GM} {b : SM} {p : List PV × Ck} (h : it env s = .ok p s1) : sFor it t b env s = forL p.2 t b p.1 env s1 := by rw [sFor_e, h, bind_ok]
theorem mt_e {T : Kn} {f : OM} {m : EM} {n : AM} {x : PV} {vs : List PV} {s2 s3 : S} (h : m env s = .ok x s1) (hT : isTy T x s1 = true) (hn : n env s1 = .ok vs s2) (hf : f x vs s2 = some (v, s3)) : eMt T f m n env s = .ok v s3 := by rw [eMt_e, h, bind_ok, if_pos hT, hn, bind_ok, hf, lift_some]
theorem fn_e {n : Nat} {N : List Str} {m : SM} {vs : List PV} (h : vs.length = n) {env : En} (he : startE N vs = env) (hm : m env s = .ok (.ret v) s1) : fnM n N m vs s = .ok v s1 := by rw [fnM_e h, he, hm, bind_ok, flEnd_ret]
end
end Z

set_option Elab.async false
set_option linter.all false
set_option maxRecDepth 100000
set_option maxHeartbeats 4000000
/-! P2: small data: what its repr is. -/
namespace Z
open PySem PySem.Spec L2

def smlB (L : Nat) (z : Str) : Prop := z.length ≤ L ∧ ∀ c ∈ z.cps.toList, c < 128
abbrev sml : Str → Prop := smlB 100
def sintB (B : Int) (i : Int) : Prop := -B ≤ i ∧ i ≤ B
abbrev sint : Int → Prop := sintB 10000000000000000000000000000000000000000
/-- data of n levels at most: its ints up to B, its texts up to L, its rows up to M -/
def okP (B : Int) (L M : Nat) : Nat → PV → Prop
  | _, .non => True
  | _, .bl _ => True
  | _, .int i => sintB B i
  | _, .str z => smlB L z
  | n + 1, .tup xs => xs.length ≤ M ∧ ∀ x ∈ xs, okP B L M n x
  | n + 1, .lst xs => xs.length ≤ M ∧ ∀ x ∈ xs, okP B L M n x
  | _, .dic [] => True
  | _, _ => False
abbrev ok : Nat → PV → Prop := okP 10000000000000000000000000000000000000000 100 1000
abbrev tiny : Nat → PV → Prop := okP 20 20 20
mutual
def cnt : PV → Nat
  | .tup xs => 1 + cnts xs
  | .lst xs => 1 + cnts xs
  | _ => 1
def cnts : List PV → Nat
  | [] => 0
  | x :: xs => cnt x + cnts xs
end
@[simp] theorem cnt_tup {xs : List PV} : cnt (.tup xs) = 1 + cnts xs := by rw [cnt]
@[simp] theorem cnt_lst {xs : List PV} : cnt (.lst xs) = 1 + cnts xs := by rw [cnt]
@[simp] theorem cnt_int {i : Int} : cnt (.int i) = 1 := by rw [cnt] <;> simp
@[simp] theorem cnt_str {i : Str} : cnt (.str i) = 1 := by rw [cnt] <;> simp
@[simp] theorem cnt_bl {i : Bool} : cnt (.bl i) = 1 := by rw [cnt] <;> simp
@[simp] theorem cnt_non : cnt .non = 1 := by rw [cnt] <;> simp
@[simp] theorem cnt_dic {k} : cnt (.dic k) = 1 := by rw [cnt] <;> simp
@[simp] theorem cnts_nil : cnts [] = 0 := by rw [cnts]
@[simp] theorem cnts_cons {x : PV} {xs : List PV} : cnts (x :: xs) = cnt x + cnts xs := by rw [cnts]
@[simp] theorem cnts_app {xs ys : List PV} : cnts (xs ++ ys) = cnts xs + cnts ys := by
  induction xs with
  | nil => simp
  | cons x xs ih => simp [ih, Nat.add_assoc]
theorem cnts_mem {x : PV} {xs : List PV} (h : x ∈ xs) : cnt x ≤ cnts xs := by
  induction xs with
  | nil => cases h
  | cons y ys ih =>
    rcases List.mem_cons.mp h with rfl | h
    · simp
    · have := ih h; simp; omega
theorem cnts_take (xs : List PV) (n : Nat) : cnts (xs.take n) ≤ cnts xs := by
  induction xs generalizing n with
  | nil => simp
  | cons x xs ih => cases n with | zero => simp | succ n => have := ih n; simp; omega
theorem cnts_drop (xs : List PV) (n : Nat) : cnts (xs.drop n) ≤ cnts xs := by
  induction xs generalizing n with
  | nil => simp
  | cons x xs ih => cases n with | zero => simp | succ n => have := ih n; simp; omega
theorem cnts_rev (xs : List PV) : cnts xs.reverse = cnts xs := by
  induction xs with
  | nil => simp
  | cons x xs ih => simp [ih, Nat.add_comm]
theorem cnts_cut (xs : List PV) (lo hi : Option Int) : cnts (cut xs lo hi) ≤ cnts xs := Nat.le_trans (cnts_take _ _) (cnts_drop _ _)
theorem cut_mem {α : Type} {x : α} {xs : List α} {lo hi : Option Int} (h : x ∈ cut xs lo hi) : x ∈ xs := List.mem_of_mem_drop (List.mem_of_mem_take h)
theorem cut_len {α : Type} (xs : List α) (lo hi : Option Int) : (cut xs lo hi).length ≤ xs.length := by
  unfold cut; rw [List.length_take, List.length_drop]; omega
theorem ok_up {B B' : Int} {L M L' M' : Nat} (hB : B ≤ B') (hL : L ≤ L') (hM : M ≤ M') : ∀ {n : Nat} {x : PV}, okP B L M n x → ∀ {m : Nat}, n ≤ m → okP B' L' M' m x
  | n, .non, _, m, _ => by unfold okP; trivial
  | n, .bl _, _, m, _ => by unfold okP; trivial
  | n, .int i, h, m, _ => by unfold okP sintB at *; omega
  | n, .str i, h, m, _ => by unfold okP smlB at *; exact ⟨by omega, h.2⟩
  | n, .dic [], h, m, _ => by unfold okP; trivial
  | n, .dic (_ :: _), h, m, _ => by unfold okP at h; exact h.elim
  | 0, .tup xs, h, m, _ => by unfold okP at h; exact h.elim
  | 0, .lst xs, h, m, _ => by unfold okP at h; exact h.elim
  | n, .scr xs, h, m, _ => by unfold okP at h; exact h.elim
  | n, .obj xs, h, m, _ => by unfold okP at h; exact h.elim
  | n + 1, .tup xs, h, m, hm => by
    obtain ⟨m, rfl⟩ : ∃ k, m = k + 1 := ⟨m - 1, by omega⟩
    exact ⟨Nat.le_trans h.1 hM, fun x hx => ok_up hB hL hM (h.2 x hx) (by omega)⟩
  | n + 1, .lst xs, h, m, hm => by
    obtain ⟨m, rfl⟩ : ∃ k, m = k + 1 := ⟨m - 1, by omega⟩
    exact ⟨Nat.le_trans h.1 hM, fun x hx => ok_up hB hL hM (h.2 x hx) (by omega)⟩
theorem ok_lev {B : Int} {L M n m : Nat} {x : PV} (h : okP B L M n x) (hm : n ≤ m) : okP B L M m x := ok_up (Int.le_refl _) (Nat.le_refl _) (Nat.le_refl _) h hm
theorem ok_of_tiny {n m : Nat} {x : PV} (h : tiny n x) (hm : n ≤ m) : ok m x := ok_up (by decide) (by decide) (by decide) h hm
theorem ok_tup {B : Int} {L M n : Nat} {xs : List PV} (h : okP B L M n (.tup xs)) : ∃ m, n = m + 1 ∧ xs.length ≤ M ∧ ∀ x ∈ xs, okP B L M m x := by
  cases n with
  | zero => unfold okP at h; exact h.elim
  | succ m => exact ⟨m, rfl, h.1, h.2⟩
theorem join_le (sep : Str) : ∀ ts : List Str, (Str.join sep ts).length ≤ (ts.map fun t : Str => t.length + sep.length).sum
  | [] => Nat.zero_le _
  | [x] => by show x.length ≤ _; simp
  | x :: y :: r => by
    show (x ++ sep ++ Str.join sep (y :: r)).length ≤ _
    have := join_le sep (y :: r)
    rw [strLen_append, strLen_append]
    simp only [List.map_cons, List.sum_cons] at this ⊢
    omega
theorem textFrom_le : ∀ (ts : List Str) (k : Nat) (z : Str), (textFrom k z ts).length ≤ z.length + (ts.map fun t : Str => t.length + 2).sum
  | [], k, z => by show z.length ≤ _; simp
  | t :: ts, k, z => by
    have h1 := textFrom_le ts (k + 1) (z ++ (if k > 0 then ", " else "" : String) ++ t)
    have h2 : (z ++ (if k > 0 then ", " else "" : String) ++ t).length ≤ z.length + 2 + t.length := by
      rw [strLen_append, strLen_append]
      have e : (Str.ofString (if k > 0 then ", " else "")).length ≤ 2 := by split <;> decide
      omega
    simp only [List.map_cons, List.sum_cons]
    exact Nat.le_trans h1 (by omega)
theorem listText_le (ts : List Str) : (listText ts).length ≤ (ts.map fun t : Str => t.length + 2).sum + 2 := by
  show (textFrom 0 "[" ts ++ "]").length ≤ _
  have := textFrom_le ts 0 "["
  rw [strLen_append]
  have e1 : ("[" : Str).length = 1 := by decide
  have e2 : ("]" : Str).length = 1 := by decide
  omega
theorem tupleText_le (ts : List Str) : (tupleText ts).length ≤ (ts.map fun t : Str => t.length + 2).sum + 3 := by
  unfold tupleText
  rw [strLen_append, strLen_append]
  have := join_le ", " ts
  have e1 : ("(" : Str).length = 1 := by decide
  have e2 : (", " : Str).length = 2 := by decide
  have e3 : (Str.ofString (if ts.length == 1 then ",)" else ")")).length ≤ 2 := by split <;> decide
  rw [e2] at this
  omega
/-- what is said of a value's data -/
def Told (n c : Nat) (d : PyData) : Prop := d.showable = true ∧ d.depth ≤ n + 1 ∧ d.shown.length + 50 ≤ 2000 * c
theorem toldAll {n : Nat} : ∀ (xs : List PV), (∀ x ∈ xs, ∃ d, toD x = some d ∧ Told n (cnt x) d) → ∃ ds, toDs xs = some ds ∧ PyData.showableAll ds = true ∧ PyData.depthAll ds ≤ n + 1 ∧ ((PyData.shownAll ds).map fun t : Str => t.length + 2).sum ≤ 2000 * cnts xs
  | [], _ => ⟨[], by unfold toDs; rfl, rfl, by simp [PyData.depthAll], by simp [PyData.shownAll]⟩
  | x :: xs, h => by
    obtain ⟨d, e, h1, h2, h3⟩ := h x (by simp)
    obtain ⟨ds, e', g1, g2, g3⟩ := toldAll xs fun y hy => h y (by simp [hy])
    refine ⟨d :: ds, by unfold toDs; rw [e, e'], by simp only [PyData.showableAll, h1, g1, Bool.and_self], by simp only [PyData.depthAll]; omega, ?_⟩
    simp only [PyData.shownAll, List.map_cons, List.sum_cons, cnts_cons]
    omega
theorem told : ∀ (n : Nat) (x : PV), ok n x → ∃ d, toD x = some d ∧ Told n (cnt x) d := by
  have leaf : ∀ (n : Nat) (x : PV), ok n x → (∀ xs, x ≠ .tup xs) → (∀ xs, x ≠ .lst xs) → ∃ d, toD x = some d ∧ Told n (cnt x) d := by
    intro n x h h1 h2
    cases x with
    | non => exact ⟨.none, by unfold toD; rfl, rfl, by simp [PyData.depth], by simp [PyData.shown]; decide⟩
    | bl b => exact ⟨.bool b, by unfold toD; rfl, rfl, by simp [PyData.depth], by cases b <;> simp [PyData.shown] <;> decide⟩
    | int i =>
      have hi : sint i := by unfold okP at h; exact h
      have hl : i.natAbs.log2 < 1920 := by
        by_cases z : i.natAbs = 0
        · rw [z]; decide
        · exact (Nat.log2_lt z).mpr (Nat.lt_of_lt_of_le (show i.natAbs < 2 ^ 200 by unfold sint sintB at hi; omega) (Nat.pow_le_pow_right (by decide) (by decide)))
      refine ⟨.int i, by unfold toD; rfl, by simp only [PyData.showable, hl, decide_true], by simp [PyData.depth], ?_⟩
      have := PyProof.Rows.int_text_len_1921 hl
      simp only [PyData.shown, cnt_int]
      exact Nat.le_trans (Nat.add_le_add_right this 50) (by decide)
    | str z =>
      have hz : sml z := by unfold okP at h; exact h
      refine ⟨.str z, by unfold toD; rfl, rfl, by simp [PyData.depth], ?_⟩
      have := PySem.StrLaws.reprText_len z fun c hc => Nat.lt_of_lt_of_le (hz.2 c hc) (by decide)
      have := hz.1
      simp only [PyData.shown, cnt_str]
      omega
    | tup xs => exact absurd rfl (h1 xs)
    | lst xs => exact absurd rfl (h2 xs)
    | scr xs => unfold okP at h; exact h.elim
    | dic kvs =>
      cases kvs with
      | nil => exact ⟨.dict [], by unfold toD toDk; rfl, rfl, by simp [PyData.depth, PyData.depthKv], by simp [PyData.shown, PyData.shownKv]; decide⟩
      | cons _ _ => unfold okP at h; exact h.elim
    | obj k => unfold okP at h; exact h.elim
  intro n
  induction n with
  | zero => exact fun x h => leaf 0 x h (fun xs e => by subst e; unfold okP at h; exact h) fun xs e => by subst e; unfold okP at h; exact h
  | succ n ih =>
    intro x h
    by_cases h1 : ∃ xs, x = .tup xs
    · obtain ⟨xs, rfl⟩ := h1
      obtain ⟨ds, e, g1, g2, g3⟩ := toldAll xs fun y hy => ih y (h.2 y hy)
      refine ⟨.tuple ds, by unfold toD; rw [e]; rfl, by simpa only [PyData.showable] using g1, by simp only [PyData.depth]; omega, ?_⟩
      have := tupleText_le (PyData.shownAll ds)
      simp only [PyData.shown, cnt_tup]
      omega
    · by_cases h2 : ∃ xs, x = .lst xs
      · obtain ⟨xs, rfl⟩ := h2
        obtain ⟨ds, e, g1, g2, g3⟩ := toldAll xs fun y hy => ih y (h.2 y hy)
        refine ⟨.list ds, by unfold toD; rw [e]; rfl, by simpa only [PyData.showable] using g1, by simp only [PyData.depth]; omega, ?_⟩
        have := listText_le (PyData.shownAll ds)
        simp only [PyData.shown, cnt_lst]
        omega
      · exact leaf (n + 1) x h (fun xs e => h1 ⟨xs, e⟩) fun xs e => h2 ⟨xs, e⟩
mutual
theorem ok_depth {B : Int} {L M : Nat} : ∀ {n : Nat} (x : PV), okP B L M n x → x.depth ≤ n
  | n, .non, _ => by simp [PV.depth]
  | n, .bl _, _ => by simp [PV.depth]
  | n, .int _, _ => by simp [PV.depth]
  | n, .str _, _ => by simp [PV.depth]
  | n, .dic _, _ => by simp [PV.depth]
  | n, .scr _, _ => by simp [PV.depth]
  | n, .obj _, _ => by simp [PV.depth]
  | 0, .tup xs, h => by unfold okP at h; exact h.elim
  | 0, .lst xs, h => by unfold okP at h; exact h.elim
  | n + 1, .tup xs, h => by simp only [PV.depth]; have := oks_depth xs h.2; omega
  | n + 1, .lst xs, h => by simp only [PV.depth]; have := oks_depth xs h.2; omega
theorem oks_depth {B : Int} {L M : Nat} : ∀ {n : Nat} (xs : List PV), (∀ x ∈ xs, okP B L M n x) → depths xs ≤ n
  | n, [], _ => by simp [depths]
  | n, x :: xs, h => by
    have h1 := ok_depth x (h x (by simp))
    have h2 := oks_depth xs fun y hy => h y (by simp [hy])
    simp only [depths]; omega
end
/-- repr of small data is a text of tame length -/
theorem repr_ok {n : Nat} {x : PV} {s : S} (h : ok n x) (hn : n ≤ 50) (hc : cnt x ≤ 7000) : ∃ z : Str, bRepr [x] s = some (.str z, s) ∧ z.length ≤ 16000000 := by
  obtain ⟨d, e, h1, h2, h3⟩ := told n x h
  have ht : top s x = x := by
    cases x with
    | obj k => unfold okP at h; cases n <;> exact h.elim
    | _ => rfl
  refine ⟨d.shown, ?_, by omega⟩
  unfold bRepr
  simp only [ht, e]
  unfold shows
  rw [if_pos ⟨h1, by omega, by omega⟩]
  rfl
end Z

set_option Elab.async false
set_option linter.all false
set_option maxRecDepth 100000
set_option maxHeartbeats 4000000
/-! k55: the two readings of a tape machine agree. -/
namespace Lk55
open PySem PySem.Spec L2 Z

def intB : PV → Bool
  | .int _ => true
  | _ => false
theorem is_integer_eq {n : Nat} {x : PV} {s : S} (h : ok n x) : f_is_integer [x] s = .ok (.bl (intB x)) s := by
  cases x with
  | obj k => unfold okP at h; cases n <;> exact h.elim
  | _ => rfl
def lenB (k : Int) : PV → Bool
  | .tup xs => (xs.length : Int) == k
  | _ => false
theorem is_tuple_eq {n : Nat} {x : PV} {k : Int} {s : S} (h : ok n x) : f_is_tuple [x, .int k] s = .ok (.bl (lenB k x)) s := by
  cases x with
  | obj k => unfold okP at h; cases n <;> exact h.elim
  | _ => rfl
theorem law_is_tuple_eq {n : Nat} {x : PV} {k : Int} {s : S} (h : ok n x) : f__law_is_tuple [x, .int k] s = .ok (.bl (lenB k x)) s := by
  cases x with
  | obj k => unfold okP at h; cases n <;> exact h.elim
  | _ => rfl
theorem is_from_eq {n : Nat} {x : PV} {k : Int} {s : S} (h : ok n x) : f_is_from [x, .int k] s = .ok (.bl (match x with | .int i => decide (k ≤ i) | _ => false)) s := by
  cases x with
  | obj k => unfold okP at h; cases n <;> exact h.elim
  | _ => rfl
def rngB (lo hi : Int) : PV → Bool
  | .int i => decide (lo ≤ i) && decide (i ≤ hi)
  | _ => false
theorem law_is_int_eq {n : Nat} {x : PV} {lo hi : Int} {s : S} (h : ok n x) : f__law_is_int [x, .int lo, .int hi] s = .ok (.bl (rngB lo hi x)) s := by
  cases x with
  | obj k => unfold okP at h; cases n <;> exact h.elim
  | int i =>
    unfold f__law_is_int
    rw [fnM_e (by rfl)]
    unfold b__law_is_int
    simp [startE, uIsi, kn, isi, rngB]
    by_cases h1 : lo ≤ i <;> simp [h1]
  | _ => rfl
/-! ### tags -/
def inSm : PV → Bool
  | .str a => decide (a.cps.getD 0 0 ∈ ("abcdefghijklmnopqrstuvwxyz" : Str).cps.toList)
  | _ => false
theorem chs_sm {z : Str} {x : PV} {s : S} (h : x ∈ chs z) : oIn x c_SMALL s = some (.bl (inSm x), s) ∧ oNotIn x (.str "abcdefghijklmnopqrstuvwxyz") s = some (.bl (!inSm x), s) := by
  obtain ⟨c, _, rfl⟩ := List.mem_map.mp h
  exact ⟨rfl, rfl⟩
def tagB : PV → Bool
  | .str z => decide ((1 : Int) ≤ z.length) && (decide ((z.length : Int) ≤ 8) && (chs z).all inSm)
  | _ => false
theorem chs_len (z : Str) : (chs z).length = z.length := by simp [chs]; rfl
theorem is_tag_eq {n : Nat} {x : PV} {s : S} (h : ok n x) : f_is_tag_value [x] s = .ok (.bl (tagB x)) s := by
  cases x with
  | obj k => unfold okP at h; cases n <;> exact h.elim
  | str z =>
    have hz : sml z := by unfold okP at h; exact h
    have hl : z.length ≤ 16000000 := by have := hz.1; omega
    unfold f_is_tag_value
    rw [fnM_e (by rfl)]
    unfold b_is_tag_value
    have lb : bLen [.str z] s = some (.int z.length, s) := if_pos hl
    have lc := lc_map (t := mName 1) (e := eOp oIn (eV 1) (eC c_SMALL)) (env := [some (.str z), none]) (s := s) (g := fun x => .bl (inSm x)) (chs z) fun x hx => ⟨_, rfl, by simp [(chs_sm hx).1]⟩
    simp [startE, uIsi, kn, isi, tagB, lb, c_LONGEST_TAG, eLc_e, wipeE, chs_len, hl]
    by_cases h1 : (1 : Int) ≤ z.length <;> by_cases h2 : (z.length : Int) ≤ 8 <;> simp [h1, h2, eLc_e, wipeE, lc, newL_f, chs_len, hl, bAll_map]
  | _ => rfl
theorem eq_nil {xs : List PV} {s : S} : oEqD (.lst xs) (.lst []) s = some (.bl xs.isEmpty, s) := by
  cases xs <;> rfl
theorem ne_nil {xs : List PV} {s : S} : oNeD (.lst xs) (.lst []) s = some (.bl (!xs.isEmpty), s) := by
  cases xs <;> rfl
theorem filt_empty (p : PV → Bool) (xs : List PV) : (xs.filter fun x => !p x).isEmpty = xs.all p := by
  induction xs with
  | nil => rfl
  | cons x xs ih => cases h : p x <;> simp [h, ih]
theorem law_is_tag_eq {n : Nat} {x : PV} {s : S} (h : ok n x) : f__law_is_tag [x] s = .ok (.bl (tagB x)) s := by
  cases x with
  | obj k => unfold okP at h; cases n <;> exact h.elim
  | str z =>
    have hz : sml z := by unfold okP at h; exact h
    have hl : z.length ≤ 16000000 := by have := hz.1; omega
    unfold f__law_is_tag
    rw [fnM_e (by rfl)]
    unfold b__law_is_tag
    have lb : bLen [.str z] s = some (.int z.length, s) := if_pos hl
    have lc := lc_filter (t := mName 1) (c := tB (eOp oNotIn (eV 1) (eC (.str "abcdefghijklmnopqrstuvwxyz")))) (e := eV 1) (env := [some (.str z), none]) (s := s) (p := fun x => !inSm x) (chs z) fun x hx => ⟨_, rfl, by simp [(chs_sm hx).2], by simp⟩
    have hf : ((chs z).filter fun x => !inSm x).length ≤ 16000000 := Nat.le_trans (List.length_filter_le _ _) (by rw [chs_len]; exact hl)
    simp [startE, uIsi, kn, isi, tagB, lb, eLc_e, wipeE, chs_len, hl]
    by_cases h1 : (1 : Int) ≤ z.length <;> by_cases h2 : (z.length : Int) ≤ 8 <;> simp [h1, h2, eLc_e, wipeE, chs_len, hl, lc, newL_f, hf, eq_nil, filt_empty]
  | _ => rfl
/-! ### rules, states -/
def movB : PV → Bool
  | .int i => decide (-1 ≤ i) && decide (i ≤ 1)
  | _ => false
def ruleB (signs n : Int) : PV → Bool
  | .tup [a, b, c] => rngB 0 (n + 1) a && (rngB 0 (signs - 1) b && rngB (-1) 1 c)
  | _ => false
theorem in_moves {i : Int} {s : S} : oIn (.int i) c_MOVES s = some (.bl (rngB (-1) 1 (.int i)), s) := by
  have e : oIn (.int i) c_MOVES s = some (.bl (((-1 : Int) == i) || ((0 : Int) == i || ((1 : Int) == i || false))), s) := rfl
  rw [e]
  have : (((-1 : Int) == i) || ((0 : Int) == i || ((1 : Int) == i || false))) = rngB (-1) 1 (.int i) := by
    unfold rngB
    by_cases h1 : -1 ≤ i <;> by_cases h2 : i ≤ 1 <;> simp [h1, h2] <;> omega
  rw [this]
theorem is_rule_eq {n : Nat} {x : PV} {signs k : Int} {s : S} (h : ok n x) : f_is_rule [x, .int signs, .int k] s = .ok (.bl (ruleB signs k x)) s := by
  unfold f_is_rule
  rw [fnM_e (by rfl)]
  unfold b_is_rule
  simp only [startE, List.map_cons, List.map_nil, List.length_cons, List.length_nil, Nat.reduceAdd, Nat.reduceSub, List.replicate, List.cons_append, List.nil_append]
  by_cases h3 : lenB 3 x = true
  · cases x <;> try (simp [lenB] at h3; done)
    rename_i xs
    have hl : xs.length = 3 := by simp [lenB] at h3; omega
    obtain ⟨a, b, c, rfl⟩ : ∃ a b c, xs = [a, b, c] := by
      match xs, hl with
      | [a, b, c], _ => exact ⟨a, b, c, rfl⟩
    obtain ⟨m, rfl⟩ : ∃ m, n = m + 1 := by cases n with | zero => unfold okP at h; exact h.elim | succ m => exact ⟨m, rfl⟩
    have ha := h.2 a (by simp)
    have hb := h.2 b (by simp)
    have hc := h.2 c (by simp)
    have lc := lc_map (t := mName 3) (e := eCall f_is_integer (aCons (eV 3) aNil)) (env := [some (.tup [a, b, c]), some (.int signs), some (.int k), none]) (s := s) (g := fun x => .bl (intB x)) [a, b, c] fun x hx => ⟨_, rfl, by simp [is_integer_eq (h.2 x hx)]⟩
    simp [is_tuple_eq h, h3, eLc_e, wipeE, lc, newL_f]
    have ba := bAll_map (f := intB) (xs := [a, b, c]) (s := s)
    simp at ba
    simp [ba]
    by_cases hi : (intB a && (intB b && intB c)) = true
    · cases a <;> simp [intB] at hi
      cases b <;> simp [intB] at hi
      cases c <;> simp [intB] at hi
      rename_i i j l
      simp [intB, in_moves, ruleB]
      have r0 : rngB 0 (k + 1) (.int i) = (decide (0 ≤ i) && decide (i ≤ k + 1)) := rfl
      have r1 : rngB 0 (signs - 1) (.int j) = (decide (0 ≤ j) && decide (j < signs)) := by
        show (decide (0 ≤ j) && decide (j ≤ signs - 1)) = _
        rw [show decide (j ≤ signs - 1) = decide (j < signs) from decide_eq_decide.mpr (by omega)]
      rw [r0, r1]
      by_cases g1 : 0 ≤ i <;> by_cases g2 : i ≤ k + 1 <;> by_cases g3 : 0 ≤ j <;> by_cases g4 : j < signs <;> simp [g1, g2, g3, g4]
    · have hr : ruleB signs k (.tup [a, b, c]) = false := by
        cases a <;> cases b <;> cases c <;> simp [intB, ruleB, rngB] at hi ⊢
      have hi' : (intB a && (intB b && intB c)) = false := by simpa using hi
      rw [hr]
      have hd : intB a = false ∨ intB b = false ∨ intB c = false := by simpa only [Bool.and_eq_false_iff] using hi'
      rw [if_pos hd]; rfl
  · have hr : ruleB signs k x = false := by
      cases x <;> simp [ruleB] 
      rename_i xs
      match xs with
      | [] => rfl
      | [_] => rfl
      | [_, _] => rfl
      | [_, _, _] => simp [lenB] at h3
      | _ :: _ :: _ :: _ :: _ => rfl
    simp [is_tuple_eq h, h3, hr]
def stateB (signs n : Int) : PV → Bool
  | .tup rs => (rs.length : Int) == signs && rs.all (ruleB signs n)
  | _ => false
theorem is_state_eq {n : Nat} {x : PV} {signs k : Int} {s : S} (h : ok n x) : f_is_state [x, .int signs, .int k] s = .ok (.bl (stateB signs k x)) s := by
  unfold f_is_state
  rw [fnM_e (by rfl)]
  unfold b_is_state
  simp only [startE, List.map_cons, List.map_nil, List.length_cons, List.length_nil, Nat.reduceAdd, Nat.reduceSub, List.replicate, List.cons_append, List.nil_append]
  by_cases h3 : lenB signs x = true
  · cases x <;> try (simp [lenB] at h3; done)
    rename_i xs
    have h3' : ((xs.length : Int) == signs) = true := h3
    obtain ⟨m, rfl⟩ : ∃ m, n = m + 1 := by cases n with | zero => unfold okP at h; exact h.elim | succ m => exact ⟨m, rfl⟩
    have hl : xs.length ≤ 16000000 := Nat.le_trans h.1 (by decide)
    have lc := lc_map (t := mName 3) (e := eCall f_is_rule (aCons (eV 3) (aCons (eV 1) (aCons (eV 2) aNil)))) (env := [some (.tup xs), some (.int signs), some (.int k), none]) (s := s) (g := fun x => .bl (ruleB signs k x)) xs fun x hx => ⟨_, rfl, by simp [is_rule_eq (h.2 x hx)]⟩
    simp [is_tuple_eq h, h3, eLc_e, wipeE, lc, newL_f, hl, bAll_map, stateB, h3']
  · have h3' : lenB signs x = false := by simpa using h3
    have hr : stateB signs k x = false := by
      cases x <;> simp [stateB]
      rename_i xs
      simp [lenB] at h3'
      exact fun z => absurd z h3'
    simp [is_tuple_eq h, h3', hr]
/-! ### tags -/
def uniqB (tags : List PV) : Bool := match keysOf tags with
  | some ks => (((once [] ks).length : Nat) : Int) == (tags.length : Int)
  | none => false
theorem keys_tags : ∀ {tags : List PV}, tags.all tagB = true → ∃ ks, keysOf tags = some ks
  | [], _ => ⟨[], rfl⟩
  | x :: xs, h => by
    rw [List.all_cons, Bool.and_eq_true] at h
    obtain ⟨ks, e⟩ := keys_tags h.2
    cases x <;> try (simp [tagB] at h; done)
    rename_i z
    exact ⟨.inr z :: ks, by unfold keysOf kP; simp only [e]⟩
theorem len_set {tags : List PV} {s : S} (h : tags.all tagB = true) (hl : tags.length < 4000) : ∃ m : Nat, uLenSet (.tup tags) s = some (.int m, s) ∧ ((m : Int) == (tags.length : Int)) = uniqB tags := by
  obtain ⟨ks, e⟩ := keys_tags h
  refine ⟨(once [] ks).length, ?_, by unfold uniqB; rw [e]⟩
  unfold uLenSet
  simp only [sqOf, if_pos hl, e]
  rfl
def tagsB : PV → Bool
  | .tup tags => tags.all tagB && uniqB tags
  | _ => false
theorem ok_s {n : Nat} {xs : List PV} (h : ok n (.tup xs)) : ∃ m, n = m + 1 ∧ xs.length ≤ 1000 ∧ ∀ x ∈ xs, ok m x := by
  cases n with
  | zero => unfold okP at h; exact h.elim
  | succ m => exact ⟨m, rfl, h.1, h.2⟩
theorem unlike_eq {n : Nat} {x : PV} {s : S} (h : ok n x) : f_are_unlike_tags [x] s = .ok (.bl (tagsB x)) s := by
  cases x with
  | obj k => unfold okP at h; cases n <;> exact h.elim
  | tup xs =>
    unfold f_are_unlike_tags
    rw [fnM_e (by rfl)]
    unfold b_are_unlike_tags
    simp only [startE, List.map_cons, List.map_nil, List.length_cons, List.length_nil, Nat.reduceAdd, Nat.reduceSub, List.replicate, List.cons_append, List.nil_append]
    obtain ⟨m, rfl, hl, hx⟩ := ok_s h
    have hl' : xs.length ≤ 16000000 := by omega
    have lc := lc_map (t := mName 1) (e := eCall f_is_tag_value (aCons (eV 1) aNil)) (env := [some (.tup xs), none]) (s := s) (g := fun x => .bl (tagB x)) xs fun x hm => ⟨_, rfl, by simp [is_tag_eq (hx x hm)]⟩
    simp [uIsi, kn, isi, eLc_e, wipeE, lc, newL_f, hl', bAll_map]
    by_cases ht : xs.all tagB = true
    · obtain ⟨k, e, eu⟩ := len_set (s := s) ht (by omega)
      simp [ht, e, eqInt, eu, tagsB]
    · have ht' : xs.all tagB = false := by simpa using ht
      simp [ht', tagsB]
  | _ => rfl
/-! ### the whole -/
def isT : PV → Bool
  | .str z => z == "tape"
  | _ => false
theorem ne_tape {n : Nat} {x : PV} {s : S} (h : ok n x) (hn : n ≤ 60) : oNeD x (.str "tape") s = some (.bl (!isT x), s) := by
  cases x with
  | obj k => unfold okP at h; cases n <;> exact h.elim
  | scr k => unfold okP at h; cases n <;> exact h.elim
  | dic k => rfl
  | tup xs =>
    have hd := ok_depth _ h
    have hd' : (PV.tup xs).depth ≤ 60 := by omega
    unfold oNeD dicStr oNe oEqB
    simp only [Bool.false_eq_true, if_false, show top s (.tup xs) = .tup xs from rfl, show top s (.str "tape") = .str "tape" from rfl, if_pos hd']
    rfl
  | lst xs =>
    have hd := ok_depth _ h
    have hd' : (PV.lst xs).depth ≤ 60 := by omega
    unfold oNeD dicStr oNe oEqB
    simp only [Bool.false_eq_true, if_false, show top s (.lst xs) = .lst xs from rfl, show top s (.str "tape") = .str "tape" from rfl, if_pos hd']
    rfl
  | _ => rfl
theorem eq_t0 {xs : List PV} {s : S} : oEqD (.tup xs) (.tup []) s = some (.bl xs.isEmpty, s) := by cases xs <;> rfl
theorem ne_t0 {xs : List PV} {s : S} : oNeD (.tup xs) (.tup []) s = some (.bl (!xs.isEmpty), s) := by cases xs <;> rfl
def fromB (k : Int) : PV → Bool
  | .int i => decide (k ≤ i)
  | _ => false
def tapeB : PV → Bool
  | .tup [a, .tup tags, .int signs, .tup states] => isT a && (tagsB (.tup tags) && (!decide (signs < (tags.length : Int) + 2) && (!states.isEmpty && states.all (stateB signs states.length))))
  | _ => false
theorem not_four {xs : List PV} (h : xs.length ≠ 4) : tapeB (.tup xs) = false := by
  unfold tapeB
  split
  · rename_i e
    cases e
    exact absurd rfl h
  · rfl
theorem is_tape_value_eq {n : Nat} {x : PV} {s : S} (h : ok n x) (hn : n ≤ 60) : f_is_tape_value [x] s = .ok (.bl (tapeB x)) s := by
  unfold f_is_tape_value
  rw [fnM_e (by rfl)]
  unfold b_is_tape_value
  simp only [startE, List.map_cons, List.map_nil, List.length_cons, List.length_nil, Nat.reduceAdd, Nat.reduceSub, List.replicate, List.cons_append, List.nil_append]
  by_cases h4 : lenB 4 x = true
  · cases x <;> try (simp [lenB] at h4; done)
    rename_i xs
    have hl : xs.length = 4 := by simp [lenB] at h4; omega
    obtain ⟨a, b, c, d, rfl⟩ : ∃ a b c d, xs = [a, b, c, d] := by
      match xs, hl with
      | [a, b, c, d], _ => exact ⟨a, b, c, d, rfl⟩
    obtain ⟨m, rfl, _, hx⟩ := ok_s h
    have ha := hx a (by simp)
    have hb := hx b (by simp)
    have hc := hx c (by simp)
    have hd := hx d (by simp)
    simp [is_tuple_eq h, h4, ne_tape ha (show m ≤ 60 by omega), unlike_eq hb]
    by_cases g1 : isT a = true
    · by_cases g2 : tagsB b = true
      · obtain ⟨tags, rfl⟩ : ∃ tags, b = .tup tags := by cases b <;> first | exact ⟨_, rfl⟩ | (simp [tagsB] at g2; done)
        have n2 : newT [c, d] s = some (.tup [c, d], s) := rfl
        simp [g1, g2, n2, is_from_eq hc]
        by_cases gc : ∃ signs, c = .int signs
        case neg => cases c <;> first | exact absurd ⟨_, rfl⟩ gc | (cases d <;> simp [tapeB]; done)
        obtain ⟨signs, rfl⟩ := gc
        by_cases g3 : signs < (tags.length : Int) + 2
        case pos => cases d <;> simp [g3, tapeB]
        case neg =>
          cases d with
          | tup states =>
            obtain ⟨q, rfl, hl2, hst⟩ := ok_s hd
            have hl' : states.length ≤ 16000000 := by omega
            by_cases he : states = []
            · simp [g3, uIsi, kn, isi, eq_t0, he, tapeB]
            · have lc := lc_map (t := mName 3) (e := eCall f_is_state (aCons (eV 3) (aCons (eV 1) (aCons (eLs bLen (aCons (eV 2) aNil)) aNil)))) (env := [some (.tup [a, .tup tags, .int signs, .tup states]), some (.int signs), some (.tup states), none]) (s := s) (g := fun x => .bl (stateB signs (states.length : Nat) x)) states fun x hm => ⟨_, rfl, by simp [is_state_eq (hst x hm)]⟩
              have he' : states.isEmpty = false := by cases states <;> simp_all
              simp [g3, uIsi, kn, isi, eq_t0, he, he', eLc_e, wipeE, lc, newL_f, hl', bAll_map, tapeB, g1, g2]
          | obj k => unfold okP at hd; cases m <;> exact hd.elim
          | _ => simp [g3, uIsi, kn, isi, tapeB]
      · have g2' : tagsB b = false := by simpa using g2
        simp [g1, g2']
        cases b <;> cases c <;> cases d <;> simp [tapeB, g2']
    · have g1' : isT a = false := by simpa using g1
      simp [g1']
      cases b <;> cases c <;> cases d <;> simp [tapeB, g1']
  · have h4' : lenB 4 x = false := by simpa using h4
    have hr : tapeB x = false := by
      cases x <;> try rfl
      rename_i xs
      refine not_four fun z => ?_
      simp [lenB, z] at h4'
    simp [is_tuple_eq h, h4', hr]
theorem is_tape_eq {n : Nat} {x : PV} {s : S} (h : ok n x) (hn : n ≤ 60) : f_is_tape [x] s = .ok (.bl (tapeB x)) s := by
  unfold f_is_tape
  rw [fnM_e (by rfl)]
  unfold b_is_tape
  simp [startE, is_tape_value_eq h hn]
end Lk55

set_option Elab.async false
set_option linter.all false
set_option maxRecDepth 100000
set_option maxHeartbeats 4000000
/-! k55: the law's own reading. -/
namespace Lk55
open PySem PySem.Spec L2 Z
theorem rule_three {signs k : Int} {x : PV} (h : ruleB signs k x = true) : ∃ a b c, x = .tup [a, b, c] := by
  unfold ruleB at h
  split at h
  · exact ⟨_, _, _, rfl⟩
  · cases h
theorem inner_ok {m : Nat} {x : PV} {signs : Int} {states : List PV} {s : S} {o0 o1 o2 o5 o7 : Option PV} (h : ok m x) :
    (ruleB signs states.length x = true → l__law_is_tape_2 [o0, o1, o2, some (.int signs), some (.tup states), o5, some x, o7] s = .ok (.nx [o0, o1, o2, some (.int signs), some (.tup states), o5, some x, o7]) s) ∧
    (ruleB signs states.length x = false → l__law_is_tape_2 [o0, o1, o2, some (.int signs), some (.tup states), o5, some x, o7] s = .ok (.ret (.bl false)) s) := by
  unfold l__law_is_tape_2
  by_cases h3 : lenB 3 x = true
  · obtain ⟨xs, rfl⟩ : ∃ xs, x = .tup xs := by cases x <;> first | exact ⟨_, rfl⟩ | (simp [lenB] at h3; done)
    have hl : xs.length = 3 := by simp [lenB] at h3; omega
    obtain ⟨a, b, c, rfl⟩ : ∃ a b c, xs = [a, b, c] := by
      match xs, hl with
      | [a, b, c], _ => exact ⟨a, b, c, rfl⟩
    obtain ⟨q, rfl, _, hx⟩ := ok_s h
    have ha := hx a (by simp)
    have hb := hx b (by simp)
    have hc := hx c (by simp)
    have e : ruleB signs states.length (.tup [a, b, c]) = (rngB 0 (states.length + 1) a && (rngB 0 (signs - 1) b && rngB (-1) 1 c)) := rfl
    rw [e]
    simp [law_is_tuple_eq h, h3, law_is_int_eq ha, law_is_int_eq hb, law_is_int_eq hc]
    cases g1 : rngB 0 (states.length + 1) a <;> cases g2 : rngB 0 (signs - 1) b <;> cases g3 : rngB (-1) 1 c <;> simp [law_is_int_eq hb, law_is_int_eq hc, g1, g2, g3]
  · have h3' : lenB 3 x = false := by simpa using h3
    have hr : ruleB signs states.length x = false := by
      cases hq : ruleB signs states.length x with
      | false => rfl
      | true => obtain ⟨a, b, c, rfl⟩ := rule_three hq; simp [lenB] at h3'
    simp [hr, law_is_tuple_eq h, h3']
theorem four {x : PV} (h : lenB 4 x = true) : ∃ a b c d, x = .tup [a, b, c, d] := by
  obtain ⟨xs, rfl⟩ : ∃ xs, x = .tup xs := by cases x <;> first | exact ⟨_, rfl⟩ | (simp [lenB] at h; done)
  have hl : xs.length = 4 := by simp [lenB] at h; omega
  match xs, hl with
  | [a, b, c, d], _ => exact ⟨a, b, c, d, rfl⟩
theorem law_is_tape_eq {n : Nat} {x : PV} {s : S} (h : ok n x) (hn : n ≤ 60) : f__law_is_tape [x] s = .ok (.bl (tapeB x)) s := by
  unfold f__law_is_tape
  rw [fnM_e (by rfl)]
  unfold b__law_is_tape
  simp only [startE, List.map_cons, List.map_nil, List.length_cons, List.length_nil, Nat.reduceAdd, Nat.reduceSub, List.replicate, List.cons_append, List.nil_append]
  by_cases h4 : lenB 4 x = true
  case neg =>
    have h4' : lenB 4 x = false := by simpa using h4
    have hr : tapeB x = false := by
      cases x <;> try rfl
      rename_i xs
      refine not_four fun z => ?_
      simp [lenB, z] at h4'
    simp [law_is_tuple_eq h, h4', hr]
  obtain ⟨a, b, c, d, rfl⟩ := four h4
  obtain ⟨m, rfl, _, hx⟩ := ok_s h
  have ha := hx a (by simp)
  have hb := hx b (by simp)
  have hc := hx c (by simp)
  have hd := hx d (by simp)
  by_cases gs : ∃ z, a = .str z
  case neg =>
    have ht : isT a = false := by cases a <;> first | exact absurd ⟨_, rfl⟩ gs | rfl
    have hr : tapeB (.tup [a, b, c, d]) = false := by cases b <;> cases c <;> cases d <;> simp [tapeB, ht]
    have hu : uIsi .str a s = some (.bl false, s) := by
      cases a with
      | str z => exact absurd ⟨_, rfl⟩ gs
      | obj k => unfold okP at ha; cases m <;> exact ha.elim
      | _ => rfl
    simp [law_is_tuple_eq h, h4, hu, hr]
  obtain ⟨za, rfl⟩ := gs
  by_cases g1 : isT (.str za) = true
  case neg =>
    have g1' : isT (.str za) = false := by simpa using g1
    have hr : tapeB (.tup [.str za, b, c, d]) = false := by cases b <;> cases c <;> cases d <;> simp [tapeB, g1']
    simp [law_is_tuple_eq h, h4, uIsi, kn, isi, ne_tape ha (show m ≤ 60 by omega), g1', hr]
  by_cases gb : ∃ tags, b = .tup tags
  case neg =>
    have hr : tapeB (.tup [.str za, b, c, d]) = false := by cases b <;> first | exact absurd ⟨_, rfl⟩ gb | (cases c <;> cases d <;> simp [tapeB])
    have hu : uIsi .tuple b s = some (.bl false, s) := by
      cases b with
      | tup z => exact absurd ⟨_, rfl⟩ gb
      | obj k => unfold okP at hb; cases m <;> exact hb.elim
      | _ => rfl
    have hu2 : uIsi .str (.str za) s = some (.bl true, s) := rfl
    simp [law_is_tuple_eq h, h4, ne_tape ha (show m ≤ 60 by omega), g1, hu, hr, hu2]
  obtain ⟨tags, rfl⟩ := gb
  obtain ⟨q, rfl, hlt, ht⟩ := ok_s hb
  have hlt' : tags.length ≤ 16000000 := by omega
  have lc := lc_filter (t := mName 7) (c := tNot (tB (eCall f__law_is_tag (aCons (eV 7) aNil)))) (e := eV 7) (env := [some (.tup [.str za, .tup tags, c, d]), some (.str za), some (.tup tags), some c, some d, none, none, none]) (s := s) (p := fun x => !tagB x) tags fun x hm => ⟨_, rfl, by simp [law_is_tag_eq (ht x hm)], by simp⟩
  have hf : (tags.filter fun x => !tagB x).length ≤ 16000000 := Nat.le_trans (List.length_filter_le _ _) hlt'
  by_cases g2 : tags.all tagB = true
  case neg =>
    have g2' : tags.all tagB = false := by simpa using g2
    have hr : tapeB (.tup [.str za, .tup tags, c, d]) = false := by cases c <;> cases d <;> simp [tapeB, tagsB, g2']
    simp [law_is_tuple_eq h, h4, ne_tape ha (show q + 1 ≤ 60 by omega), g1, hr, uIsi, kn, isi, eLc_e, wipeE, lc, hlt', newL_f, hf, ne_nil, filt_empty, g2']
  obtain ⟨k, e, eu⟩ := len_set (s := s) g2 (by omega)
  have ne_int : ∀ i j : Int, oNeD (.int i) (.int j) s = some (.bl (!(i == j)), s) := fun _ _ => rfl
  by_cases g3 : uniqB tags = true
  case neg =>
    have g3' : uniqB tags = false := by simpa using g3
    have hr : tapeB (.tup [.str za, .tup tags, c, d]) = false := by cases c <;> cases d <;> simp [tapeB, tagsB, g3']
    simp [law_is_tuple_eq h, h4, ne_tape ha (show q + 1 ≤ 60 by omega), g1, hr, uIsi, kn, isi, eLc_e, wipeE, lc, hlt', newL_f, hf, ne_nil, filt_empty, g2, e, ne_int, eu, g3']
  have big : oPow (.int 10) (.int 40) s = some (.int 10000000000000000000000000000000000000000, s) := rfl
  by_cases g4 : rngB (tags.length + 2) 10000000000000000000000000000000000000000 c = true
  case neg =>
    have g4' : rngB (tags.length + 2) 10000000000000000000000000000000000000000 c = false := by simpa using g4
    have hr : tapeB (.tup [.str za, .tup tags, c, d]) = false := by
      cases c with
      | int i =>
        have hi : sint i := by unfold okP at hc; exact hc
        have : i < (tags.length : Int) + 2 := by
          by_cases z : i < (tags.length : Int) + 2
          · exact z
          · have : rngB (tags.length + 2) 10000000000000000000000000000000000000000 (.int i) = true := by
              unfold rngB
              have h1 : (tags.length : Int) + 2 ≤ i := by omega
              simp [h1, hi.2]
            rw [this] at g4'; cases g4'
        cases d <;> simp [tapeB, this]
      | _ => cases d <;> simp [tapeB]
    simp [law_is_tuple_eq h, h4, ne_tape ha (show q + 1 ≤ 60 by omega), g1, hr, uIsi, kn, isi, eLc_e, wipeE, lc, hlt', newL_f, hf, ne_nil, filt_empty, g2, e, ne_int, eu, g3, big, law_is_int_eq hc, g4']
  obtain ⟨signs, rfl⟩ : ∃ signs, c = .int signs := by cases c <;> first | exact ⟨_, rfl⟩ | (simp [rngB] at g4; done)
  have g5 : ¬ signs < (tags.length : Int) + 2 := by
    simp [rngB] at g4; omega
  by_cases gd : ∃ states, d = .tup states
  case neg =>
    have hr : tapeB (.tup [.str za, .tup tags, .int signs, d]) = false := by cases d <;> first | exact absurd ⟨_, rfl⟩ gd | simp [tapeB]
    have hu : uIsi .tuple d s = some (.bl false, s) := by
      cases d with
      | tup z => exact absurd ⟨_, rfl⟩ gd
      | obj k => unfold okP at hd; exact hd.elim
      | _ => rfl
    have hu1 : uIsi .tuple (.tup tags) s = some (.bl true, s) := rfl
    have hu2 : uIsi .str (.str za) s = some (.bl true, s) := rfl
    simp [law_is_tuple_eq h, h4, ne_tape ha (show q + 1 ≤ 60 by omega), g1, hr, hu1, hu2, eLc_e, wipeE, lc, hlt', newL_f, hf, ne_nil, filt_empty, g2, e, ne_int, eu, g3, big, law_is_int_eq hc, g4, hu]
  obtain ⟨states, rfl⟩ := gd
  obtain ⟨r, er, hls, hs⟩ := ok_s hd
  cases er
  by_cases he : states = []
  · subst he
    have hr : tapeB (.tup [.str za, .tup tags, .int signs, .tup []]) = false := by simp [tapeB]
    simp [law_is_tuple_eq h, h4, ne_tape ha (show q + 1 ≤ 60 by omega), g1, hr, uIsi, kn, isi, eLc_e, wipeE, lc, hlt', newL_f, hf, ne_nil, filt_empty, g2, e, ne_int, eu, g3, big, law_is_int_eq hc, g4, eq_t0]
  have he' : states.isEmpty = false := by cases states <;> simp_all
  have hr : tapeB (.tup [.str za, .tup tags, .int signs, .tup states]) = states.all (stateB signs states.length) := by simp [tapeB, g1, tagsB, g2, g3, g5, he']
  rw [hr]
  have body := for_test (t := mName 5) (b := l__law_is_tape_1)
    (stateB signs states.length) (.bl false) (fun env => ∃ o5 o6 o7, env = [some (.tup [.str za, .tup tags, .int signs, .tup states]), some (.str za), some (.tup tags), some (.int signs), some (.tup states), o5, o6, o7]) (s := s) states
    [some (.tup [.str za, .tup tags, .int signs, .tup states]), some (.str za), some (.tup tags), some (.int signs), some (.tup states), none, none, none] ⟨_, _, _, rfl⟩ (by
      rintro x hm env ⟨o5, o6, o7, rfl⟩
      refine ⟨_, rfl, ?_⟩
      have hxx := hs x hm
      by_cases hl : lenB signs x = true
      · obtain ⟨rs, rfl⟩ : ∃ rs, x = .tup rs := by cases x <;> first | exact ⟨_, rfl⟩ | (simp [lenB] at hl; done)
        obtain ⟨r2, er2, hlr, hrs⟩ := ok_s hxx
        have hl' : ((rs.length : Int) == signs) = true := hl
        have es : stateB signs states.length (.tup rs) = rs.all (ruleB signs states.length) := by
          show ((rs.length : Int) == signs && _) = _
          rw [hl', Bool.true_and]
        have inn := for_test (t := mName 6) (b := l__law_is_tape_2)
          (ruleB signs states.length) (.bl false) (fun env => ∃ o6 o7, env = [some (.tup [.str za, .tup tags, .int signs, .tup states]), some (.str za), some (.tup tags), some (.int signs), some (.tup states), some (.tup rs), o6, o7]) (s := s) rs
          [some (.tup [.str za, .tup tags, .int signs, .tup states]), some (.str za), some (.tup tags), some (.int signs), some (.tup states), some (.tup rs), o6, o7] ⟨_, _, rfl⟩ (by
            rintro y hy env ⟨p6, p7, rfl⟩
            refine ⟨_, rfl, ?_⟩
            have := inner_ok (signs := signs) (states := states) (s := s) (o0 := some (.tup [.str za, .tup tags, .int signs, .tup states])) (o1 := some (.str za)) (o2 := some (.tup tags)) (o5 := some (.tup rs)) (o7 := p7) (hrs y hy)
            exact ⟨fun z => ⟨_, this.1 z, _, _, rfl⟩, this.2⟩)
        rw [es]
        refine ⟨fun z => ?_, fun z => ?_⟩
        · obtain ⟨e', k1, o6', o7', rfl⟩ := inn.1 z
          refine ⟨_, ?_, some (.tup rs), o6', o7', rfl⟩
          unfold l__law_is_tape_1
          simp only [sSeq_e, sIf_e, tNot_e, tB_e, eCall_e, aCons_e, aNil_e, mName_e, List.set_cons_succ, List.set_cons_zero, eV_5, eV_3, bind_ok, law_is_tuple_eq hxx, hl, Bool.not_true, Bool.false_eq_true, if_false, sNil_e, flK_nx, sFor_e, iAny_e, it_tup', liftI_some, k1]
        · have k1 := inn.2 z
          unfold l__law_is_tape_1
          simp only [sSeq_e, sIf_e, tNot_e, tB_e, eCall_e, aCons_e, aNil_e, mName_e, List.set_cons_succ, List.set_cons_zero, eV_5, eV_3, bind_ok, law_is_tuple_eq hxx, hl, Bool.not_true, Bool.false_eq_true, if_false, sNil_e, flK_nx, sFor_e, iAny_e, it_tup', liftI_some, k1]
      · have hl' : lenB signs x = false := by simpa using hl
        have es : stateB signs states.length x = false := by
          cases x <;> first | rfl | skip
          show (_ == signs && _) = false
          have : ((_ : Int) == signs) = false := hl'
          rw [this]; rfl
        unfold l__law_is_tape_1
        simp [es, law_is_tuple_eq hxx, hl'])
  simp [law_is_tuple_eq h, h4, ne_tape ha (show q + 1 ≤ 60 by omega), g1, uIsi, kn, isi, eLc_e, wipeE, lc, hlt', newL_f, hf, ne_nil, filt_empty, g2, e, ne_int, eu, g3, big, law_is_int_eq hc, g4, eq_t0, he, he']
  cases hall : states.all (stateB signs states.length) with
  | true =>
    obtain ⟨env', k1, _⟩ := body.1 hall
    rw [k1]; rfl
  | false =>
    rw [body.2 hall]; rfl
end Lk55

set_option Elab.async false
set_option linter.all false
set_option maxRecDepth 100000
set_option maxHeartbeats 4000000
/-! k55: the deck, what is drawn. -/
namespace Lk55
open PySem PySem.Spec L2 Z
def Sd (m t : Int) (ns : List Int) (R : S) : S := .dic [(.inr "left", .obj 1), (.inr "mixed", .int m), (.inr "draws", .int t)] :: .lst (ns.map .int) :: R
section
variable {m t : Int} {ns : List Int} {R : S}
theorem g_left : oDGet (.obj 0) (.str "left") (Sd m t ns R) = some (.obj 1, Sd m t ns R) := rfl
theorem g_mixed : oDGet (.obj 0) (.str "mixed") (Sd m t ns R) = some (.int m, Sd m t ns R) := rfl
theorem g_draws : oDGet (.obj 0) (.str "draws") (Sd m t ns R) = some (.int t, Sd m t ns R) := rfl
theorem p_draws {m0 : EM} {env : En} {u : Int} (h0 : env[0]? = some (some (.obj 0))) (h : m0 env (Sd m t ns R) = .ok (.int u) (Sd m t ns R)) : sDPut m0 (eV 0) (eC (.str "draws")) env (Sd m t ns R) = .ok (.nx env) (Sd m u ns R) := by
  rw [sDPut_e, h, bind_ok, eV_at h0]; rfl
theorem m_isl : isTy .list (.obj 1) (Sd m t ns R) = true := rfl
theorem m_pop {ks : List Int} {k : Int} : mPop (.obj 1) [] (Sd m t (ks ++ [k]) R) = some (.int k, Sd m t ks R) := by
  unfold mPop
  have : mlst (Sd m t (ks ++ [k]) R) (.obj 1) = some (1, (ks ++ [k]).map .int) := rfl
  simp only [this, List.map_append, List.map_cons, List.map_nil, List.getLast?_append, List.getLast?_singleton, Option.or_some, List.dropLast_concat]
  rfl
theorem m_app {k : Int} (h : ns.length < 16000000) : mAppend (.obj 1) [.int k] (Sd m t ns R) = some (.non, Sd m t (ns ++ [k]) R) := by
  unfold mAppend
  have : mlst (Sd m t ns R) (.obj 1) = some (1, ns.map .int) := rfl
  simp only [this, List.length_map, if_pos h]
  simp [Sd]
theorem at1 : (Sd m t ns R)[1]? = some (.lst (ns.map .int)) := rfl
end
theorem draw_sd (m t n : Int) (ns : List Int) (R : S) (h : 1 ≤ n) (h2 : n < 1000000000) (hl : ns.length ≤ 63) : ∃ r ns', f__law_draw [.obj 0, .int n] (Sd m t ns R) = .ok (.int r) (Sd m (t+1) ns' R) ∧ 0 ≤ r ∧ r < n ∧ ns'.length ≤ 63 := by
  have key : ∀ (f : Int) (c : Option PV) (k : List Int), ∃ r, (sSeq (sAsg (eOp oMod (eLs bInt (aCons (eOp (oAdd false) (eOp oMulI (eV 2) (eC (.int 39373))) (eC (.int 55))) aNil)) (eC (.int 2147483647))) (mName 2))
      (sSeq (sAsg (eOp oMod (eLs bInt (aCons (eOp (oAdd false) (eOp (oAdd false) (eOp oMulI (eV 2) (eV 2)) (eOp oMulI (eC (.int 60089)) (eOp oDGet (eV 0) (eC (.str "draws"))))) (eC (.int 55))) aNil)) (eC (.int 2147483587))) (mName 2))
      (sSeq (sAsg (eOp oMod (eLs bInt (aCons (eOp oMulI (eV 2) (eC (.int 69621))) aNil)) (eC (.int 2147483563))) (mName 2))
      (sRet (eOp oMod (eLs bInt (aCons (eOp oFdiv (eV 2) (eC (.int 64))) aNil)) (eV 1)))))) [some (.obj 0), some (.int n), some (.int f), c] (Sd m (t+1) k R) = .ok (.ret (.int r)) (Sd m (t+1) k R) ∧ 0 ≤ r ∧ r < n := by
    intro f c k
    have a1 := fmod_r (i := f * 39373 + 55) (n := 2147483647) (by decide)
    simp (disch := omega) [oMul_r, oMod_ii]
    generalize Int.fmod (f * 39373 + 55) 2147483647 = g at a1 ⊢
    simp (disch := omega) [oMul_r, oMul_l, oMod_ii, oFdiv_ii, g_draws]
    exact fmod_r h
  unfold f__law_draw
  rw [fnM_e (by rfl)]
  unfold b__law_draw
  have e0 : startE ["_law_deck_here", "_law_many", "_law_figure", "_law_cell"] [.obj 0, .int n] = [some (.obj 0), some (.int n), none, none] := rfl
  rw [e0, sSeq_e, p_draws (u := t + 1) rfl (by simp [g_draws])]
  rcases List.eq_nil_or_concat ns with rfl | ⟨ks, k, rfl⟩
  · obtain ⟨r, q, q1, q2⟩ := key (m + 53267 * (t + 1)) none []
    refine ⟨r, [], ?_, q1, q2, by simp⟩
    simp (disch := omega) [g_mixed, g_draws, g_left, oMul_l, neLst at1] at q ⊢
    rw [q]; rfl
  · have hk : ks.length ≤ 62 := by simp at hl; omega
    by_cases big : (1000000000000000000 : Int) ≤ k
    · refine ⟨k.fmod n, ks ++ [k.fdiv (if n > 2 then n else 2)], ?_, (fmod_r h).1, (fmod_r h).2, by simp; omega⟩
      have c1 : oPow (.int 10) (.int 18) (Sd m (t+1) ks R) = some (.int (10 ^ 18), Sd m (t+1) ks R) := rfl
      have c2 : (if 2 < n then n else 2) ≠ 0 ∧ (if 2 < n then n else (2 : Int)).natAbs < 1073741824 := by split <;> omega
      simp (disch := first | omega | exact c2) [g_mixed, g_draws, g_left, oMul_l, neLst at1, m_isl, m_pop, c1, big, oFdiv_ii, m_app, oMod_ii]
    · obtain ⟨r, q, q1, q2⟩ := key (m + 53267 * (t + 1) + k.fmod 2147483629) (some (.int k)) ks
      refine ⟨r, ks, ?_, q1, q2, by omega⟩
      have c1 : oPow (.int 10) (.int 18) (Sd m (t+1) ks R) = some (.int (10 ^ 18), Sd m (t+1) ks R) := rfl
      simp (disch := omega) [g_mixed, g_draws, g_left, oMul_l, neLst at1, m_isl, m_pop, c1, big, oMod_ii] at q ⊢
      rw [q]; rfl
/-- the deck, and R behind it -/
def Dk (R s : S) : Prop := ∃ (m t : Int) (ns : List Int), ns.length ≤ 63 ∧ s = Sd m t ns R
section
variable {R s : S}
theorem dk_len (h : Dk R s) : s.length = R.length + 2 := by
  obtain ⟨m, t, ns, _, rfl⟩ := h; rfl
theorem dk_at (h : Dk R s) (k : Nat) : s[k + 2]? = R[k]? := by
  obtain ⟨m, t, ns, _, rfl⟩ := h; rfl
theorem dk_new (h : Dk R s) (o : MO) : Dk (R ++ [o]) (s ++ [o]) := by
  obtain ⟨m, t, ns, hl, rfl⟩ := h; exact ⟨m, t, ns, hl, rfl⟩
theorem dk_set (h : Dk R s) (k : Nat) (o : MO) : Dk (R.set k o) (s.set (k + 2) o) := by
  obtain ⟨m, t, ns, hl, rfl⟩ := h; exact ⟨m, t, ns, hl, rfl⟩
theorem draw_ok (h : Dk R s) {n : Int} (h1 : 1 ≤ n) (h2 : n < 1000000000) : ∃ r s', f__law_draw [.obj 0, .int n] s = .ok (.int r) s' ∧ Dk R s' ∧ 0 ≤ r ∧ r < n := by
  obtain ⟨m, t, ns, hl, rfl⟩ := h
  obtain ⟨r, ns', e, a, b, c⟩ := draw_sd m t n ns R h1 h2 hl
  exact ⟨r, _, e, ⟨m, t + 1, ns', c, rfl⟩, a, b⟩
theorem pick_lst (h : Dk R s) {xs : List PV} (h1 : xs ≠ []) (h2 : xs.length ≤ 100000) : ∃ v s', f__law_pick [.obj 0, .lst xs] s = .ok v s' ∧ Dk R s' ∧ v ∈ xs := by
  have hp : 1 ≤ (xs.length : Int) := by cases xs <;> simp_all <;> omega
  obtain ⟨r, s', e, hd, a, b⟩ := draw_ok h hp (by omega)
  obtain ⟨v, hv, _, ei⟩ := ix_lst (xs := xs) (r := r) (s := s') ⟨a, b⟩
  refine ⟨v, s', ?_, hd, hv⟩
  unfold f__law_pick
  rw [fnM_e (by rfl)]
  unfold b__law_pick
  simp [startE, e, ei]
theorem pick_str (h : Dk R s) {z : Str} (h1 : 1 ≤ z.length) (h2 : z.length ≤ 1000) : ∃ c s', f__law_pick [.obj 0, .str z] s = .ok (.str ⟨#[c]⟩) s' ∧ Dk R s' ∧ c ∈ z.cps.toList := by
  have hzl : z.cps.toList.length = z.length := rfl
  obtain ⟨r, s', e, hd, a, b⟩ := draw_ok h (n := (z.length : Nat)) (by omega) (by omega)
  obtain ⟨v, hv, ei⟩ := ix_str (z := z) (r := r) (s := s') ⟨a, by rw [hzl]; exact b⟩ (by omega)
  refine ⟨v, s', ?_, hd, hv⟩
  unfold f__law_pick
  rw [fnM_e (by rfl)]
  unfold b__law_pick
  have lb : bLen [.str z] s = some (.int z.length, s) := if_pos (by omega)
  simp [startE, lb, e, ei]
end
theorem upper_sml {L : Nat} {z : Str} (h : smlB L z) : smlB L (Txt.upper z) := by
  have key : ∀ l : List Nat, (∀ c ∈ l, c < 128) → ∃ l' : List Nat, Txt.upper ⟨l.toArray⟩ = ⟨l'.toArray⟩ ∧ l'.length = l.length ∧ ∀ c ∈ l', c < 128 := by
    intro l
    induction l with
    | nil => exact fun _ => ⟨[], rfl, rfl, by simp⟩
    | cons c l ih =>
      intro hc
      obtain ⟨l', e, hl, hs⟩ := ih fun d hd => hc d (by simp [hd])
      have h0 := hc c (by simp)
      refine ⟨(if 97 ≤ c ∧ c ≤ 122 then c - 32 else c) :: l', ?_, by simp [hl], ?_⟩
      · have e1 : (⟨(c :: l).toArray⟩ : Str) = ⟨#[c]⟩ ++ ⟨l.toArray⟩ := by
          show _ = (⟨#[c] ++ l.toArray⟩ : Str)
          simp
        rw [e1, PySem.W.KOpn.upper_app, PySem.W.KOpn.upper_one h0, e]
        show (⟨_ ++ _⟩ : Str) = _
        simp
      · intro d hd
        rcases List.mem_cons.mp hd with rfl | hd
        · split <;> omega
        · exact hs d hd
  obtain ⟨⟨l⟩⟩ := z
  obtain ⟨l', e, hl, hs⟩ := key l h.2
  rw [show (⟨{ toList := l }⟩ : Str) = ⟨l.toArray⟩ from rfl, e]
  exact ⟨by show l'.length ≤ L; rw [hl]; exact h.1, hs⟩
theorem app_sml {L M : Nat} {a b : Str} (h : smlB L a) (g : smlB M b) : smlB (L + M) (a ++ b) := by
  refine ⟨by rw [strLen_append]; have := h.1; have := g.1; omega, fun c hc => ?_⟩
  have : c ∈ (a.cps ++ b.cps).toList := hc
  rw [Array.toList_append, List.mem_append] at this
  exact this.elim (h.2 c) (g.2 c)
theorem int_sml : ∀ i : Int, -20 ≤ i → i ≤ 20 → smlB 100 (Str.ofString (toString i)) := by
  have key : ∀ k : Fin 41, (Str.ofString (toString ((k.val : Int) - 20))).length ≤ 100 ∧ ∀ c ∈ (Str.ofString (toString ((k.val : Int) - 20))).cps.toList, c < 128 := by decide +kernel
  intro i h1 h2
  have := key ⟨(i + 20).toNat, by omega⟩
  have e : (((i + 20).toNat : Nat) : Int) - 20 = i := by omega
  simp only [e] at this
  exact this
theorem cutS_sml {L : Nat} {z : Str} (h : smlB L z) (lo hi : Option Int) : smlB L (cutS z lo hi) := by
  have e : (cutS z lo hi).cps.toList = (z.cps.toList.drop (HT.sIx z.length 0 lo)).take (HT.sIx z.length z.length hi - HT.sIx z.length 0 lo) := by simp [cutS]
  refine ⟨?_, fun c hc => h.2 c ?_⟩
  · show (cutS z lo hi).cps.toList.length ≤ L
    have h1 : z.cps.toList.length ≤ L := h.1
    rw [e, List.length_take, List.length_drop]; omega
  · rw [e] at hc
    exact List.mem_of_mem_drop (List.mem_of_mem_take hc)
end Lk55

set_option Elab.async false
set_option linter.all false
set_option maxRecDepth 100000
set_option maxHeartbeats 4000000
/-! k55: tags, tapes. -/
namespace Lk55
open PySem PySem.Spec L2 Z
theorem join_sml : ∀ ts : List Str, (∀ t ∈ ts, smlB 1 t) → smlB ts.length (Str.join "" ts)
  | [], _ => ⟨by decide, by intro c hc; cases hc⟩
  | [x], h => h x (by simp)
  | x :: y :: r, h => by
    have ih := join_sml (y :: r) fun t ht => h t (by simp [List.mem_cons.mp ht])
    have e : Str.join "" (x :: y :: r) = x ++ "" ++ Str.join "" (y :: r) := rfl
    rw [e]
    have h1 := app_sml (app_sml (h x (by simp)) (show smlB 0 ("" : Str) from ⟨by decide, by intro c hc; cases hc⟩)) ih
    rw [show (x :: y :: r).length = 1 + 0 + (y :: r).length by simp; omega]
    exact h1
theorem txt_join (ts : List Str) : Txt.join "" ts = Str.join "" ts := eq_of_beq (PyProof.Rows.join_plain_closes "" ts)
theorem strs_of {Q : Str → Prop} : ∀ {ys : List PV}, (∀ y ∈ ys, ∃ z, y = .str z ∧ Q z) → ∃ ts : List Str, ys = ts.map .str ∧ ∀ t ∈ ts, Q t
  | [], _ => ⟨[], rfl, by simp⟩
  | y :: ys, h => by
    obtain ⟨z, rfl, q⟩ := h y (by simp)
    obtain ⟨ts, rfl, g⟩ := strs_of (ys := ys) fun x hx => h x (by simp [hx])
    exact ⟨z :: ts, rfl, fun t ht => (List.mem_cons.mp ht).elim (fun e => e ▸ q) (g t)⟩
theorem lsOf_obj {s : S} {n : Nat} {xs : List PV} (h : s[n]? = some (.lst xs)) : lsOf s (.obj n) = some xs := by unfold lsOf; simp only [h]
theorem sq_obj {s : S} {n : Nat} {xs : List PV} (h : s[n]? = some (.lst xs)) : sqOf s (.obj n) = some xs := by unfold sqOf rdOf; exact lsOf_obj h
theorem flat_strs (fs : List Str) : (fs.map PV.str).all pflat = true := by induction fs <;> simp_all [pflat]
theorem any_strs (fs : List Str) (z : Str) : ((fs.map PV.str).any fun y => feq y (.str z)) = fs.any fun y => y == z := by
  induction fs with
  | nil => rfl
  | cons f fs ih => rw [List.map_cons, List.any_cons, List.any_cons, ih]; rfl
theorem notin_found {s : S} {n : Nat} {fs : List Str} {z : Str} (h : s[n]? = some (.lst (fs.map .str))) : oNotIn (.str z) (.obj n) s = some (.bl (!(fs.any fun y => y == z)), s) := by
  unfold oNotIn inB
  simp only [sq_obj h, flat_strs, any_strs, show pflat (.str z) = true from rfl, Bool.and_self, if_true]
theorem app_obj {s : S} {n : Nat} {xs : List PV} {y : PV} (h : s[n]? = some (.lst xs)) (hl : xs.length < 16000000) : mAppend (.obj n) [y] s = some (.non, s.set n (.lst (xs ++ [y]))) := by
  unfold mAppend mlst
  simp only [h, if_pos hl]
theorem isl_obj {s : S} {n : Nat} {xs : List PV} (h : s[n]? = some (.lst xs)) : isTy .list (.obj n) s = true := by
  unfold isTy kn
  simp only [h]
  rfl
theorem tuple_obj {s : S} {n : Nat} {xs : List PV} (h : s[n]? = some (.lst xs)) (hl : xs.length ≤ 16000000) : bTuple [.obj n] s = some (.tup xs, s) := by
  unfold bTuple
  simp only [show rdOf s (.obj n) = some xs from lsOf_obj h, newT_ok' hl]
def freshP (fs : List Str) : PV → Bool
  | .str z => !(fs.any fun y => y == z)
  | _ => false
theorem some_fresh {fs : List Str} (h : fs.length ≤ 2) (z : Str) : [PV.str z, .str "yes", .str "top", .str "fun", .str "zz"].filter (freshP fs) ≠ [] := by
  intro e
  have key : ∀ y : Str, PV.str y ∈ [PV.str z, .str "yes", .str "top", .str "fun", .str "zz"] → y ∈ fs := fun y hy => by
    have h1 := List.filter_eq_nil_iff.mp e _ hy
    simp only [freshP, Bool.not_eq_true', Bool.not_eq_false] at h1
    obtain ⟨w, hw, ew⟩ := List.any_eq_true.mp h1
    rw [← eq_of_beq ew]; exact hw
  have a := key "yes" (by simp)
  have b := key "top" (by simp)
  have c := key "fun" (by simp)
  match fs, h with
  | [], _ => cases a
  | [p], _ =>
    simp at a b
    rw [← a] at b
    exact absurd b (by decide)
  | [p, q], _ =>
    simp only [List.mem_cons, List.not_mem_nil, or_false] at a b c
    have d1 : ("yes" : Str) ≠ "top" := by decide
    have d2 : ("yes" : Str) ≠ "fun" := by decide
    have d3 : ("top" : Str) ≠ "fun" := by decide
    rcases a with a | a <;> rcases b with b | b <;> rcases c with c | c <;> first | exact d1 (a.trans b.symm) | exact d2 (a.trans c.symm) | exact d3 (b.trans c.symm)
theorem letters_small : ∀ c ∈ ("abcdefghijklmnopqrstuvwxyz" : Str).cps.toList, c < 128 := by decide +kernel
theorem ups_ix {lo : Int} {n i : Nat} {x : PV} (h : (ups lo n)[i]? = some x) : i < n ∧ x = .int (lo + (i : Nat)) := by
  unfold ups at h
  rw [List.getElem?_map] at h
  obtain ⟨j, e1, e2⟩ := Option.map_eq_some_iff.mp h
  have hj := List.getElem?_eq_some_iff.mp e1
  obtain ⟨hl, e⟩ := hj
  rw [List.getElem_range] at e
  simp at hl
  exact ⟨hl, by rw [← e2, ← e]⟩
theorem p1t {s s1 : S} {j : Nat} {e2 : En} (l5 : newL false [.int 1, .int 2, .int 1, .int 8, .int 4] s = some (.lst [.int 1, .int 2, .int 1, .int 8, .int 4], s)) (e1 : f__law_pick [.obj 0, .lst [.int 1, .int 2, .int 1, .int 8, .int 4]] s = .ok (.int j) s1) : eCall f__law_pick (aCons (eV 0) (aCons (eLst false (aCons (eC (.int 1)) (aCons (eC (.int 2)) (aCons (eC (.int 1)) (aCons (eC (.int 8)) (aCons (eC (.int 4)) aNil)))))) aNil)) (some (.obj 0) :: e2) s = .ok (.int j) s1 := by
  simp only [eCall_e, aCons_e, aNil_e, eV_0, eLst_e, eC_e, bind_ok, l5, lift_some, e1]
theorem tag_turn {R s : S} {many : Int} {fs : List Str} {v : PV} {a b c d : Option PV} (hk : Dk (R ++ [.lst (fs.map .str)]) s) (hl : fs.length ≤ 2) (hf : ∀ z ∈ fs, smlB 8 z) :
    ∃ z s' b' c' d', l__law_tags_1 [some (.obj 0), some (.int many), some (.obj (R.length + 2)), some v, b, c, d, none, none] s = .ok (.nx [some (.obj 0), some (.int many), some (.obj (R.length + 2)), some v, b', c', d', none, none]) s' ∧ Dk (R ++ [.lst ((fs ++ [z]).map .str)]) s' ∧ smlB 8 z := by
  unfold l__law_tags_1
  obtain ⟨w, s1, e1, k1, hw⟩ := pick_lst hk (xs := [.int 1, .int 2, .int 1, .int 8, .int 4]) (by simp) (by decide)
  obtain ⟨j, rfl, j1, j8⟩ : ∃ j : Nat, w = .int (j : Nat) ∧ 1 ≤ j ∧ j ≤ 8 := by
    simp only [List.mem_cons, List.not_mem_nil, or_false] at hw
    rcases hw with rfl | rfl | rfl | rfl | rfl
    · exact ⟨1, rfl, by decide, by decide⟩
    · exact ⟨2, rfl, by decide, by decide⟩
    · exact ⟨1, rfl, by decide, by decide⟩
    · exact ⟨8, rfl, by decide, by decide⟩
    · exact ⟨4, rfl, by decide, by decide⟩
  obtain ⟨ys, s2, e2, l2, p2, k2⟩ := lc_inv (t := mName 7) (e := eCall f__law_pick (aCons (eV 0) (aCons (eC (.str "abcdefghijklmnopqrstuvwxyz")) aNil))) (env := [some (.obj 0), some (.int many), some (.obj (R.length + 2)), some v, some (.int j), c, d, none, none])
    (Dk (R ++ [.lst (fs.map .str)])) (fun y => ∃ z, y = .str z ∧ smlB 1 z) (ups 0 j) s1 k1 (by
      intro x _ s hs
      obtain ⟨q, s', e, k, hq⟩ := pick_str hs (z := "abcdefghijklmnopqrstuvwxyz") (by decide) (by decide)
      refine ⟨_, .str ⟨#[q]⟩, s', rfl, by simp [e], ⟨⟨#[q]⟩, rfl, Nat.le_refl 1, ?_⟩, k⟩
      intro u hu
      have hu' : u ∈ [q] := hu
      simp at hu'
      rw [hu']; exact letters_small q hq)
  obtain ⟨ts, rfl, pt⟩ := strs_of p2
  have lt : ts.length = j := by rw [ups_len] at l2; simpa using l2
  have mj : mJoin (.str "") [.lst (ts.map .str)] s2 = some (.str (Str.join "" ts), s2) := by
    unfold mJoin
    have hsum : (ts.map (·.length)).sum + ts.length * ("" : Str).length ≤ 16000000 := by
      have : ∀ us : List Str, (∀ t ∈ us, smlB 1 t) → (us.map (·.length)).sum ≤ us.length := by
        intro us
        induction us with
        | nil => simp
        | cons u us ih =>
          intro h
          have h1 := (h u (by simp)).1
          have h2 := ih fun t ht => h t (by simp [ht])
          simp only [List.map_cons, List.sum_cons, List.length_cons]; omega
      have h1 := this ts pt
      have h2 : ("" : Str).length = 0 := by decide
      rw [h2]; omega
    simp only [show sqOf s2 (.lst (ts.map .str)) = some (ts.map .str) from rfl, strsOf_map, if_pos hsum, txt_join]
  have tg : smlB 8 (Str.join "" ts) := by
    have := join_sml ts pt
    exact ⟨by have := this.1; omega, this.2⟩
  have at2 : s2[R.length + 2]? = some (.lst (fs.map .str)) := by rw [dk_at k2]; simp
  have lc := lc_filter (t := mName 8) (c := tB (eOp oNotIn (eV 8) (eV 2))) (e := eV 8) (env := [some (.obj 0), some (.int many), some (.obj (R.length + 2)), some v, some (.int j), some (.str (Str.join "" ts)), d, none, none]) (s := s2) (p := freshP fs) [.str (Str.join "" ts), .str "yes", .str "top", .str "fun", .str "zz"] (by
    intro x hx
    obtain ⟨y, rfl⟩ : ∃ y, x = .str y := by simp at hx; rcases hx with rfl | rfl | rfl | rfl | rfl <;> exact ⟨_, rfl⟩
    exact ⟨_, rfl, by simp [notin_found at2, freshP], by simp⟩)
  generalize hsp : [PV.str (Str.join "" ts), .str "yes", .str "top", .str "fun", .str "zz"].filter (freshP fs) = sp at lc
  have hne : sp ≠ [] := by rw [← hsp]; exact some_fresh hl _
  have hspl : sp.length ≤ 5 := by rw [← hsp]; exact List.length_filter_le _ _
  obtain ⟨u, us, rfl⟩ : ∃ u us, sp = u :: us := by cases sp with | nil => exact absurd rfl hne | cons u us => exact ⟨u, us, rfl⟩
  obtain ⟨z, rfl, hz⟩ : ∃ z, u = .str z ∧ smlB 8 z := by
    have hu : u ∈ [PV.str (Str.join "" ts), .str "yes", .str "top", .str "fun", .str "zz"].filter (freshP fs) := by rw [hsp]; simp
    have := (List.mem_filter.mp hu).1
    simp at this
    rcases this with rfl | rfl | rfl | rfl | rfl
    · exact ⟨_, rfl, tg⟩
    all_goals exact ⟨_, rfl, by decide, by decide⟩
  have ix0 : oIx (.lst (.str z :: us)) (.int 0) s2 = some (.str z, s2) := by
    obtain ⟨v, _, h2, h3⟩ := ix_lst (xs := .str z :: us) (r := 0) (s := s2) ⟨by decide, by simp only [List.length_cons]; omega⟩
    have h2' : some (PV.str z) = some v := h2
    cases h2'; exact h3
  refine ⟨z, s2.set (R.length + 2) (.lst (fs.map .str ++ [.str z])), some (.int j), some (.str (Str.join "" ts)), some (.lst (.str z :: us)), ?_, ?_, hz⟩
  · have sz : (5 : Nat) ≤ 16000000 := by decide
    have l5 : newL false [.int 1, .int 2, .int 1, .int 8, .int 4] s = some (.lst [.int 1, .int 2, .int 1, .int 8, .int 4], s) := rfl
    have t5 : newT [.str (Str.join "" ts), .str "yes", .str "top", .str "fun", .str "zz"] s2 = some (.tup [.str (Str.join "" ts), .str "yes", .str "top", .str "fun", .str "zz"], s2) := rfl
    have j5 : (j : Int) < 4000000000000000000 ∧ -4000000000000000000 < (j : Int) := by omega
    have jn : j ≤ 16000000 := by omega
    have ls : isTy .str (.str "") s1 = true := rfl
    have sz2 : (ts.map PV.str).length ≤ 16000000 := by simp; omega
    have sz3 : (PV.str z :: us).length ≤ 16000000 := by omega
    have r1 : iR1 (aCons (eV 4) aNil) [some (.obj 0), some (.int many), some (.obj (R.length + 2)), some v, some (.int j), c, d, none, none] s1 = .ok (ups 0 j, none) s1 := by
      rw [iR1_ok (j := (j : Int)) (s' := s1) (by simp only [aCons_e, aNil_e, eV_4, bind_ok]) j5, Int.toNat_natCast]
    have q1 : eLc false (iR1 (aCons (eV 4) aNil)) (mName 7) tYesM (eCall f__law_pick (aCons (eV 0) (aCons (eC (.str "abcdefghijklmnopqrstuvwxyz")) aNil))) [7] [some (.obj 0), some (.int many), some (.obj (R.length + 2)), some v, some (.int j), c, d, none, none] s1 = .ok (.lst (ts.map .str)) s2 := by
      rw [eLc_e, r1]
      simp only [bind_ok, ups_len, if_pos jn, wipeE, List.set_cons_succ, List.set_cons_zero, e2, newL_f sz2, lift_some]
    have q2 : eLc false (iAny (eTup (aCons (eV 5) (aCons (eC (.str "yes")) (aCons (eC (.str "top")) (aCons (eC (.str "fun")) (aCons (eC (.str "zz")) aNil))))))) (mName 8) (tB (eOp oNotIn (eV 8) (eV 2))) (eV 8) [8] [some (.obj 0), some (.int many), some (.obj (R.length + 2)), some v, some (.int j), some (.str (Str.join "" ts)), d, none, none] s2 = .ok (.lst (.str z :: us)) s2 := by
      rw [eLc_e]
      simp only [iAny_e, eTup_e, aCons_e, aNil_e, eV_5, eC_e, bind_ok, t5, lift_some, it_tup', liftI_some, wipeE, List.set_cons_succ, List.set_cons_zero, lc, newL_f sz3]
      rfl
    have qj : eMt .str mJoin (eC (.str "")) (aCons (eLc false (iR1 (aCons (eV 4) aNil)) (mName 7) tYesM (eCall f__law_pick (aCons (eV 0) (aCons (eC (.str "abcdefghijklmnopqrstuvwxyz")) aNil))) [7]) aNil) [some (.obj 0), some (.int many), some (.obj (R.length + 2)), some v, some (.int j), c, d, none, none] s1 = .ok (.str (Str.join "" ts)) s2 := mt_e eC_e ls (cons_e q1 aNil_e) mj
    rw [seq_asg (p1t l5 e1) rfl]
    refine (seq_asg qj rfl).trans ((seq_asg q2 rfl).trans (expr_e (mt_e (eV_2) (isl_obj at2) (cons_e (op_e eV_6 eC_e ix0) aNil_e) (app_obj at2 (show (fs.map PV.str).length < 16000000 by simp; omega)))))
  · have := dk_set k2 R.length (.lst (fs.map .str ++ [.str z]))
    simpa using this
theorem tags_ok {R s : S} (h : Dk R s) {many : Int} (h0 : 0 ≤ many) (h3 : many ≤ 3) : ∃ ts s' J, f__law_tags [.obj 0, .int many] s = .ok (.tup ts) s' ∧ Dk (R ++ J) s' ∧ ts.length ≤ 3 ∧ ∀ x ∈ ts, ∃ z, x = .str z ∧ smlB 8 z := by
  have hn := dk_new h (.lst [])
  obtain ⟨env', s', loop, fs, hk, hlen, hsm, a, b, c, d, rfl⟩ := for_ix (t := mName 3) (b := l__law_tags_1)
    (fun i env s => ∃ fs : List Str, Dk (R ++ [.lst (fs.map .str)]) s ∧ fs.length = i ∧ (∀ z ∈ fs, smlB 8 z) ∧ ∃ a b c d, env = [some (.obj 0), some (.int many), some (.obj (R.length + 2)), a, b, c, d, none, none])
    (ups 0 many.toNat) 0 [some (.obj 0), some (.int many), some (.obj (R.length + 2)), none, none, none, none, none, none] (s ++ [.lst []]) ⟨[], hn, rfl, by simp, _, _, _, _, rfl⟩ (by
      rintro i x hx env s ⟨fs, hk, hl, hf, a, b, c, d, rfl⟩
      have := (ups_ix hx).1
      obtain ⟨z, s', b', c', d', e, k, hz⟩ := tag_turn (many := many) (v := x) (a := a) (b := b) (c := c) (d := d) hk (by omega) hf
      refine ⟨_, _, s', rfl, e, fs ++ [z], k, by simp; omega, fun w hw => ?_, _, _, _, _, rfl⟩
      rcases List.mem_append.mp hw with hw | hw
      · exact hf w hw
      · simp at hw; rw [hw]; exact hz)
  have at2 : s'[R.length + 2]? = some (.lst (fs.map .str)) := by rw [dk_at hk]; simp
  have hfl : fs.length ≤ 3 := by rw [ups_len] at hlen; omega
  refine ⟨fs.map .str, s', _, ?_, hk, by simpa using hfl, fun x hx => ?_⟩
  · unfold f__law_tags
    rw [fnM_e (by rfl)]
    unfold b__law_tags
    have nl : newL true [] s = some (.obj (R.length + 2), s ++ [.lst []]) := by rw [newL_t (by simp), dk_len h]
    have mm : many < 4000000000000000000 ∧ -4000000000000000000 < many := by omega
    have r1 : iR1 (aCons (eV 1) aNil) [some (.obj 0), some (.int many), some (.obj (R.length + 2)), none, none, none, none, none, none] (s ++ [.lst []]) = .ok (ups 0 many.toNat, none) (s ++ [.lst []]) := iR1_ok (by simp) mm
    simp [startE, nl, r1, loop, tuple_obj at2 (show (fs.map PV.str).length ≤ 16000000 by simp; omega)]
  · obtain ⟨z, hz, rfl⟩ := List.mem_map.mp hx
    exact ⟨z, rfl, hsm z hz⟩
end Lk55

set_option Elab.async false
set_option linter.all false
set_option maxRecDepth 100000
set_option maxHeartbeats 4000000
/-! k55: tapes. -/
namespace Lk55
open PySem PySem.Spec L2 Z
def lil (i : Int) : Prop := -20 ≤ i ∧ i ≤ 20
def Ru (r : PV) : Prop := ∃ a b c : Int, r = .tup [.int a, .int b, .int c] ∧ lil a ∧ lil b ∧ lil c
def St (r : PV) : Prop := ∃ rs, r = .tup rs ∧ rs.length ≤ 5 ∧ ∀ x ∈ rs, Ru x
def Mach (x : PV) : Prop := ∃ tags signs states, x = .tup [.str "tape", .tup tags, .int signs, .tup states] ∧ tags.length ≤ 3 ∧ (∀ t ∈ tags, ∃ z, t = .str z ∧ smlB 8 z) ∧ 2 ≤ signs ∧ signs ≤ 5 ∧ 1 ≤ states.length ∧ states.length ≤ 4 ∧ ∀ x ∈ states, St x
theorem add_e {mu : Bool} {m n : EM} {env : En} {s s1 s2 : S} {i j : Int} (h : m env s = .ok (.int i) s1) (g : n env s1 = .ok (.int j) s2) : eOp (oAdd mu) m n env s = .ok (.int (i + j)) s2 := op_e h g oAdd_ii
theorem lst_e {n : AM} {env : En} {s s1 : S} {xs : List PV} (h : n env s = .ok xs s1) (hl : xs.length ≤ 16000000) : eLst false n env s = .ok (.lst xs) s1 := by rw [eLst_e, h, bind_ok, newL_f hl, lift_some]
theorem tup_e {n : AM} {env : En} {s s1 : S} {xs : List PV} (h : n env s = .ok xs s1) (hl : xs.length ≤ 16000000) : eTup n env s = .ok (.tup xs) s1 := by rw [eTup_e, h, bind_ok, newT_ok' hl, lift_some]
theorem call2 {f : FM} {m n : EM} {env : En} {s s1 s2 s3 : S} {x y v : PV} (h : m env s = .ok x s1) (g : n env s1 = .ok y s2) (hf : f [x, y] s2 = .ok v s3) : eCall f (aCons m (aCons n aNil)) env s = .ok v s3 := call_e (cons_e h (cons_e g aNil_e)) hf
theorem four_mil {a b c d : PV} : [a, b, c, d].length ≤ 16000000 := by show 4 ≤ 16000000; decide
theorem rule_turn {R' s : S} {xs : List PV} {many signs st sg : Int} {o1 o2 o5 o9 : Option PV} (hk : Dk (R' ++ [.lst xs]) s) (hx : xs.length ≤ 4) (hm : 1 ≤ many ∧ many ≤ 4) (hs : 2 ≤ signs ∧ signs ≤ 5) (ht : 0 ≤ st ∧ st ≤ 4) (hg : 0 ≤ sg ∧ sg ≤ 5) :
    ∃ r s' o9', l__law_tape_2 [some (.obj 0), o1, o2, some (.int signs), some (.int many), o5, some (.int st), some (.obj (R'.length + 2)), some (.int sg), o9] s = .ok (.nx [some (.obj 0), o1, o2, some (.int signs), some (.int many), o5, some (.int st), some (.obj (R'.length + 2)), some (.int sg), o9']) s' ∧ Dk (R' ++ [.lst (xs ++ [r])]) s' ∧ Ru r := by
  obtain ⟨r1, s1, e1, k1, a1, b1⟩ := draw_ok hk (n := many + 2) (by omega) (by omega)
  obtain ⟨r2, s2, e2, k2, a2, b2⟩ := draw_ok k1 (n := many) (by omega) (by omega)
  obtain ⟨v, s3, e3, k3, hv⟩ := pick_lst k2 (xs := [.int r1, .int st, .int many, .int r2]) (by simp) (by show 4 ≤ 100000; decide)
  obtain ⟨t, rfl, ht1⟩ : ∃ t : Int, v = .int t ∧ lil t := by
    simp only [List.mem_cons, List.not_mem_nil, or_false] at hv
    rcases hv with rfl | rfl | rfl | rfl
    · exact ⟨_, rfl, by unfold lil; omega⟩
    · exact ⟨_, rfl, by unfold lil; omega⟩
    · exact ⟨_, rfl, by unfold lil; omega⟩
    · exact ⟨_, rfl, by unfold lil; omega⟩
  obtain ⟨r4, s4, e4, k4, a4, b4⟩ := draw_ok k3 (n := signs) (by omega) (by omega)
  obtain ⟨v5, s5, e5, k5, hv5⟩ := pick_lst k4 (xs := [.int sg, .int r4]) (by simp) (by show 2 ≤ 100000; decide)
  obtain ⟨t5, rfl, ht5⟩ : ∃ t : Int, v5 = .int t ∧ lil t := by
    simp only [List.mem_cons, List.not_mem_nil, or_false] at hv5
    rcases hv5 with rfl | rfl
    · exact ⟨_, rfl, by unfold lil; omega⟩
    · exact ⟨_, rfl, by unfold lil; omega⟩
  obtain ⟨v6, s6, e6, k6, hv6⟩ := pick_lst k5 (xs := [.int 1, .int 1, .int (-1), .int 0, .int 1]) (by simp) (by show 5 ≤ 100000; decide)
  obtain ⟨t6, rfl, ht6⟩ : ∃ t : Int, v6 = .int t ∧ lil t := by
    simp only [List.mem_cons, List.not_mem_nil, or_false] at hv6
    rcases hv6 with rfl | rfl | rfl | rfl | rfl <;> exact ⟨_, rfl, by unfold lil; omega⟩
  have at6 : s6[R'.length + 2]? = some (.lst xs) := by rw [dk_at k6]; simp
  refine ⟨.tup [.int t, .int t5, .int t6], s6.set (R'.length + 2) (.lst (xs ++ [.tup [.int t, .int t5, .int t6]])), some (.int t), ?_, by have := dk_set k6 R'.length (.lst (xs ++ [.tup [.int t, .int t5, .int t6]])); simpa using this, _, _, _, rfl, ht1, ht5, ht6⟩
  unfold l__law_tape_2
  refine (seq_asg (v := .int t) (s1 := s3) (call2 eV_0 (lst_e (cons_e (call2 eV_0 (add_e eV_4 eC_e) e1) (cons_e eV_6 (cons_e eV_4 (cons_e (call2 eV_0 eV_4 e2) aNil_e)))) four_mil) e3) rfl).trans ?_
  refine expr_e (mt_e eV_7 (isl_obj (xs := xs) (by rw [dk_at k3]; simp)) (cons_e (tup_e (cons_e eV_9 (cons_e (call2 eV_0 (lst_e (cons_e eV_8 (cons_e (call2 eV_0 eV_3 e4) aNil_e)) (by show 2 ≤ 16000000; decide)) e5) (cons_e (call2 eV_0 (lst_e (cons_e eC_e (cons_e eC_e (cons_e (show eUn uNeg (eC (.int 1)) _ _ = .ok (.int (-1)) _ from rfl) (cons_e eC_e (cons_e eC_e aNil_e))))) (by show 5 ≤ 16000000; decide)) e6) aNil_e))) (by show 3 ≤ 16000000; decide)) aNil_e) (app_obj at6 (by omega)))
theorem state_turn {R1 J s : S} {sts : List PV} {many signs st : Int} {o1 o2 o7 o8 o9 : Option PV} (hk : Dk (R1 ++ .lst sts :: J) s) (hx : sts.length ≤ 3) (hm : 1 ≤ many ∧ many ≤ 4) (hs : 2 ≤ signs ∧ signs ≤ 5) (ht : 0 ≤ st ∧ st ≤ 4) :
    ∃ r s' J' o7' o8' o9', l__law_tape_1 [some (.obj 0), o1, o2, some (.int signs), some (.int many), some (.obj (R1.length + 2)), some (.int st), o7, o8, o9] s = .ok (.nx [some (.obj 0), o1, o2, some (.int signs), some (.int many), some (.obj (R1.length + 2)), some (.int st), o7', o8', o9']) s' ∧ Dk (R1 ++ .lst (sts ++ [r]) :: J') s' ∧ St r := by
  generalize hR : R1 ++ MO.lst sts :: J = R' at hk
  have hn := dk_new hk (.lst [])
  obtain ⟨env', s', loop, xs, hk2, hlen, hsm, o8', o9', rfl⟩ := for_ix (t := mName 8) (b := l__law_tape_2)
    (fun i env s => ∃ xs : List PV, Dk (R' ++ [.lst xs]) s ∧ xs.length = i ∧ (∀ z ∈ xs, Ru z) ∧ ∃ o8 o9, env = [some (.obj 0), o1, o2, some (.int signs), some (.int many), some (.obj (R1.length + 2)), some (.int st), some (.obj (R'.length + 2)), o8, o9])
    (ups 0 signs.toNat) 0 [some (.obj 0), o1, o2, some (.int signs), some (.int many), some (.obj (R1.length + 2)), some (.int st), some (.obj (R'.length + 2)), o8, o9] (s ++ [.lst []]) ⟨[], hn, rfl, by simp, _, _, rfl⟩ (by
      rintro i x hxi env s ⟨xs, hk, hl, hf, o8, o9, rfl⟩
      obtain ⟨hi, rfl⟩ := ups_ix hxi
      obtain ⟨r, s', o9', e, k, hr⟩ := rule_turn (many := many) (signs := signs) (st := st) (sg := 0 + (i : Nat)) (o1 := o1) (o2 := o2) (o5 := some (.obj (R1.length + 2))) (o9 := o9) hk (by omega) hm hs ht (by omega)
      refine ⟨_, _, s', rfl, e, xs ++ [r], k, by simp; omega, fun w hw => ?_, _, _, rfl⟩
      rcases List.mem_append.mp hw with hw | hw
      · exact hf w hw
      · simp at hw; rw [hw]; exact hr)
  have hxl : xs.length ≤ 5 := by rw [ups_len] at hlen; omega
  have at7 : s'[R'.length + 2]? = some (.lst xs) := by rw [dk_at hk2]; simp
  have hk3 : Dk (R1 ++ .lst sts :: (J ++ [.lst xs])) s' := by rw [← hR] at hk2; simpa using hk2
  have at5 : s'[R1.length + 2]? = some (.lst sts) := by rw [dk_at hk3]; simp
  refine ⟨.tup xs, s'.set (R1.length + 2) (.lst (sts ++ [.tup xs])), J ++ [.lst xs], some (.obj (R'.length + 2)), o8', o9', ?_, by have := dk_set hk3 R1.length (.lst (sts ++ [.tup xs])); simpa using this, xs, rfl, hxl, hsm⟩
  unfold l__law_tape_1
  have nl : eLst true aNil [some (.obj 0), o1, o2, some (.int signs), some (.int many), some (.obj (R1.length + 2)), some (.int st), o7, o8, o9] s = .ok (.obj (R'.length + 2)) (s ++ [.lst []]) := by
    rw [eLst_e, aNil_e, bind_ok, newL_t (by simp), lift_some, dk_len hk]
  have r1 : iR1 (aCons (eV 3) aNil) [some (.obj 0), o1, o2, some (.int signs), some (.int many), some (.obj (R1.length + 2)), some (.int st), some (.obj (R'.length + 2)), o8, o9] (s ++ [.lst []]) = .ok (ups 0 signs.toNat, none) (s ++ [.lst []]) := iR1_ok (cons_e eV_3 aNil_e) (by omega)
  refine (seq_asg nl rfl).trans ((seq_nx ((for_e r1).trans loop)).trans ?_)
  exact expr_e (mt_e eV_5 (isl_obj at5) (cons_e (ls_e (cons_e eV_7 aNil_e) (tuple_obj at7 (by omega))) aNil_e) (app_obj at5 (by omega)))
end Lk55

set_option Elab.async false
set_option linter.all false
set_option maxRecDepth 100000
set_option maxHeartbeats 4000000
/-! k55: a tape; what is bent. -/
namespace Lk55
open PySem PySem.Spec L2 Z
theorem tape_ok {R s : S} (h : Dk R s) : ∃ x s' J, f__law_tape [.obj 0, .int 4] s = .ok x s' ∧ Dk (R ++ J) s' ∧ Mach x := by
  obtain ⟨v, s1, e1, k1, hv⟩ := pick_lst h (xs := [.int 1, .int 2, .int 0, .int 3]) (by simp) (by show 4 ≤ 100000; decide)
  obtain ⟨n, rfl, n0, n3⟩ : ∃ n : Int, v = .int n ∧ 0 ≤ n ∧ n ≤ 3 := by
    simp only [List.mem_cons, List.not_mem_nil, or_false] at hv
    rcases hv with rfl | rfl | rfl | rfl <;> exact ⟨_, rfl, by decide, by decide⟩
  obtain ⟨tags, s2, J, e2, k2, lt, ht⟩ := tags_ok k1 n0 n3
  obtain ⟨r3, s3, e3, k3, a3, b3⟩ := draw_ok k2 (n := 2) (by decide) (by decide)
  obtain ⟨r4, s4, e4, k4, a4, b4⟩ := draw_ok k3 (n := 4) (by decide) (by decide)
  have hn := dk_new k4 (.lst [])
  generalize hR : R ++ J = R1 at k4 hn
  generalize hsg : (if ((tags.length : Nat) : Int) + 2 + r3 < 5 then ((tags.length : Nat) : Int) + 2 + r3 else 5) = sg
  have sg2 : 2 ≤ sg ∧ sg ≤ 5 := by rw [← hsg]; split <;> omega
  obtain ⟨env', s', loop, sts, J', hk2, hlen, hsm, o6, o7, o8, o9, rfl⟩ := for_ix (t := mName 6) (b := l__law_tape_1)
    (fun i env s => ∃ (sts : List PV) (J' : S), Dk (R1 ++ .lst sts :: J') s ∧ sts.length = i ∧ (∀ z ∈ sts, St z) ∧ ∃ o6 o7 o8 o9, env = [some (.obj 0), some (.int 4), some (.tup tags), some (.int sg), some (.int (1 + r4)), some (.obj (R1.length + 2)), o6, o7, o8, o9])
    (ups 0 (1 + r4).toNat) 0 [some (.obj 0), some (.int 4), some (.tup tags), some (.int sg), some (.int (1 + r4)), some (.obj (R1.length + 2)), none, none, none, none] (s4 ++ [.lst []]) ⟨[], [], hn, rfl, by simp, _, _, _, _, rfl⟩ (by
      rintro i x hxi env s ⟨sts, J', hk, hl, hf, o6, o7, o8, o9, rfl⟩
      obtain ⟨hi, rfl⟩ := ups_ix hxi
      obtain ⟨r, s', J2, o7', o8', o9', e, k, hr⟩ := state_turn (many := 1 + r4) (signs := sg) (st := 0 + (i : Nat)) (o1 := some (.int 4)) (o2 := some (.tup tags)) (o7 := o7) (o8 := o8) (o9 := o9) hk (by omega) (by omega) sg2 (by omega)
      refine ⟨_, _, s', rfl, e, sts ++ [r], J2, k, by simp; omega, fun w hw => ?_, _, _, _, _, rfl⟩
      rcases List.mem_append.mp hw with hw | hw
      · exact hf w hw
      · simp at hw; rw [hw]; exact hr)
  have hsl : 1 ≤ sts.length ∧ sts.length ≤ 4 := by rw [ups_len] at hlen; omega
  have at5 : s'[R1.length + 2]? = some (.lst sts) := by rw [dk_at hk2]; simp
  refine ⟨.tup [.str "tape", .tup tags, .int sg, .tup sts], s', J ++ .lst sts :: J', ?_, by rw [← hR] at hk2; simpa using hk2, tags, sg, sts, rfl, lt, ht, sg2.1, sg2.2, hsl.1, hsl.2, hsm⟩
  unfold f__law_tape
  refine fn_e rfl (env := [some (.obj 0), some (.int 4), none, none, none, none, none, none, none, none]) rfl ?_
  unfold b__law_tape
  refine (seq_asg (v := .tup tags) (call2 eV_0 (call2 eV_0 (lst_e (cons_e eC_e (cons_e eC_e (cons_e eC_e (cons_e eC_e aNil_e)))) four_mil) e1) e2) rfl).trans ?_
  have mn : eLs bMin2 (aCons (eC (.int 5)) (aCons (eOp (oAdd false) (eOp (oAdd false) (eLs bLen (aCons (eV 2) aNil)) (eC (.int 2))) (eCall f__law_draw (aCons (eV 0) (aCons (eC (.int 2)) aNil)))) aNil)) [some (.obj 0), some (.int 4), some (.tup tags), none, none, none, none, none, none, none] s2 = .ok (.int sg) s3 :=
    ls_e (cons_e eC_e (cons_e (add_e (add_e (ls_e (cons_e eV_2 aNil_e) len_tup) eC_e) (call2 eV_0 eC_e e3)) aNil_e)) (by rw [bMin2_ii, hsg])
  refine (seq_asg mn rfl).trans ?_
  have nl : eLst true aNil [some (.obj 0), some (.int 4), some (.tup tags), some (.int sg), none, none, none, none, none, none] s4 = .ok (.obj (R1.length + 2)) (s4 ++ [.lst []]) := by
    rw [eLst_e, aNil_e, bind_ok, newL_t (by simp), lift_some, dk_len k4]
  refine (seq_nx (par_e (cons_e (add_e eC_e (call2 eV_0 eV_1 e4)) (cons_e nl aNil_e)))).trans ?_
  refine (seq_nx ((for_e (iR1_ok (j := 1 + r4) (cons_e eV_4 aNil_e) (by omega))).trans loop)).trans ?_
  exact ret_e (tup_e (cons_e eC_e (cons_e eV_2 (cons_e eV_3 (cons_e (ls_e (cons_e eV_5 aNil_e) (tuple_obj at5 (by omega))) aNil_e)))) four_mil)
/-! ### tiny -/
theorem ru_tiny {x : PV} (h : Ru x) : tiny 1 x ∧ cnt x = 4 := by
  obtain ⟨a, b, c, rfl, ha, hb, hc⟩ := h
  refine ⟨⟨by show 3 ≤ 20; decide, fun y hy => ?_⟩, by simp⟩
  simp only [List.mem_cons, List.not_mem_nil, or_false] at hy
  rcases hy with rfl | rfl | rfl
  · exact ha
  · exact hb
  · exact hc
theorem cnts_le {k : Nat} : ∀ {xs : List PV}, (∀ x ∈ xs, cnt x ≤ k) → cnts xs ≤ k * xs.length
  | [], _ => by simp
  | x :: xs, h => by
    have := cnts_le (k := k) (xs := xs) fun y hy => h y (by simp [hy])
    have h1 := h x (by simp)
    simp only [cnts_cons, List.length_cons, Nat.mul_succ]; omega
theorem st_tiny {x : PV} (h : St x) : tiny 2 x ∧ cnt x ≤ 21 := by
  obtain ⟨rs, rfl, hl, hr⟩ := h
  have := cnts_le (k := 4) fun y hy => Nat.le_of_eq (ru_tiny (hr y hy)).2
  exact ⟨⟨by omega, fun y hy => (ru_tiny (hr y hy)).1⟩, by simp; omega⟩
theorem mach_tiny {x : PV} (h : Mach x) : tiny 4 x ∧ cnt x ≤ 100 := by
  obtain ⟨tags, sg, sts, rfl, l1, h1, a, b, l2, l3, h2⟩ := h
  have c1 := cnts_le (k := 1) (xs := tags) fun y hy => by obtain ⟨z, rfl, _⟩ := h1 y hy; simp
  have c2 := cnts_le (k := 21) fun y hy => (st_tiny (h2 y hy)).2
  refine ⟨⟨by show 4 ≤ 20; decide, fun y hy => ?_⟩, by simp; omega⟩
  simp only [List.mem_cons, List.not_mem_nil, or_false] at hy
  rcases hy with rfl | rfl | rfl | rfl
  · exact ⟨by decide, by decide⟩
  · exact ⟨by omega, fun z hz => by obtain ⟨w, rfl, hw⟩ := h1 z hz; exact ⟨by have := hw.1; omega, hw.2⟩⟩
  · show sintB 20 sg; unfold sintB; omega
  · exact ⟨by omega, fun z hz => ok_lev (st_tiny (h2 z hz)).1 (by decide)⟩
end Lk55

set_option Elab.async false
set_option linter.all false
set_option maxRecDepth 100000
set_option maxHeartbeats 4000000
/-! k55: a leaf, a place bent. -/
namespace Lk55
open PySem PySem.Spec L2 Z
/-- rows of small ints and texts -/
def TI : Nat → PV → Prop
  | _, .int i => lil i
  | _, .str z => smlB 20 z
  | n + 1, .tup xs => xs.length ≤ 20 ∧ ∀ x ∈ xs, TI n x
  | _, _ => False
theorem ti_up : ∀ {n : Nat} {x : PV}, TI n x → ∀ {m : Nat}, n ≤ m → TI m x
  | n, .int i, h, m, _ => by unfold TI at *; exact h
  | n, .str i, h, m, _ => by unfold TI at *; exact h
  | 0, .tup xs, h, m, _ => by unfold TI at h; exact h.elim
  | n + 1, .tup xs, h, m, hm => by
    obtain ⟨m, rfl⟩ : ∃ k, m = k + 1 := ⟨m - 1, by omega⟩
    exact ⟨h.1, fun x hx => ti_up (h.2 x hx) (by omega)⟩
  | n, .non, h, m, _ => by unfold TI at h; exact h.elim
  | n, .bl _, h, m, _ => by unfold TI at h; exact h.elim
  | n, .lst _, h, m, _ => by unfold TI at h; exact h.elim
  | n, .scr _, h, m, _ => by unfold TI at h; exact h.elim
  | n, .dic _, h, m, _ => by unfold TI at h; exact h.elim
  | n, .obj _, h, m, _ => by unfold TI at h; exact h.elim
theorem ti_tiny : ∀ {n : Nat} {x : PV}, TI n x → tiny n x
  | n, .int i, h => by unfold TI at h; unfold okP; exact h
  | n, .str i, h => by unfold TI at h; unfold okP; exact h
  | 0, .tup xs, h => by unfold TI at h; exact h.elim
  | n + 1, .tup xs, h => ⟨h.1, fun x hx => ti_tiny (h.2 x hx)⟩
  | n, .non, h => by unfold TI at h; exact h.elim
  | n, .bl _, h => by unfold TI at h; exact h.elim
  | n, .lst _, h => by unfold TI at h; exact h.elim
  | n, .scr _, h => by unfold TI at h; exact h.elim
  | n, .dic _, h => by unfold TI at h; exact h.elim
  | n, .obj _, h => by unfold TI at h; exact h.elim
theorem ti_ok {n m : Nat} {x : PV} (h : TI n x) (hm : n ≤ m) : ok m x := ok_of_tiny (ti_tiny h) hm
theorem ru_ti {x : PV} (h : Ru x) : TI 1 x := by
  obtain ⟨a, b, c, rfl, ha, hb, hc⟩ := h
  refine ⟨by show 3 ≤ 20; decide, fun y hy => ?_⟩
  simp only [List.mem_cons, List.not_mem_nil, or_false] at hy
  rcases hy with rfl | rfl | rfl
  · exact ha
  · exact hb
  · exact hc
theorem st_ti {x : PV} (h : St x) : TI 2 x := by
  obtain ⟨rs, rfl, hl, hr⟩ := h
  exact ⟨by omega, fun y hy => ru_ti (hr y hy)⟩
theorem mach_ti {x : PV} (h : Mach x) : TI 4 x := by
  obtain ⟨tags, sg, sts, rfl, l1, h1, a, b, l2, l3, h2⟩ := h
  refine ⟨by show 4 ≤ 20; decide, fun y hy => ?_⟩
  simp only [List.mem_cons, List.not_mem_nil, or_false] at hy
  rcases hy with rfl | rfl | rfl | rfl
  · exact ⟨by decide, by decide⟩
  · exact ⟨by omega, fun z hz => by obtain ⟨w, rfl, hw⟩ := h1 z hz; exact ⟨by have := hw.1; omega, hw.2⟩⟩
  · show lil sg; unfold lil; omega
  · exact ⟨by omega, fun z hz => ti_up (st_ti (h2 z hz)) (by decide)⟩
/-! ### slices -/
section
variable {env : En} {s s1 : S} {xs ys : List PV} {i : Int} {a b : Option Int} {mu : Bool}
theorem pis_e {m : EM} (h : m env s = .ok (.int i) s1) : pIs m env s = .ok (some i) s1 := by
  show (m env s).bind _ = _
  rw [h]; rfl
theorem sl_tup {m : EM} {lo hi : PM} (h : m env s = .ok (.tup xs) s1) (hl : xs.length ≤ 1000) (h1 : lo env s1 = .ok a s1) (h2 : hi env s1 = .ok b s1) : eSl mu m lo hi env s = .ok (.tup (cut xs a b)) s1 := by
  rw [eSl_e, h, bind_ok, h1, bind_ok, h2, bind_ok]
  show lift (newT (cut xs a b) s1) = _
  rw [newT_ok' (Nat.le_trans (cut_len _ _ _) (Nat.le_trans hl (by decide))), lift_some]
theorem cat_tup {m n : EM} (h : m env s = .ok (.tup xs) s1) (g : n env s1 = .ok (.tup ys) s1) (hl : xs.length + ys.length ≤ 16000000) : eOp (oAdd mu) m n env s = .ok (.tup (xs ++ ys)) s1 :=
  op_e h g (show newT (xs ++ ys) s1 = _ from newT_ok' (by rw [List.length_append]; exact hl))
theorem cat_tup2 {m n : EM} {s2 : S} (h : m env s = .ok (.tup xs) s1) (g : n env s1 = .ok (.tup ys) s2) (hl : xs.length + ys.length ≤ 16000000) : eOp (oAdd mu) m n env s = .ok (.tup (xs ++ ys)) s2 :=
  op_e h g (show newT (xs ++ ys) s2 = _ from newT_ok' (by rw [List.length_append]; exact hl))
theorem lsx_e {m : EM} (h : m env s = .ok (.tup xs) s1) (hl : xs.length ≤ 16000000) : eLs (bList false) (aCons m aNil) env s = .ok (.lst xs) s1 :=
  ls_e (cons_e h aNil_e) (show newL false xs s1 = _ from newL_f hl)
theorem back_e {m : EM} (h : m env s = .ok (.tup xs) s1) (hl : xs.length ≤ 16000000) : eUn (uBack mu) m env s = .ok (.tup xs.reverse) s1 := by
  rw [eUn_e, h, bind_ok, show uBack mu (.tup xs) s1 = newT xs.reverse s1 from rfl, newT_ok' (by simpa using hl), lift_some]
theorem un_e {f : O1} {m : EM} {x v : PV} {s2 : S} (h : m env s = .ok x s1) (hf : f x s1 = some (v, s2)) : eUn f m env s = .ok v s2 := by rw [eUn_e, h, bind_ok, hf, lift_some]
theorem tb_e {m : EM} {k : Bool} (h : m env s = .ok (.bl k) s1) : tB m env s = .ok k s1 := by rw [tB_e, h, bind_ok]
theorem tand_t {m n : TM} {k : Bool} {s2 : S} (h : m env s = .ok true s1) (g : n env s1 = .ok k s2) : tAnd m n env s = .ok k s2 := by rw [tAnd_e, h, bind_ok, if_pos rfl, g]
theorem tand_f {m n : TM} (h : m env s = .ok false s1) : tAnd m n env s = .ok false s1 := by rw [tAnd_e, h, bind_ok, if_neg Bool.false_ne_true]
theorem tor_t {m n : TM} (h : m env s = .ok true s1) : tOr m n env s = .ok true s1 := by rw [tOr_e, h, bind_ok, if_pos rfl]
theorem tor_f {m n : TM} {k : Bool} {s2 : S} (h : m env s = .ok false s1) (g : n env s1 = .ok k s2) : tOr m n env s = .ok k s2 := by rw [tOr_e, h, bind_ok, if_neg Bool.false_ne_true, g]
theorem eif_t {t : TM} {m n : EM} (h : t env s = .ok true s1) : eIf t m n env s = m env s1 := by rw [eIf_e, h, bind_ok, if_pos rfl]
theorem eif_f {t : TM} {m n : EM} (h : t env s = .ok false s1) : eIf t m n env s = n env s1 := by rw [eIf_e, h, bind_ok, if_neg Bool.false_ne_true]
end
def odds : List PV := [.non, .bl true, .bl false, .int 0, .int 1, .int (-1), .int 9, .str "", .str "a", .str "tape", .tup [], .lst [], .dic [], .int 1000000000000000000000000000000000000000, .str "A", .str "abcdefghi"]
theorem odds_ok {x : PV} (h : x ∈ odds) : ok 1 x ∧ cnt x ≤ 1 := by
  simp only [odds, List.mem_cons, List.not_mem_nil, or_false] at h
  rcases h with rfl | rfl | rfl | rfl | rfl | rfl | rfl | rfl | rfl | rfl | rfl | rfl | rfl | rfl | rfl | rfl
  · exact ⟨trivial, by simp⟩
  · exact ⟨trivial, by simp⟩
  · exact ⟨trivial, by simp⟩
  · exact ⟨by show sint _; unfold sint sintB; omega, by simp⟩
  · exact ⟨by show sint _; unfold sint sintB; omega, by simp⟩
  · exact ⟨by show sint _; unfold sint sintB; omega, by simp⟩
  · exact ⟨by show sint _; unfold sint sintB; omega, by simp⟩
  · exact ⟨⟨by decide, by decide⟩, by simp⟩
  · exact ⟨⟨by decide, by decide⟩, by simp⟩
  · exact ⟨⟨by decide, by decide⟩, by simp⟩
  · exact ⟨⟨by decide, by intro x hx; cases hx⟩, by simp⟩
  · exact ⟨⟨by decide, by intro x hx; cases hx⟩, by simp⟩
  · exact ⟨trivial, by simp⟩
  · exact ⟨by show sint _; unfold sint sintB; omega, by simp⟩
  · exact ⟨⟨by decide, by decide⟩, by simp⟩
  · exact ⟨⟨by decide, by decide⟩, by simp⟩
theorem odd_list {env : En} {s : S} : eLst false (aCons (eC .non) (aCons (eC (.bl true)) (aCons (eC (.bl false)) (aCons (eC (.int 0)) (aCons (eC (.int 1)) (aCons (eUn uNeg (eC (.int 1))) (aCons (eC (.int 9)) (aCons (eC (.str "")) (aCons (eC (.str "a")) (aCons (eC (.str "tape")) (aCons (eTup aNil) (aCons (eLst false aNil) (aCons (eDic0 false) (aCons (eOp oPow (eC (.int 10)) (eC (.int 39))) (aCons (eC (.str "A")) (aCons (eC (.str "abcdefghi")) aNil)))))))))))))))) env s = .ok (.lst odds) s :=
  lst_e (cons_e eC_e (cons_e eC_e (cons_e eC_e (cons_e eC_e (cons_e eC_e (cons_e (un_e eC_e uNeg_i) (cons_e eC_e (cons_e eC_e (cons_e eC_e (cons_e eC_e (cons_e (show eTup aNil _ _ = .ok (.tup []) _ from rfl) (cons_e (show eLst false aNil _ _ = .ok (.lst []) _ from rfl) (cons_e (show eDic0 false _ _ = .ok (.dic []) _ from rfl)
    (cons_e (op_e eC_e eC_e (show oPow (.int 10) (.int 39) _ = some (.int 1000000000000000000000000000000000000000, _) from rfl)) (cons_e eC_e (cons_e eC_e aNil_e)))))))))))))))) (by show 16 ≤ 16000000; decide)
theorem gt0_e {m : EM} {env : En} {s s1 : S} {i : Int} (h : m env s = .ok (.int i) s1) : tB (eOp oGt m (eC (.int 0))) env s = .ok (decide (0 < i)) s1 := tb_e (op_e h eC_e oGt_ii)
theorem leaf_ok {R s : S} (h : Dk R s) {n : Nat} {x : PV} (hx : TI n x) : ∃ v s', f__law_leaf [.obj 0, x] s = .ok v s' ∧ Dk R s' ∧ ok (n + 2) v ∧ cnt v ≤ 2 * cnt x + 2 := by
  have fin : ∀ {y : PV} {t : S} (ex : List PV), Dk R t → eIf (tB (eUn (uIsi .str) (eV 1))) (eLst false (aCons (eOp (oAdd false) (eV 1) (eC (.str "s"))) (aCons (eSl false (eV 1) (pIs (eC (.int 1))) pNo) (aCons (eMt .str mUpper (eV 1) aNil) (aCons (eTup (aCons (eV 1) aNil)) aNil))))) (eLst false aNil) [some (.obj 0), some x, some (.lst odds)] t = .ok (.lst ex) t →
      ex.length ≤ 4 → (∀ y ∈ ex, ok (n + 2) y ∧ cnt y ≤ 2 * cnt x + 2) → ∃ v s', sRet (eCall f__law_pick (aCons (eV 0) (aCons (eOp (oAdd false) (eV 2) (eIf (tB (eUn (uIsi .str) (eV 1))) (eLst false (aCons (eOp (oAdd false) (eV 1) (eC (.str "s"))) (aCons (eSl false (eV 1) (pIs (eC (.int 1))) pNo) (aCons (eMt .str mUpper (eV 1) aNil) (aCons (eTup (aCons (eV 1) aNil)) aNil))))) (eLst false aNil))) aNil))) [some (.obj 0), some x, some (.lst odds)] t = .ok (.ret v) s' ∧ Dk R s' ∧ ok (n + 2) v ∧ cnt v ≤ 2 * cnt x + 2 := by
    intro y t ex ht e1 hl hex
    have hlo : odds.length = 16 := rfl
    obtain ⟨v, s', e2, k2, hv⟩ := pick_lst ht (xs := odds ++ ex) (by simp [odds]) (by rw [List.length_append, hlo]; omega)
    have cat : eOp (oAdd false) (eV 2) (eIf (tB (eUn (uIsi .str) (eV 1))) (eLst false (aCons (eOp (oAdd false) (eV 1) (eC (.str "s"))) (aCons (eSl false (eV 1) (pIs (eC (.int 1))) pNo) (aCons (eMt .str mUpper (eV 1) aNil) (aCons (eTup (aCons (eV 1) aNil)) aNil))))) (eLst false aNil)) [some (.obj 0), some x, some (.lst odds)] t = .ok (.lst (odds ++ ex)) t :=
      op_e eV_2 e1 (show newL false (odds ++ ex) t = _ from newL_f (by rw [List.length_append, hlo]; omega))
    refine ⟨v, s', ret_e (call2 eV_0 cat e2), k2, ?_⟩
    rcases List.mem_append.mp hv with hv | hv
    · have := odds_ok hv
      exact ⟨ok_lev this.1 (by omega), by omega⟩
    · exact hex v hv
  have run : ∀ {v : PV} {s' : S}, b__law_leaf [some (.obj 0), some x, none] s = .ok (.ret v) s' → f__law_leaf [.obj 0, x] s = .ok v s' := fun e => fn_e rfl (env := [some (.obj 0), some x, none]) rfl e
  cases x with
  | tup xs =>
    obtain ⟨m, rfl⟩ : ∃ m, n = m + 1 := by cases n with | zero => unfold TI at hx; exact hx.elim | succ m => exact ⟨m, rfl⟩
    have hl : xs.length ≤ 20 := hx.1
    have hm : ∀ y ∈ xs, ok m y := fun y hy => ti_ok (hx.2 y hy) (Nat.le_refl _)
    obtain ⟨r, s1, e1, k1, a1, b1⟩ := draw_ok h (n := 4) (by decide) (by decide)
    have t1 : tAnd (tB (eUn (uIsi .tuple) (eV 1))) (tB (eOp oGt (eCall f__law_draw (aCons (eV 0) (aCons (eC (.int 4)) aNil))) (eC (.int 0)))) [some (.obj 0), some (.tup xs), some (.lst odds)] s = .ok (decide (0 < r)) s1 := tand_t (tb_e (un_e eV_1 rfl)) (gt0_e (call2 eV_0 eC_e e1))
    by_cases hr : 0 < r
    · obtain ⟨v, s2, e2, k2, hv⟩ := pick_lst k1 (xs := [.lst xs, .tup xs.reverse, .tup (cut xs (some 1) none), .tup (xs ++ cut xs (some (-1)) none), .tup (xs ++ [.int 0]), .tup (cut xs none (some (-1))), .tup [.tup xs]]) (by simp) (by show 7 ≤ 100000; decide)
      refine ⟨v, s2, run ?_, k2, ?_⟩
      · unfold b__law_leaf
        refine (seq_asg odd_list rfl).trans (seq_ret ((if_t (t1.trans (congrArg (fun b => Rs.ok b s1) (decide_eq_true hr)))).trans ?_))
        have cl := cut_len xs (some (-1)) none
        exact ret_e (call2 eV_0 (lst_e (cons_e (lsx_e eV_1 (by omega)) (cons_e (back_e eV_1 (by omega)) (cons_e (sl_tup eV_1 (by omega) (pis_e eC_e) pNo_e) (cons_e (cat_tup eV_1 (sl_tup eV_1 (by omega) (pis_e (un_e eC_e uNeg_i)) pNo_e) (by omega)) (cons_e (cat_tup eV_1 (tup_e (cons_e eC_e aNil_e) (by show 1 ≤ 16000000; decide)) (by simp; omega)) (cons_e (sl_tup eV_1 (by omega) pNo_e (pis_e (un_e eC_e uNeg_i))) (cons_e (tup_e (cons_e eV_1 aNil_e) (by show 1 ≤ 16000000; decide)) aNil_e))))))) (by show 7 ≤ 16000000; decide)) e2)
      · simp only [List.mem_cons, List.not_mem_nil, or_false] at hv
        have up : ∀ y ∈ xs, ok (m + 2) y := fun y hy => ok_lev (hm y hy) (by omega)
        rcases hv with rfl | rfl | rfl | rfl | rfl | rfl | rfl
        · exact ⟨⟨by omega, up⟩, by simp; omega⟩
        · exact ⟨⟨by simp; omega, fun y hy => up y (by simpa using hy)⟩, by simp [cnts_rev]; omega⟩
        · have := cut_len xs (some 1) none
          have := cnts_cut xs (some 1) none
          exact ⟨⟨by omega, fun y hy => up y (cut_mem hy)⟩, by simp; omega⟩
        · have := cut_len xs (some (-1)) none
          have := cnts_cut xs (some (-1)) none
          exact ⟨⟨by simp; omega, fun y hy => (List.mem_append.mp hy).elim (up y) fun z => up y (cut_mem z)⟩, by simp; omega⟩
        · refine ⟨⟨by simp; omega, fun y hy => (List.mem_append.mp hy).elim (up y) fun z => ?_⟩, by simp; omega⟩
          simp at z; subst z
          show sint 0; unfold sint sintB; omega
        · have := cut_len xs none (some (-1))
          have := cnts_cut xs none (some (-1))
          exact ⟨⟨by omega, fun y hy => up y (cut_mem hy)⟩, by simp; omega⟩
        · refine ⟨⟨by show 1 ≤ 1000; decide, fun y hy => ?_⟩, by simp; omega⟩
          simp at hy; subst hy
          exact ⟨by omega, fun y hy => ok_lev (hm y hy) (by omega)⟩
    · obtain ⟨v, s2, e2, k2, hv⟩ := fin (y := .non) [] k1 ((eif_f (tb_e (un_e eV_1 rfl))).trans rfl) (by decide) (by intro y hy; cases hy)
      refine ⟨v, s2, run ?_, k2, hv⟩
      unfold b__law_leaf
      refine (seq_asg odd_list rfl).trans ((seq_nx ((if_f (t1.trans (congrArg (fun b => Rs.ok b s1) (decide_eq_false hr)))).trans sNil_e)).trans ((seq_nx ((if_f (tand_f (tb_e (un_e eV_1 rfl)))).trans sNil_e)).trans e2))
  | int i =>
    have hi : lil i := by unfold TI at hx; exact hx
    obtain ⟨r, s1, e1, k1, a1, b1⟩ := draw_ok h (n := 4) (by decide) (by decide)
    have t1 : tAnd (tB (eUn (uIsi .int) (eV 1))) (tB (eOp oGt (eCall f__law_draw (aCons (eV 0) (aCons (eC (.int 4)) aNil))) (eC (.int 0)))) [some (.obj 0), some (.int i), some (.lst odds)] s = .ok (decide (0 < r)) s1 := tand_t (tb_e (un_e eV_1 rfl)) (gt0_e (call2 eV_0 eC_e e1))
    by_cases hr : 0 < r
    · have bs : bStr [.int i] s1 = some (.str (Str.ofString (toString i)), s1) := by
        unfold bStr
        have : i.natAbs.log2 < 1920 := by
          by_cases z : i.natAbs = 0
          · rw [z]; decide
          · exact (Nat.log2_lt z).mpr (Nat.lt_of_lt_of_le (show i.natAbs < 2 ^ 10 by unfold lil at hi; omega) (Nat.pow_le_pow_right (by decide) (by decide)))
        simp only [if_pos this]
      obtain ⟨v, s2, e2, k2, hv⟩ := pick_lst k1 (xs := [.int (i + 1), .int (i - 1), .bl (i == 1), .str (Str.ofString (toString i)), .int (-i), .int (i + 2), .tup [.int i]]) (by simp) (by show 7 ≤ 100000; decide)
      refine ⟨v, s2, run ?_, k2, ?_⟩
      · unfold b__law_leaf
        refine (seq_asg odd_list rfl).trans ((seq_nx ((if_f (tand_f (tb_e (un_e eV_1 rfl)))).trans sNil_e)).trans (seq_ret ((if_t (t1.trans (congrArg (fun b => Rs.ok b s1) (decide_eq_true hr)))).trans ?_)))
        exact ret_e (call2 eV_0 (lst_e (cons_e (add_e eV_1 eC_e) (cons_e (op_e eV_1 eC_e oSub_ii) (cons_e (op_e eV_1 eC_e eqInt) (cons_e (ls_e (cons_e eV_1 aNil_e) bs) (cons_e (un_e eV_1 uNeg_i) (cons_e (add_e eV_1 eC_e) (cons_e (tup_e (cons_e eV_1 aNil_e) (by show 1 ≤ 16000000; decide)) aNil_e))))))) (by show 7 ≤ 16000000; decide)) e2)
      · unfold lil at hi
        simp only [List.mem_cons, List.not_mem_nil, or_false] at hv
        have si : ∀ j : Int, -100 ≤ j → j ≤ 100 → ok (n + 2) (.int j) := fun j h1 h2 => by show sint j; unfold sint sintB; omega
        rcases hv with rfl | rfl | rfl | rfl | rfl | rfl | rfl
        · exact ⟨si _ (by omega) (by omega), by simp⟩
        · exact ⟨si _ (by omega) (by omega), by simp⟩
        · exact ⟨trivial, by simp⟩
        · exact ⟨int_sml i hi.1 hi.2, by simp⟩
        · exact ⟨si _ (by omega) (by omega), by simp⟩
        · exact ⟨si _ (by omega) (by omega), by simp⟩
        · refine ⟨⟨by show 1 ≤ 1000; decide, fun y hy => ?_⟩, by simp⟩
          simp at hy; subst hy
          show sint i; unfold sint sintB; omega
    · obtain ⟨v, s2, e2, k2, hv⟩ := fin (y := .non) [] k1 ((eif_f (tb_e (un_e eV_1 rfl))).trans rfl) (by decide) (by intro y hy; cases hy)
      refine ⟨v, s2, run ?_, k2, hv⟩
      unfold b__law_leaf
      refine (seq_asg odd_list rfl).trans ((seq_nx ((if_f (tand_f (tb_e (un_e eV_1 rfl)))).trans sNil_e)).trans ((seq_nx ((if_f (t1.trans (congrArg (fun b => Rs.ok b s1) (decide_eq_false hr)))).trans sNil_e)).trans e2))
  | str z =>
    have hz : smlB 20 z := by unfold TI at hx; exact hx
    have hzl : z.length ≤ 20 := hz.1
    have sl : eSl false (eV 1) (pIs (eC (.int 1))) pNo [some (.obj 0), some (.str z), some (.lst odds)] s = .ok (.str (cutS z (some 1) none)) s := by
      rw [eSl_e, eV_1, bind_ok, pis_e eC_e, bind_ok, pNo_e, bind_ok]
      show lift (if z.length ≤ 16000000 then some (PV.str (cutS z (some 1) none), s) else none) = _
      rw [if_pos (by omega), lift_some]
    have ap : oAdd false (.str z) (.str "s") s = some (.str (z ++ "s"), s) := by
      show (if z.length + ("s" : Str).length ≤ 16000000 then some (PV.str (z ++ "s"), s) else none) = _
      have : ("s" : Str).length = 1 := by decide
      rw [if_pos (by omega)]
    have up : mUpper (.str z) [] s = some (.str (Txt.upper z), s) := by
      show (if z.length ≤ 5592405 then some (PV.str (Txt.upper z), s) else none) = _
      rw [if_pos (by omega)]
    obtain ⟨v, s2, e2, k2, hv⟩ := fin (y := .non) [.str (z ++ "s"), .str (cutS z (some 1) none), .str (Txt.upper z), .tup [.str z]] h
      ((eif_t (tb_e (un_e eV_1 rfl))).trans (lst_e (cons_e (op_e eV_1 eC_e ap) (cons_e sl (cons_e (mt_e eV_1 rfl aNil_e up) (cons_e (tup_e (cons_e eV_1 aNil_e) (by show 1 ≤ 16000000; decide)) aNil_e)))) four_mil)) (by show 4 ≤ 4; decide) (by
        intro y hy
        have big : ∀ {w : Str} {L : Nat}, smlB L w → L ≤ 100 → ok (n + 2) (.str w) := fun hw hL => ⟨by have := hw.1; omega, hw.2⟩
        simp only [List.mem_cons, List.not_mem_nil, or_false] at hy
        rcases hy with rfl | rfl | rfl | rfl
        · exact ⟨big (app_sml hz (show smlB 1 ("s" : Str) from ⟨by decide, by decide⟩)) (by decide), by simp⟩
        · exact ⟨big (cutS_sml hz _ _) (by decide), by simp⟩
        · exact ⟨big (upper_sml hz) (by decide), by simp⟩
        · refine ⟨⟨by show 1 ≤ 1000; decide, fun w hw => ?_⟩, by simp⟩
          simp at hw; subst hw
          exact ⟨by omega, hz.2⟩)
    refine ⟨v, s2, run ?_, k2, hv⟩
    unfold b__law_leaf
    refine (seq_asg odd_list rfl).trans ((seq_nx ((if_f (tand_f (tb_e (un_e eV_1 rfl)))).trans sNil_e)).trans ((seq_nx ((if_f (tand_f (tb_e (un_e eV_1 rfl)))).trans sNil_e)).trans e2))
  | non => unfold TI at hx; exact hx.elim
  | bl _ => unfold TI at hx; exact hx.elim
  | lst _ => unfold TI at hx; exact hx.elim
  | scr _ => unfold TI at hx; exact hx.elim
  | dic _ => unfold TI at hx; exact hx.elim
  | obj _ => unfold TI at hx; exact hx.elim
end Lk55

set_option Elab.async false
set_option linter.all false
set_option maxRecDepth 100000
set_option maxHeartbeats 4000000
/-! k55: bent. -/
namespace Lk55
open PySem PySem.Spec L2 Z
theorem ix_some (n d : Nat) {r : Int} (h : 0 ≤ r) : HT.sIx n d (some r) = min r.toNat n := by
  show (if r < 0 then (r + (n : Int)).toNat else min r.toNat n) = _
  rw [if_neg (by omega)]
theorem cut_to {α : Type} (xs : List α) {r : Int} (h : 0 ≤ r) : cut xs none (some r) = xs.take r.toNat := by
  unfold cut
  rw [ix_some _ _ h, show HT.sIx xs.length 0 none = 0 from rfl, List.drop_zero, Nat.sub_zero]
  by_cases hl : r.toNat ≤ xs.length
  · rw [Nat.min_eq_left hl]
  · rw [Nat.min_eq_right (by omega), List.take_of_length_le (by omega), List.take_of_length_le (by omega)]
theorem cut_from {α : Type} (xs : List α) {r : Int} (h : 0 ≤ r) : cut xs (some r) none = xs.drop r.toNat := by
  unfold cut
  rw [ix_some _ _ h, show HT.sIx xs.length xs.length none = xs.length from rfl]
  by_cases hl : r.toNat ≤ xs.length
  · rw [Nat.min_eq_left hl]
    exact List.take_of_length_le (by rw [List.length_drop]; exact Nat.le_refl _)
  · rw [Nat.min_eq_right (by omega), List.drop_of_length_le (Nat.le_refl _), List.drop_of_length_le (by omega)]; simp
theorem cnts_split {xs : List PV} {k : Nat} {y : PV} (h : xs[k]? = some y) : cnts (xs.take k) + cnt y + cnts (xs.drop (k + 1)) = cnts xs := by
  have hl := (List.getElem?_eq_some_iff.mp h)
  obtain ⟨hlt, e⟩ := hl
  have := List.take_append_drop k xs
  have h2 : xs.drop k = y :: xs.drop (k + 1) := by rw [List.drop_eq_getElem_cons hlt, e]
  rw [h2] at this
  have h3 := congrArg cnts this
  simp at h3; omega
theorem bent_ok : ∀ (k n : Nat) (x : PV) (d : Int) {R s : S}, TI n x → n < k → Dk R s → ∃ v s', r__law_bent k [.obj 0, x, .int d] s = .ok v s' ∧ Dk R s' ∧ ok (n + 2) v ∧ cnt v ≤ 2 * cnt x + 2 := by
  intro k
  induction k with
  | zero => intro n x d R s _ h; omega
  | succ k ih =>
    intro n x d R s hx hn h
    have run : ∀ {v : PV} {s' : S}, b__law_bent (r__law_bent k) [some (.obj 0), some x, some (.int d), none] s = .ok (.ret v) s' → r__law_bent (k + 1) [.obj 0, x, .int d] s = .ok v s' := fun e => fn_e rfl (env := [some (.obj 0), some x, some (.int d), none]) rfl e
    have leaf : ∀ {s1 : S}, Dk R s1 → tAnd (tB (eUn (uIsi .tuple) (eV 1))) (tAnd (tB (eOp oNeD (eV 1) (eTup aNil))) (tOr (tB (eOp oGt (eV 2) (eC (.int 0)))) (tB (eOp oGt (eCall f__law_draw (aCons (eV 0) (aCons (eC (.int 4)) aNil))) (eC (.int 0)))))) [some (.obj 0), some x, some (.int d), none] s = .ok false s1 →
        ∃ v s', r__law_bent (k + 1) [.obj 0, x, .int d] s = .ok v s' ∧ Dk R s' ∧ ok (n + 2) v ∧ cnt v ≤ 2 * cnt x + 2 := by
      intro s1 k1 t1
      obtain ⟨v, s2, e2, k2, hv⟩ := leaf_ok k1 hx
      refine ⟨v, s2, run ?_, k2, hv⟩
      unfold b__law_bent
      exact (seq_nx ((if_f t1).trans sNil_e)).trans (ret_e (call2 eV_0 eV_1 e2))
    by_cases hT : ∃ xs, x = .tup xs
    case neg =>
      refine leaf h (tand_f (tb_e (un_e eV_1 ?_)))
      cases x with
      | tup xs => exact absurd ⟨xs, rfl⟩ hT
      | int i => rfl
      | str i => rfl
      | non => unfold TI at hx; exact hx.elim
      | bl _ => unfold TI at hx; exact hx.elim
      | lst _ => unfold TI at hx; exact hx.elim
      | scr _ => unfold TI at hx; exact hx.elim
      | dic _ => unfold TI at hx; exact hx.elim
      | obj _ => unfold TI at hx; exact hx.elim
    obtain ⟨xs, rfl⟩ := hT
    obtain ⟨m, rfl⟩ : ∃ m, n = m + 1 := by cases n with | zero => unfold TI at hx; exact hx.elim | succ m => exact ⟨m, rfl⟩
    have hl : xs.length ≤ 20 := hx.1
    have nt : ∀ {e : En} {s : S}, eTup aNil e s = .ok (.tup []) s := rfl
    by_cases hne : xs = []
    · subst hne
      exact leaf h (tand_t (tb_e (un_e eV_1 rfl)) (tand_f (tb_e (op_e eV_1 nt ne_t0))))
    have hie : xs.isEmpty = false := by cases xs <;> simp_all
    have go : ∀ {s1 : S}, Dk R s1 → tAnd (tB (eUn (uIsi .tuple) (eV 1))) (tAnd (tB (eOp oNeD (eV 1) (eTup aNil))) (tOr (tB (eOp oGt (eV 2) (eC (.int 0)))) (tB (eOp oGt (eCall f__law_draw (aCons (eV 0) (aCons (eC (.int 4)) aNil))) (eC (.int 0)))))) [some (.obj 0), some (.tup xs), some (.int d), none] s = .ok true s1 →
        ∃ v s', r__law_bent (k + 1) [.obj 0, .tup xs, .int d] s = .ok v s' ∧ Dk R s' ∧ ok (m + 1 + 2) v ∧ cnt v ≤ 2 * cnt (.tup xs) + 2 := by
      intro s1 k1 t1
      have hp : 1 ≤ (xs.length : Int) := by cases xs <;> simp_all <;> omega
      obtain ⟨r, s2, e2, k2, a2, b2⟩ := draw_ok k1 hp (by omega)
      obtain ⟨y, hy, hyi, eix⟩ := ix_tup (xs := xs) (r := r) (s := s2) ⟨a2, b2⟩
      obtain ⟨v, s3, e3, k3, o3, c3⟩ := ih m y (d - 1) (hx.2 y hy) (by omega) k2
      refine ⟨.tup (cut xs none (some r) ++ [v] ++ cut xs (some (r + 1)) none), s3, run ?_, k3, ?_, ?_⟩
      · unfold b__law_bent
        have c1 := cut_len xs none (some r)
        have c2 := cut_len xs (some (r + 1)) none
        refine seq_ret ((if_t t1).trans ((seq_asg (v := .int r) (s1 := s2) (call2 eV_0 (ls_e (cons_e eV_1 aNil_e) len_tup) e2) rfl).trans ?_))
        have p1 : eTup (aCons (eCall (r__law_bent k) (aCons (eV 0) (aCons (eOp oIx (eV 1) (eV 3)) (aCons (eOp oSub (eV 2) (eC (.int 1))) aNil)))) aNil) [some (.obj 0), some (.tup xs), some (.int d), some (.int r)] s2 = .ok (.tup [v]) s3 :=
          tup_e (cons_e (call_e (cons_e eV_0 (cons_e (op_e eV_1 eV_3 eix) (cons_e (op_e eV_2 eC_e oSub_ii) aNil_e))) e3) aNil_e) (by show 1 ≤ 16000000; decide)
        exact ret_e (cat_tup (cat_tup2 (sl_tup eV_1 (by omega) pNo_e (pis_e eV_3)) p1 (by simp; omega)) (sl_tup eV_1 (by omega) (pis_e (add_e eV_3 eC_e)) pNo_e) (by simp; omega))
      · have c1 := cut_len xs none (some r)
        have c2 := cut_len xs (some (r + 1)) none
        refine ⟨by simp; omega, fun z hz => ?_⟩
        have up : ∀ y ∈ xs, ok (m + 2) y := fun y hy => ti_ok (hx.2 y hy) (by omega)
        rcases List.mem_append.mp hz with hz | hz
        · rcases List.mem_append.mp hz with hz | hz
          · exact up z (cut_mem hz)
          · simp at hz; subst hz; exact o3
        · exact up z (cut_mem hz)
      · rw [cut_to xs a2, cut_from xs (by omega : 0 ≤ r + 1), show (r + 1).toNat = r.toNat + 1 by omega]
        have := cnts_split hyi
        simp; omega
    by_cases hd : 0 < d
    · exact go h (tand_t (tb_e (un_e eV_1 rfl)) (tand_t (tb_e (op_e eV_1 nt (by rw [ne_t0, hie]; rfl))) (tor_t ((gt0_e eV_2).trans (congrArg (fun b => Rs.ok b s) (decide_eq_true hd))))))
    · obtain ⟨r, s1, e1, k1, a1, b1⟩ := draw_ok h (n := 4) (by decide) (by decide)
      have t2 : tAnd (tB (eUn (uIsi .tuple) (eV 1))) (tAnd (tB (eOp oNeD (eV 1) (eTup aNil))) (tOr (tB (eOp oGt (eV 2) (eC (.int 0)))) (tB (eOp oGt (eCall f__law_draw (aCons (eV 0) (aCons (eC (.int 4)) aNil))) (eC (.int 0)))))) [some (.obj 0), some (.tup xs), some (.int d), none] s = .ok (decide (0 < r)) s1 :=
        tand_t (tb_e (un_e eV_1 rfl)) (tand_t (tb_e (op_e eV_1 nt (by rw [ne_t0, hie]; rfl))) (tor_f ((gt0_e eV_2).trans (congrArg (fun b => Rs.ok b s) (decide_eq_false hd))) (gt0_e (call2 eV_0 eC_e e1))))
      by_cases hr : 0 < r
      · exact go k1 (t2.trans (congrArg (fun b => Rs.ok b s1) (decide_eq_true hr)))
      · exact leaf k1 (t2.trans (congrArg (fun b => Rs.ok b s1) (decide_eq_false hr)))
end Lk55

set_option Elab.async false
set_option linter.all false
set_option maxRecDepth 100000
set_option maxHeartbeats 4000000
/-! k55: a tape changed at a place. -/
namespace Lk55
open PySem PySem.Spec L2 Z
theorem mix_ok {n : Nat} {xs : List PV} {v : PV} {a b c d : Option Int} (h : ∀ y ∈ xs, ok n y) (hv : ok n v) (hl : xs.length ≤ 20) : ok (n + 1) (.tup (cut xs a b ++ [v] ++ cut xs c d)) ∧ cnt (.tup (cut xs a b ++ [v] ++ cut xs c d)) ≤ 1 + 2 * cnts xs + cnt v ∧ (cut xs a b ++ [v] ++ cut xs c d).length ≤ 41 := by
  have c1 := cut_len xs a b
  have c2 := cut_len xs c d
  have d1 := cnts_cut xs a b
  have d2 := cnts_cut xs c d
  have l : (cut xs a b ++ [v] ++ cut xs c d).length ≤ 41 := by simp; omega
  refine ⟨⟨by omega, fun z hz => ?_⟩, by simp; omega, l⟩
  rcases List.mem_append.mp hz with hz | hz
  · rcases List.mem_append.mp hz with hz | hz
    · exact h z (cut_mem hz)
    · simp at hz; subst hz; exact hv
  · exact h z (cut_mem hz)
theorem cat_ok {n : Nat} {xs ys : List PV} (h : ∀ y ∈ xs, ok n y) (g : ∀ y ∈ ys, ok n y) (hl : xs.length + ys.length ≤ 1000) : ok (n + 1) (.tup (xs ++ ys)) ∧ cnt (.tup (xs ++ ys)) = 1 + cnts xs + cnts ys := by
  refine ⟨⟨by simpa using hl, fun z hz => (List.mem_append.mp hz).elim (h z) (g z)⟩, by simp; omega⟩
def wide (x : PV) : PV := match x with
  | .tup rs => .tup (rs ++ [.tup [.int 0, .int 0, .int 0]])
  | y => y
theorem otherwise_ok {R s : S} (h : Dk R s) {x : PV} (hx : Mach x) : ∃ v s', f__law_otherwise [.obj 0, x] s = .ok v s' ∧ Dk R s' ∧ ok 8 v ∧ cnt v ≤ 1000 := by
  have hti := mach_ti hx
  have htc := (mach_tiny hx).2
  obtain ⟨tags, sg, sts, rfl, lt, ht, sg2, sg5, ls1, ls4, hst⟩ := hx
  have htag : ∀ y ∈ tags, ok 6 y := fun y hy => by obtain ⟨z, rfl, hz⟩ := ht y hy; exact ⟨by have := hz.1; omega, hz.2⟩
  have hsts : ∀ y ∈ sts, ok 5 y := fun y hy => ti_ok (st_ti (hst y hy)) (by decide)
  have hsts6 : ∀ y ∈ sts, ok 6 y := fun y hy => ok_lev (hsts y hy) (by decide)
  have ctag : cnts tags ≤ 3 := by have := cnts_le (k := 1) (xs := tags) fun y hy => by obtain ⟨z, rfl, _⟩ := ht y hy; simp
                                  omega
  have csts : cnts sts ≤ 84 := by have := cnts_le (k := 21) fun y hy => (st_tiny (hst y hy)).2
                                  omega
  have whole : ∀ {t u : PV} {j : Int}, ok 7 t → ok 7 u → sint j → cnt t + cnt u ≤ 500 → ok 8 (.tup [.str "tape", t, .int j, u]) ∧ cnt (.tup [.str "tape", t, .int j, u]) ≤ 1000 := by
    intro t u j h1 h2 h3 h4
    refine ⟨⟨by show 4 ≤ 1000; decide, fun y hy => ?_⟩, by simp; omega⟩
    simp only [List.mem_cons, List.not_mem_nil, or_false] at hy
    rcases hy with rfl | rfl | rfl | rfl
    · exact ⟨by decide, by decide⟩
    · exact h1
    · exact h3
    · exact h2
  have otag : ok 7 (.tup tags) := ⟨by omega, htag⟩
  have osts : ok 7 (.tup sts) := ⟨by omega, hsts6⟩
  have sgs : ∀ j : Int, -100 ≤ j → j ≤ 100 → sint j := fun j a b => by unfold sint sintB; omega
  obtain ⟨way, s1, e1, k1, wa, wb⟩ := draw_ok h (n := 7) (by decide) (by decide)
  obtain ⟨at_, s2, e2, k2, aa, ab⟩ := draw_ok k1 (n := (sts.length : Nat)) (by omega) (by omega)
  obtain ⟨r1, s3, e3, k3, a3, b3⟩ := draw_ok k2 (n := (sts.length : Nat) + 4) (by omega) (by omega)
  obtain ⟨r2, s4, e4, k4, a4, b4⟩ := draw_ok k3 (n := sg + 2) (by omega) (by omega)
  obtain ⟨r3, s5, e5, k5, a5, b5⟩ := draw_ok k4 (n := 5) (by decide) (by decide)
  obtain ⟨spot, s6, e6, k6, a6, b6⟩ := draw_ok k5 (n := sg) (by omega) (by omega)
  have four_e : ∀ {m1 m2 m3 m4 : EM} {e : En} {t t1 t2 t3 t4 : S} {a b c d : PV}, m1 e t = .ok a t1 → m2 e t1 = .ok b t2 → m3 e t2 = .ok c t3 → m4 e t3 = .ok d t4 → eTup (aCons m1 (aCons m2 (aCons m3 (aCons m4 aNil)))) e t = .ok (.tup [a, b, c, d]) t4 := fun p q r u => tup_e (cons_e p (cons_e q (cons_e r (cons_e u aNil_e)))) four_mil
  generalize hmac : PV.tup [.str "tape", .tup tags, .int sg, .tup sts] = mac at *
  let rule : PV := .tup [.int (r1 - 1), .int (r2 - 1), .int (r3 - 2)]
  have orule : ok 4 rule ∧ cnt rule = 4 := by
    refine ⟨⟨by show 3 ≤ 1000; decide, fun y hy => ?_⟩, by simp [rule]⟩
    simp only [List.mem_cons, List.not_mem_nil, or_false] at hy
    rcases hy with rfl | rfl | rfl
    · exact sgs _ (by omega) (by omega)
    · exact sgs _ (by omega) (by omega)
    · exact sgs _ (by omega) (by omega)
  -- the state behind the first four steps
  have start : ∀ {v : PV} {s' : S}, (sSeq (sIf (tB (eOp oLt (eV 6) (eC (.int 2)))) (sSeq (sAsg (eOp (oAdd false) (eOp (oAdd false) (eSl false (eOp oIx (eV 5) (eV 7)) pNo (pIs (eV 9))) (eTup (aCons (eV 8) aNil))) (eSl false (eOp oIx (eV 5) (eV 7)) (pIs (eOp (oAdd false) (eV 9) (eC (.int 1)))) pNo)) (mName 10))
      (sRet (eTup (aCons (eV 2) (aCons (eV 3) (aCons (eV 4) (aCons (eOp (oAdd false) (eOp (oAdd false) (eSl false (eV 5) pNo (pIs (eV 7))) (eTup (aCons (eV 10) aNil))) (eSl false (eV 5) (pIs (eOp (oAdd false) (eV 7) (eC (.int 1)))) pNo)) aNil))))))) sNil)
      (sSeq (sIf (tB (eOp oEqD (eV 6) (eC (.int 2)))) (sRet (eTup (aCons (eV 2) (aCons (eCall f__law_pick (aCons (eV 0) (aCons (eLst false (aCons (eOp (oAdd false) (eV 3) (eTup (aCons (eC (.str "more")) aNil))) (aCons (eSl false (eV 3) (pIs (eC (.int 1))) pNo) (aCons (eOp (oAdd false) (eV 3) (eSl false (eV 3) pNo (pIs (eC (.int 1))))) (aCons (eTup (aCons (eC (.str "Bad")) aNil)) (aCons (eTup (aCons (eC (.str "")) aNil)) (aCons (eTup (aCons (eC (.str "a")) (aCons (eC (.str "b")) (aCons (eC (.str "a")) aNil)))) (aCons (eLs (bList false) (aCons (eV 3) aNil)) aNil)))))))) aNil))) (aCons (eV 4) (aCons (eV 5) aNil)))))) sNil)
      (sSeq (sIf (tB (eOp oEqD (eV 6) (eC (.int 3)))) (sRet (eIf (tB (eOp oLt (eV 4) (eC (.int 5)))) (eTup (aCons (eV 2) (aCons (eV 3) (aCons (eOp (oAdd false) (eV 4) (eC (.int 1))) (aCons (eLs bTuple (aCons (eLc false (iAny (eV 5)) (mName 10) tYesM (eOp (oAdd false) (eV 10) (eTup (aCons (eTup (aCons (eC (.int 0)) (aCons (eC (.int 0)) (aCons (eC (.int 0)) aNil)))) aNil))) [10]) aNil)) aNil))))) (eUn (uBack false) (eV 1)))) sNil)
      (sSeq (sIf (tB (eOp oEqD (eV 6) (eC (.int 4)))) (sRet (eTup (aCons (eV 2) (aCons (eV 3) (aCons (eV 4) (aCons (eCall f__law_pick (aCons (eV 0) (aCons (eLst false (aCons (eSl false (eV 5) (pIs (eC (.int 1))) pNo) (aCons (eOp (oAdd false) (eV 5) (eSl false (eV 5) pNo (pIs (eC (.int 1))))) (aCons (eTup aNil) (aCons (eOp (oAdd false) (eOp (oAdd false) (eSl false (eV 5) pNo (pIs (eV 7))) (eTup (aCons (eSl false (eOp oIx (eV 5) (eV 7)) (pIs (eC (.int 1))) pNo) aNil))) (eSl false (eV 5) (pIs (eOp (oAdd false) (eV 7) (eC (.int 1)))) pNo)) aNil))))) aNil))) aNil)))))) sNil)
      (sRet (eCall f__law_bent (aCons (eV 0) (aCons (eV 1) (aCons (eCall f__law_draw (aCons (eV 0) (aCons (eC (.int 4)) aNil))) aNil)))))))))
      [some (.obj 0), some mac, some (.str "tape"), some (.tup tags), some (.int sg), some (.tup sts), some (.int way), some (.int at_), some rule, some (.int spot), none] s6 = .ok (.ret v) s' → f__law_otherwise [.obj 0, mac] s = .ok v s' := by
    intro v s' e
    refine fn_e rfl (env := [some (.obj 0), some mac, none, none, none, none, none, none, none, none, none]) rfl ?_
    unfold b__law_otherwise
    refine (seq_asg (v := mac) (s1 := s) eV_1 (e1 := [some (.obj 0), some mac, some (.str "tape"), some (.tup tags), some (.int sg), some (.tup sts), none, none, none, none, none]) (by rw [← hmac]; rfl)).trans ?_
    refine (seq_nx (par_e (cons_e (call2 eV_0 eC_e e1) (cons_e (call2 eV_0 (ls_e (cons_e eV_5 aNil_e) len_tup) e2) aNil_e)))).trans ?_
    refine (seq_asg (v := rule) (tup_e (cons_e (op_e (call2 eV_0 (add_e (ls_e (cons_e eV_5 aNil_e) len_tup) eC_e) e3) eC_e oSub_ii) (cons_e (op_e (call2 eV_0 (add_e eV_4 eC_e) e4) eC_e oSub_ii) (cons_e (op_e (call2 eV_0 eC_e e5) eC_e oSub_ii) aNil_e))) (by show 3 ≤ 16000000; decide)) rfl).trans ?_
    exact (seq_asg (call2 eV_0 eV_4 e6) rfl).trans e
  have lt_e : ∀ {m : EM} {e : En} {t t1 : S} {i j : Int}, m e t = .ok (.int i) t1 → tB (eOp oLt m (eC (.int j))) e t = .ok (decide (i < j)) t1 := fun p => tb_e (op_e p eC_e oLt_ii)
  have eqi_e : ∀ {m : EM} {e : En} {t t1 : S} {i j : Int}, m e t = .ok (.int i) t1 → tB (eOp oEqD m (eC (.int j))) e t = .ok (i == j) t1 := fun p => tb_e (op_e p eC_e eqInt)
  have okb : ∀ {b c : Bool} {e : En} {t : S} {m : TM} {t1 : S}, m e t = .ok b t1 → b = c → m e t = .ok c t1 := fun p q => q ▸ p
  obtain ⟨st, hstm, hsti, est⟩ := ix_tup (xs := sts) (r := at_) (s := s6) ⟨aa, ab⟩
  obtain ⟨rs, rfl, lrs, hrs⟩ := hst st hstm
  have hrs4 : ∀ y ∈ rs, ok 4 y := fun y hy => ti_ok (ru_ti (hrs y hy)) (by decide)
  have crs : cnts rs ≤ 20 := by have := cnts_le (k := 4) fun y hy => Nat.le_of_eq (ru_tiny (hrs y hy)).2
                                omega
  by_cases w2 : way < 2
  · obtain ⟨o1, c1, l1⟩ := mix_ok (v := rule) (a := none) (b := some spot) (c := some (spot + 1)) (d := none) hrs4 orule.1 (by omega)
    obtain ⟨o2, c2, l2⟩ := mix_ok (v := .tup (cut rs none (some spot) ++ [rule] ++ cut rs (some (spot + 1)) none)) (a := none) (b := some at_) (c := some (at_ + 1)) (d := none) hsts o1 (by omega)
    have x1 := cut_len rs none (some spot)
    have x2 := cut_len rs (some (spot + 1)) none
    have x3 := cut_len sts none (some at_)
    have x4 := cut_len sts (some (at_ + 1)) none
    have w := whole otag (ok_lev o2 (show 6 ≤ 7 by decide)) (sgs sg (by omega) (by omega)) (by rw [cnt_tup]; omega)
    refine ⟨_, s6, start (seq_ret ((if_t (okb (lt_e eV_6) (decide_eq_true w2))).trans ((seq_asg (v := .tup (cut rs none (some spot) ++ [rule] ++ cut rs (some (spot + 1)) none)) (s1 := s6) ?_ rfl).trans (ret_e (four_e eV_2 eV_3 eV_4 ?_))))), k6, w.1, w.2⟩
    · exact cat_tup (cat_tup (sl_tup (op_e eV_5 eV_7 est) (by omega) pNo_e (pis_e eV_9)) (tup_e (cons_e eV_8 aNil_e) (by show 1 ≤ 16000000; decide)) (by simp; omega)) (sl_tup (op_e eV_5 eV_7 est) (by omega) (pis_e (add_e eV_9 eC_e)) pNo_e) (by simp; omega)
    · exact cat_tup (cat_tup (sl_tup eV_5 (by omega) pNo_e (pis_e eV_7)) (tup_e (cons_e eV_10 aNil_e) (by show 1 ≤ 16000000; decide)) (by simp; omega)) (sl_tup eV_5 (by omega) (pis_e (add_e eV_7 eC_e)) pNo_e) (by simp; omega)
  have n1 := fun (r : SM) => seq_nx (r := r) ((if_f (a := sSeq (sAsg (eOp (oAdd false) (eOp (oAdd false) (eSl false (eOp oIx (eV 5) (eV 7)) pNo (pIs (eV 9))) (eTup (aCons (eV 8) aNil))) (eSl false (eOp oIx (eV 5) (eV 7)) (pIs (eOp (oAdd false) (eV 9) (eC (.int 1)))) pNo)) (mName 10))
      (sRet (eTup (aCons (eV 2) (aCons (eV 3) (aCons (eV 4) (aCons (eOp (oAdd false) (eOp (oAdd false) (eSl false (eV 5) pNo (pIs (eV 7))) (eTup (aCons (eV 10) aNil))) (eSl false (eV 5) (pIs (eOp (oAdd false) (eV 7) (eC (.int 1)))) pNo)) aNil)))))))
    (b := sNil) (okb (lt_e (eV_6 (a0 := some (.obj 0)) (a1 := some mac) (a2 := some (.str "tape")) (a3 := some (.tup tags)) (a4 := some (.int sg)) (a5 := some (.tup sts)) (v := .int way) (env := [some (.int at_), some rule, some (.int spot), none]) (s := s6))) (decide_eq_false w2))).trans sNil_e)
  by_cases w3 : way = 2
  · obtain ⟨v, s7, e7, k7, hv⟩ := pick_lst k6 (xs := [.tup (tags ++ [.str "more"]), .tup (cut tags (some 1) none), .tup (tags ++ cut tags none (some 1)), .tup [.str "Bad"], .tup [.str ""], .tup [.str "a", .str "b", .str "a"], .lst tags]) (by simp) (by show 7 ≤ 100000; decide)
    have x1 := cut_len tags none (some 1)
    have x2 := cut_len tags (some 1) none
    have y1 := cnts_cut tags none (some 1)
    have y2 := cnts_cut tags (some 1) none
    have lit : ∀ z : Str, smlB 20 z → ok 6 (.str z) := fun z hz => ⟨by have := hz.1; omega, hz.2⟩
    have hvok : ok 7 v ∧ cnt v ≤ 20 := by
      simp only [List.mem_cons, List.not_mem_nil, or_false] at hv
      rcases hv with rfl | rfl | rfl | rfl | rfl | rfl | rfl
      · have := cat_ok htag (ys := [.str "more"]) (by intro y hy; simp at hy; subst hy; exact lit _ ⟨by decide, by decide⟩) (by simp; omega)
        exact ⟨this.1, by rw [this.2]; simp; omega⟩
      · exact ⟨⟨by omega, fun y hy => htag y (cut_mem hy)⟩, by simp; omega⟩
      · have := cat_ok htag (ys := cut tags none (some 1)) (fun y hy => htag y (cut_mem hy)) (by omega)
        exact ⟨this.1, by rw [this.2]; omega⟩
      · exact ⟨⟨by decide, by intro y hy; simp at hy; subst hy; exact lit _ ⟨by decide, by decide⟩⟩, by simp⟩
      · exact ⟨⟨by decide, by intro y hy; simp at hy; subst hy; exact lit _ ⟨by decide, by decide⟩⟩, by simp⟩
      · refine ⟨⟨by decide, fun y hy => ?_⟩, by simp⟩
        simp only [List.mem_cons, List.not_mem_nil, or_false] at hy
        rcases hy with rfl | rfl | rfl <;> exact lit _ ⟨by decide, by decide⟩
      · exact ⟨⟨by omega, htag⟩, by simp; omega⟩
    have w := whole hvok.1 osts (sgs sg (by omega) (by omega)) (by rw [cnt_tup]; omega)
    refine ⟨_, s7, start ((n1 _).trans (seq_ret ((if_t (okb (eqi_e eV_6) (by rw [w3]; rfl))).trans (ret_e (four_e eV_2 (call2 eV_0 (lst_e ?_ (by show 7 ≤ 16000000; decide)) e7) eV_4 eV_5))))), k7, w.1, w.2⟩
    exact cons_e (cat_tup eV_3 (tup_e (cons_e eC_e aNil_e) (by show 1 ≤ 16000000; decide)) (by simp; omega)) (cons_e (sl_tup eV_3 (by omega) (pis_e eC_e) pNo_e) (cons_e (cat_tup eV_3 (sl_tup eV_3 (by omega) pNo_e (pis_e eC_e)) (by omega)) (cons_e (tup_e (cons_e eC_e aNil_e) (by show 1 ≤ 16000000; decide)) (cons_e (tup_e (cons_e eC_e aNil_e) (by show 1 ≤ 16000000; decide)) (cons_e (tup_e (cons_e eC_e (cons_e eC_e (cons_e eC_e aNil_e))) (by show 3 ≤ 16000000; decide)) (cons_e (lsx_e eV_3 (by omega)) aNil_e))))))
  have n2 := fun (a r : SM) => seq_nx (r := r) ((if_f (a := a) (b := sNil) (okb (eqi_e (j := 2) (eV_6 (a0 := some (.obj 0)) (a1 := some mac) (a2 := some (.str "tape")) (a3 := some (.tup tags)) (a4 := some (.int sg)) (a5 := some (.tup sts)) (v := .int way) (env := [some (.int at_), some rule, some (.int spot), none]) (s := s6))) (show (way == 2) = false by simpa using w3))).trans sNil_e)
  by_cases w4 : way = 3
  · by_cases g5 : sg < 5
    · have hst2 : ∀ y ∈ sts, ∃ rs, y = .tup rs ∧ rs.length ≤ 5 := fun y hy => by obtain ⟨rs, e, l, _⟩ := hst y hy; exact ⟨rs, e, l⟩
      have lc := lc_map (t := mName 10) (e := eOp (oAdd false) (eV 10) (eTup (aCons (eTup (aCons (eC (.int 0)) (aCons (eC (.int 0)) (aCons (eC (.int 0)) aNil)))) aNil))) (env := [some (.obj 0), some mac, some (.str "tape"), some (.tup tags), some (.int sg), some (.tup sts), some (.int way), some (.int at_), some rule, some (.int spot), none]) (s := s6) (g := wide) sts (fun y hy => by
        obtain ⟨rs, rfl, l⟩ := hst2 y hy
        exact ⟨_, rfl, cat_tup eV_10 (tup_e (cons_e (tup_e (cons_e eC_e (cons_e eC_e (cons_e eC_e aNil_e))) (by show 3 ≤ 16000000; decide)) aNil_e) (by show 1 ≤ 16000000; decide)) (by simp; omega)⟩)
      have wl : (sts.map wide).length ≤ 16000000 := by simp; omega
      have lce : eLc false (iAny (eV 5)) (mName 10) tYesM (eOp (oAdd false) (eV 10) (eTup (aCons (eTup (aCons (eC (.int 0)) (aCons (eC (.int 0)) (aCons (eC (.int 0)) aNil)))) aNil))) [10] [some (.obj 0), some mac, some (.str "tape"), some (.tup tags), some (.int sg), some (.tup sts), some (.int way), some (.int at_), some rule, some (.int spot), none] s6 = .ok (.lst (sts.map wide)) s6 := by
        rw [eLc_e, iAny_e, eV_5, bind_ok, it_tup', liftI_some, bind_ok]
        rw [if_pos (show sts.length ≤ 16000000 by omega)]
        show Rs.bind (lcL none (mName 10) tYesM _ [some (.obj 0), some mac, some (.str "tape"), some (.tup tags), some (.int sg), some (.tup sts), some (.int way), some (.int at_), some rule, some (.int spot), none] sts s6) _ = _
        rw [lc, bind_ok, newL_f wl, lift_some]
      have tup_lst : ∀ {ys : List PV} {s : S}, ys.length ≤ 16000000 → bTuple [.lst ys] s = some (.tup ys, s) := fun h => by show newT _ _ = _; exact newT_ok' h
      have ow : ok 7 (.tup (sts.map wide)) ∧ cnts (sts.map wide) ≤ 200 := by
        have each : ∀ y ∈ sts.map wide, ok 6 y ∧ cnt y ≤ 30 := by
          intro y hy
          obtain ⟨z, hz, rfl⟩ := List.mem_map.mp hy
          obtain ⟨rs, rfl, l, hr⟩ := hst z hz
          have c4 : cnts rs ≤ 20 := by have := cnts_le (k := 4) fun y hy => Nat.le_of_eq (ru_tiny (hr y hy)).2
                                       omega
          have := cat_ok (n := 5) (xs := rs) (ys := [.tup [.int 0, .int 0, .int 0]]) (fun y hy => ti_ok (ru_ti (hr y hy)) (by decide)) (by
            intro y hy; simp at hy; subst hy
            refine ⟨by show 3 ≤ 1000; decide, fun w hw => ?_⟩
            simp at hw; subst hw
            exact sgs 0 (by decide) (by decide)) (by simp; omega)
          exact ⟨this.1, by show cnt (.tup _) ≤ 30; rw [this.2]; simp; omega⟩
        have := cnts_le (k := 30) fun y hy => (each y hy).2
        exact ⟨⟨by simp; omega, fun y hy => (each y hy).1⟩, by simp at this; omega⟩
      have w := whole otag ow.1 (sgs (sg + 1) (by omega) (by omega)) (by rw [cnt_tup, cnt_tup]; omega)
      refine ⟨_, s6, start ((n1 _).trans ((n2 _ _).trans (seq_ret ((if_t (okb (eqi_e eV_6) (by rw [w4]; rfl))).trans (ret_e ((eif_t (okb (lt_e eV_4) (decide_eq_true g5))).trans (four_e eV_2 eV_3 (add_e eV_4 eC_e) (ls_e (cons_e lce aNil_e) (tup_lst wl))))))))), k6, w.1, w.2⟩
    · refine ⟨.tup [.tup sts, .int sg, .tup tags, .str "tape"], s6, start ((n1 _).trans ((n2 _ _).trans (seq_ret ((if_t (okb (eqi_e eV_6) (by rw [w4]; rfl))).trans (ret_e ((eif_f (okb (lt_e eV_4) (decide_eq_false g5))).trans ?_)))))), k6, ⟨by show 4 ≤ 1000; decide, fun y hy => ?_⟩, by simp; omega⟩
      · have := back_e (mu := false) (m := eV 1) (env := [some (.obj 0), some mac, some (.str "tape"), some (.tup tags), some (.int sg), some (.tup sts), some (.int way), some (.int at_), some rule, some (.int spot), none]) (s := s6) (s1 := s6) (xs := [.str "tape", .tup tags, .int sg, .tup sts]) (by rw [hmac]; exact eV_1) four_mil
        exact this
      · simp only [List.mem_cons, List.not_mem_nil, or_false] at hy
        rcases hy with rfl | rfl | rfl | rfl
        · exact osts
        · exact sgs sg (by omega) (by omega)
        · exact otag
        · exact ⟨by decide, by decide⟩
  have n3 := fun (a r : SM) => seq_nx (r := r) ((if_f (a := a) (b := sNil) (okb (eqi_e (j := 3) (eV_6 (a0 := some (.obj 0)) (a1 := some mac) (a2 := some (.str "tape")) (a3 := some (.tup tags)) (a4 := some (.int sg)) (a5 := some (.tup sts)) (v := .int way) (env := [some (.int at_), some rule, some (.int spot), none]) (s := s6))) (show (way == 3) = false by simpa using w4))).trans sNil_e)
  by_cases w5 : way = 4
  · obtain ⟨o1, c1, l1⟩ := mix_ok (v := .tup (cut rs (some 1) none)) (a := none) (b := some at_) (c := some (at_ + 1)) (d := none) hsts6 (show ok 6 (.tup (cut rs (some 1) none)) from ⟨by have := cut_len rs (some 1) none; omega, fun y hy => ok_lev (hrs4 y (cut_mem hy)) (by decide)⟩) (by omega)
    obtain ⟨v, s7, e7, k7, hv⟩ := pick_lst k6 (xs := [.tup (cut sts (some 1) none), .tup (sts ++ cut sts none (some 1)), .tup [], .tup (cut sts none (some at_) ++ [.tup (cut rs (some 1) none)] ++ cut sts (some (at_ + 1)) none)]) (by simp) (by show 4 ≤ 100000; decide)
    have x1 := cut_len sts none (some 1)
    have x2 := cut_len sts (some 1) none
    have x3 := cut_len sts none (some at_)
    have x4 := cut_len sts (some (at_ + 1)) none
    have x5 := cut_len rs (some 1) none
    have y1 := cnts_cut sts none (some 1)
    have y2 := cnts_cut sts (some 1) none
    have y5 := cnts_cut rs (some 1) none
    have hvok : ok 7 v ∧ cnt v ≤ 300 := by
      simp only [List.mem_cons, List.not_mem_nil, or_false] at hv
      rcases hv with rfl | rfl | rfl | rfl
      · exact ⟨⟨by omega, fun y hy => hsts6 y (cut_mem hy)⟩, by simp; omega⟩
      · have := cat_ok hsts6 (ys := cut sts none (some 1)) (fun y hy => hsts6 y (cut_mem hy)) (by omega)
        exact ⟨this.1, by rw [this.2]; omega⟩
      · exact ⟨⟨by decide, by intro y hy; cases hy⟩, by simp⟩
      · exact ⟨o1, by have : cnt (.tup (cut rs (some 1) none)) = 1 + cnts (cut rs (some 1) none) := cnt_tup
                      omega⟩
    have w := whole otag hvok.1 (sgs sg (by omega) (by omega)) (by rw [cnt_tup]; omega)
    refine ⟨_, s7, start ((n1 _).trans ((n2 _ _).trans ((n3 _ _).trans (seq_ret ((if_t (okb (eqi_e eV_6) (by rw [w5]; rfl))).trans (ret_e (four_e eV_2 eV_3 eV_4 (call2 eV_0 (lst_e ?_ four_mil) e7)))))))), k7, w.1, w.2⟩
    exact cons_e (sl_tup eV_5 (by omega) (pis_e eC_e) pNo_e) (cons_e (cat_tup eV_5 (sl_tup eV_5 (by omega) pNo_e (pis_e eC_e)) (by omega)) (cons_e (show eTup aNil _ _ = .ok (.tup []) _ from rfl) (cons_e (cat_tup (cat_tup (sl_tup eV_5 (by omega) pNo_e (pis_e eV_7)) (tup_e (cons_e (sl_tup (op_e eV_5 eV_7 est) (by omega) (pis_e eC_e) pNo_e) aNil_e) (by show 1 ≤ 16000000; decide)) (by simp; omega)) (sl_tup eV_5 (by omega) (pis_e (add_e eV_7 eC_e)) pNo_e) (by simp; omega)) aNil_e)))
  have n4 := fun (a r : SM) => seq_nx (r := r) ((if_f (a := a) (b := sNil) (okb (eqi_e (j := 4) (eV_6 (a0 := some (.obj 0)) (a1 := some mac) (a2 := some (.str "tape")) (a3 := some (.tup tags)) (a4 := some (.int sg)) (a5 := some (.tup sts)) (v := .int way) (env := [some (.int at_), some rule, some (.int spot), none]) (s := s6))) (show (way == 4) = false by simpa using w5))).trans sNil_e)
  obtain ⟨d, s7, e7, k7, ad, bd⟩ := draw_ok k6 (n := 4) (by decide) (by decide)
  obtain ⟨v, s8, e8, k8, o8, c8⟩ := bent_ok 8 4 mac d hti (by decide) k7
  refine ⟨v, s8, start ((n1 _).trans ((n2 _ _).trans ((n3 _ _).trans ((n4 _ _).trans (ret_e (call_e (cons_e eV_0 (cons_e eV_1 (cons_e (call2 eV_0 eC_e e7) aNil_e))) e8)))))), k8, ok_lev o8 (by decide), by omega⟩
end Lk55

set_option Elab.async false
set_option linter.all false
set_option maxRecDepth 100000
set_option maxHeartbeats 4000000
/-! k55: the law. -/
namespace Lk55
open PySem PySem.Spec L2 Z
theorem deck_ok (ns : List Int) (hl : ns.length ≤ 63) : ∃ s', f__law_deck [.scr (ns.map .int)] [] = .ok (.obj 0) s' ∧ Dk [] s' := by
  have cut63 : cut (ns.map PV.int) none (some 63) = ns.map .int := by
    rw [cut_to _ (by decide)]
    exact List.take_of_length_le (by rw [List.length_map]; exact hl)
  have sl : ∀ {e : En} {s : S}, eSl false (eV 0) pNo (pIs (eC (.int 63))) (some (.scr (ns.map .int)) :: e) s = .ok (.lst (ns.map .int)) s := by
    intro e s
    rw [eSl_e, eV_0, bind_ok, pNo_e, bind_ok, pis_e eC_e, bind_ok]
    show lift (newL false (cut (ns.map PV.int) none (some 63)) s) = _
    rw [cut63, newL_f (by rw [List.length_map]; omega), lift_some]
  obtain ⟨env', s', loop, rfl, m, o, rfl⟩ := for_inv (t := mName 2) (b := l__law_deck_1) (fun env s => s = [] ∧ ∃ (m : Int) (o : Option PV), env = [some (.scr (ns.map .int)), some (.int m), o]) (ns.map .int) [some (.scr (ns.map .int)), some (.int 14406055), none] [] ⟨rfl, _, _, rfl⟩ (by
    rintro x hx env s ⟨rfl, m, o, rfl⟩
    obtain ⟨i, _, rfl⟩ := List.mem_map.mp hx
    refine ⟨_, _, [], rfl, ?_, rfl, (m * 48271 + i.fmod 2147483629 + 55).fmod 2147483563, some (.int i), rfl⟩
    unfold l__law_deck_1
    exact asg_e (op_e (ls_e (cons_e (add_e (add_e (op_e eV_1 eC_e (oMul_r (by decide))) (op_e (ls_e (cons_e eV_2 aNil_e) bInt_i) eC_e (oMod_ii (by decide)))) eC_e) aNil_e) bInt_i) eC_e (oMod_ii (by decide))) rfl)
  refine ⟨Sd m 0 ns.reverse [], ?_, m, 0, ns.reverse, by simpa using hl, rfl⟩
  refine fn_e rfl (env := [some (.scr (ns.map .int)), none, none]) rfl ?_
  unfold b__law_deck
  refine (seq_asg eC_e rfl).trans ((seq_nx ((for_e (p := (ns.map .int, none)) (s1 := []) ?_).trans loop)).trans (ret_e ?_))
  · show iAny _ _ _ = _
    rw [iAny_e, sl, bind_ok]; rfl
  · have rv : eUn (uBack true) (eLs (bList false) (aCons (eSl false (eV 0) pNo (pIs (eC (.int 63)))) aNil)) [some (.scr (ns.map .int)), some (.int m), o] [.dic []] = .ok (.obj 1) [.dic [], .lst (ns.reverse.map .int)] := by
      have h1 : bList false [.lst (ns.map .int)] [.dic []] = some (.lst (ns.map .int), [.dic []]) := by
        show newL false (ns.map PV.int) [.dic []] = _
        exact newL_f (by rw [List.length_map]; omega)
      refine un_e (ls_e (cons_e sl aNil_e) h1) ?_
      show newL true (ns.map PV.int).reverse [.dic []] = _
      rw [newL_t (by rw [List.length_reverse, List.length_map]; omega), List.map_reverse]
      rfl
    unfold eDisp
    have dd : dCons (eC (.str "left")) (eUn (uBack true) (eLs (bList false) (aCons (eSl false (eV 0) pNo (pIs (eC (.int 63)))) aNil))) (dCons (eC (.str "mixed")) (eV 1) (dCons (eC (.str "draws")) (eC (.int 0)) dNil)) [some (.scr (ns.map .int)), some (.int m), o] ([] ++ [.dic []]) = .ok [(.str "left", .obj 1), (.str "mixed", .int m), (.str "draws", .int 0)] [.dic [], .lst (ns.reverse.map .int)] := by
      show Rs.bind (.ok _ _) _ = _
      rw [bind_ok]
      show Rs.bind (eUn (uBack true) _ [some (.scr (ns.map .int)), some (.int m), o] [.dic []]) _ = _
      rw [rv]
      rfl
    rw [dd]
    rfl
theorem beyond_ok {n : Nat} {x : PV} {s : S} (h : ok n x) (hn : n ≤ 60) : ∃ b, f__law_is_beyond [x] s = .ok (.bl b) s := by
  have run : ∀ {b : Bool}, b__law_is_beyond [some x] s = .ok (.ret (.bl b)) s → f__law_is_beyond [x] s = .ok (.bl b) s := fun e => fn_e rfl (env := [some x]) rfl e
  have t1 : eCall f__law_is_tape (aCons (eV 0) aNil) [some x] s = .ok (.bl (tapeB x)) s := call_e (cons_e eV_0 aNil_e) (law_is_tape_eq h hn)
  cases ht : tapeB x with
  | false =>
    refine ⟨false, run ?_⟩
    unfold b__law_is_beyond
    exact ret_e (by rw [eAnd_e, t1, ht, bind_ok])
  | true =>
    obtain ⟨a, tags, signs, states, rfl⟩ : ∃ a tags signs states, x = .tup [a, .tup tags, .int signs, .tup states] := by
      unfold tapeB at ht
      split at ht
      · exact ⟨_, _, _, _, rfl⟩
      · cases ht
    have o1 : eOp oGt (eLs bLen (aCons (eOp oIx (eV 0) (eC (.int 1))) aNil)) (eC (.int 3)) [some (.tup [a, .tup tags, .int signs, .tup states])] s = .ok (.bl (decide ((3 : Int) < tags.length))) s := op_e (ls_e (cons_e (op_e eV_0 eC_e ix_t1) aNil_e) len_tup) eC_e oGt_ii
    have o2 : eOp oGt (eOp oIx (eV 0) (eC (.int 2))) (eC (.int 5)) [some (.tup [a, .tup tags, .int signs, .tup states])] s = .ok (.bl (decide ((5 : Int) < signs))) s := op_e (op_e eV_0 eC_e ix_t2) eC_e oGt_ii
    have o3 : eOp oGt (eLs bLen (aCons (eOp oIx (eV 0) (eC (.int 3))) aNil)) (eC (.int 4)) [some (.tup [a, .tup tags, .int signs, .tup states])] s = .ok (.bl (decide ((4 : Int) < states.length))) s := op_e (ls_e (cons_e (op_e eV_0 eC_e ix_t3) aNil_e) len_tup) eC_e oGt_ii
    have or_e : ∀ {m n : EM} {e : En} {b c : Bool}, m e s = .ok (.bl b) s → n e s = .ok (.bl c) s → eOr m n e s = .ok (.bl (b || c)) s := by
      intro m n e b c h1 h2
      rw [eOr_e, h1, bind_ok]
      cases b
      · exact h2
      · rfl
    refine ⟨decide ((3 : Int) < tags.length) || (decide ((5 : Int) < signs) || decide ((4 : Int) < states.length)), run ?_⟩
    unfold b__law_is_beyond
    exact ret_e (by rw [eAnd_e, t1, ht, bind_ok]; exact or_e o1 (or_e o2 o3))
theorem ne_self {z : Str} {s : S} : oNeD (.str z) (.str z) s = some (.bl false, s) := by
  have e : oNeD (.str z) (.str z) s = some (.bl (!(z == z)), s) := rfl
  rw [e, beq_self_eq_true]; rfl
theorem thing_ok {x : PV} {s : S} {t : Int} {o0 o3 o5 o6 o7 : Option PV} (h : ok 8 x) (hc : cnt x ≤ 1000) : ∃ e5 e6, l_law_2 [o0, some (.obj 0), some (.int t), o3, some x, o5, o6, o7] s = .ok (.nx [o0, some (.obj 0), some (.int t), o3, some x, e5, e6, o7]) s := by
  obtain ⟨z, ez, _⟩ := repr_ok (s := s) h (by decide) (by omega)
  obtain ⟨zb, eb, _⟩ := repr_ok (s := s) (n := 0) (x := .bl (tapeB x)) trivial (by decide) (by simp)
  obtain ⟨b, eb2⟩ := beyond_ok (s := s) h (by decide)
  refine ⟨some (.str z), some (.bl (tapeB x)), ?_⟩
  unfold l_law_2
  refine (seq_asg (v := .str z) (s1 := s) (ls_e (cons_e eV_4 aNil_e) ez) rfl).trans ?_
  have told : ∀ {e5 e6 : Option PV}, eIf (tB (eOp oEqD (eV 2) (eC (.int 0)))) (eCallK0 f_is_tape [0] (aCons (eV 4) aNil)) (eCall f_is_tape (aCons (eV 4) aNil)) [o0, some (.obj 0), some (.int t), o3, some x, e5, e6, o7] s = .ok (.bl (tapeB x)) s := by
    intro e5 e6
    have tt : tB (eOp oEqD (eV 2) (eC (.int 0))) [o0, some (.obj 0), some (.int t), o3, some x, e5, e6, o7] s = .ok (t == 0) s := tb_e (op_e eV_2 eC_e eqInt)
    cases ht : (t == 0) with
    | true =>
      rw [eif_t (tt.trans (by rw [ht]))]
      unfold eCallK0
      rw [cons_e eV_4 aNil_e, bind_ok]
      exact (if_pos rfl).trans (is_tape_eq h (by decide))
    | false =>
      rw [eif_f (tt.trans (by rw [ht]))]
      exact call_e (cons_e eV_4 aNil_e) (is_tape_eq h (by decide))
  refine (seq_asg told rfl).trans ?_
  have c2 : tB (eOp oNeD (eLs bRepr (aCons (eV 4) aNil)) (eV 5)) [o0, some (.obj 0), some (.int t), o3, some x, some (.str z), some (.bl (tapeB x)), o7] s = .ok false s := tb_e (op_e (ls_e (cons_e eV_4 aNil_e) ez) eV_5 ne_self)
  have c1 : tB (eOp oNeD (eLs bRepr (aCons (eV 6) aNil)) (eLs bRepr (aCons (eCall f__law_is_tape (aCons (eV 4) aNil)) aNil))) [o0, some (.obj 0), some (.int t), o3, some x, some (.str z), some (.bl (tapeB x)), o7] s = .ok false s :=
    tb_e (op_e (ls_e (cons_e eV_6 aNil_e) eb) (ls_e (cons_e (call_e (cons_e eV_4 aNil_e) (law_is_tape_eq h (by decide))) aNil_e) eb) ne_self)
  have c0 : tNot (tB (eCall f__law_is_beyond (aCons (eV 4) aNil))) [o0, some (.obj 0), some (.int t), o3, some x, some (.str z), some (.bl (tapeB x)), o7] s = .ok (!b) s := by
    rw [tNot_e, tb_e (call_e (cons_e eV_4 aNil_e) eb2), bind_ok]
  have ca : tAnd (tNot (tB (eCall f__law_is_beyond (aCons (eV 4) aNil)))) (tB (eOp oNeD (eLs bRepr (aCons (eV 6) aNil)) (eLs bRepr (aCons (eCall f__law_is_tape (aCons (eV 4) aNil)) aNil)))) [o0, some (.obj 0), some (.int t), o3, some x, some (.str z), some (.bl (tapeB x)), o7] s = .ok false s := by
    cases b with
    | false => exact tand_t c0 c1
    | true => exact tand_f c0
  exact (if_f (tor_f ca c2)).trans sNil_e
theorem plain (ns : List Int) (hl : ns.length ≤ 63) : Post (f_law [.scr (ns.map .int)] []) (fun v _ => v = .bl true) fun _ _ _ => False := by
  obtain ⟨s0, e0, k0⟩ := deck_ok ns hl
  obtain ⟨env', s', loop, R', k', o2, o3, o4, o5, o6, rfl⟩ := for_inv (t := mName 2) (b := l_law_1) (fun env s => ∃ R, Dk R s ∧ ∃ o2 o3 o4 o5 o6, env = [some (.scr (ns.map .int)), some (.obj 0), o2, o3, o4, o5, o6, none]) (ups 0 4) [some (.scr (ns.map .int)), some (.obj 0), none, none, none, none, none, none] s0 ⟨[], k0, _, _, _, _, _, rfl⟩ (by
    rintro x hx env s ⟨R, hk, o2, o3, o4, o5, o6, rfl⟩
    obtain ⟨i, _, rfl⟩ := ups_mem hx
    obtain ⟨mac, s1, J, e1, k1, hm⟩ := tape_ok hk
    obtain ⟨ys, s2, e2, l2, p2, k2⟩ := lc_inv (t := mName 7) (e := eCall f__law_otherwise (aCons (eV 1) (aCons (eV 3) aNil))) (env := [some (.scr (ns.map .int)), some (.obj 0), some (.int (0 + (i : Nat))), some mac, o4, o5, o6, none]) (Dk (R ++ J)) (fun y => ok 8 y ∧ cnt y ≤ 1000) (ups 0 4) s1 k1 (by
      intro x _ s hs
      obtain ⟨v, s', e, k, o, c⟩ := otherwise_ok hs hm
      exact ⟨_, v, s', rfl, call2 eV_1 eV_3 e, ⟨o, c⟩, k⟩)
    have hmo : ok 8 mac ∧ cnt mac ≤ 1000 := ⟨ti_ok (mach_ti hm) (by decide), by have := (mach_tiny hm).2; omega⟩
    obtain ⟨env2, s3, loop2, rfl, q4, q5, q6, rfl⟩ := for_inv (t := mName 4) (b := l_law_2) (fun env s => s = s2 ∧ ∃ o4 o5 o6, env = [some (.scr (ns.map .int)), some (.obj 0), some (.int (0 + (i : Nat))), some mac, o4, o5, o6, none]) ([mac] ++ ys) [some (.scr (ns.map .int)), some (.obj 0), some (.int (0 + (i : Nat))), some mac, o4, o5, o6, none] s2 ⟨rfl, _, _, _, rfl⟩ (by
      rintro y hy env s ⟨rfl, o4, o5, o6, rfl⟩
      have hyo : ok 8 y ∧ cnt y ≤ 1000 := by
        rcases List.mem_append.mp hy with hy | hy
        · simp at hy; subst hy; exact hmo
        · exact p2 y hy
      obtain ⟨e5, e6, e⟩ := thing_ok (s := s) (t := 0 + (i : Nat)) (o0 := some (.scr (ns.map .int))) (o3 := some mac) (o5 := o5) (o6 := o6) (o7 := none) hyo.1 hyo.2
      exact ⟨_, _, s, rfl, e, rfl, _, _, _, rfl⟩)
    refine ⟨_, [some (.scr (ns.map .int)), some (.obj 0), some (.int (0 + (i : Nat))), some mac, q4, q5, q6, none], s3, rfl, ?_, R ++ J, k2, _, _, _, _, _, rfl⟩
    unfold l_law_1
    refine (seq_asg (v := mac) (s1 := s1) (call2 eV_1 eC_e e1) rfl).trans ((for_e (p := ([mac] ++ ys, none)) (s1 := s3) ?_).trans loop2)
    have ylen : ys.length = 4 := by rw [l2, ups_len]
    have r1 : iR1 (aCons (eC (.int 4)) aNil) [some (.scr (ns.map .int)), some (.obj 0), some (.int (0 + (i : Nat))), some mac, o4, o5, o6, none] s1 = .ok (ups 0 4, none) s1 := iR1_ok (j := 4) (cons_e eC_e aNil_e) (by decide)
    have q1 : eLc false (iR1 (aCons (eC (.int 4)) aNil)) (mName 7) tYesM (eCall f__law_otherwise (aCons (eV 1) (aCons (eV 3) aNil))) [7] [some (.scr (ns.map .int)), some (.obj 0), some (.int (0 + (i : Nat))), some mac, o4, o5, o6, none] s1 = .ok (.lst ys) s3 := by
      rw [eLc_e, r1, bind_ok, if_pos (show (ups 0 4).length ≤ 16000000 by rw [ups_len]; decide)]
      show Rs.bind (lcL none (mName 7) tYesM _ [some (.scr (ns.map .int)), some (.obj 0), some (.int (0 + (i : Nat))), some mac, o4, o5, o6, none] (ups 0 4) s1) _ = _
      rw [e2, bind_ok, newL_f (by omega), lift_some]
    have q2 : eOp (oAdd false) (eLst false (aCons (eV 3) aNil)) (eLc false (iR1 (aCons (eC (.int 4)) aNil)) (mName 7) tYesM (eCall f__law_otherwise (aCons (eV 1) (aCons (eV 3) aNil))) [7]) [some (.scr (ns.map .int)), some (.obj 0), some (.int (0 + (i : Nat))), some mac, o4, o5, o6, none] s1 = .ok (.lst ([mac] ++ ys)) s3 :=
      op_e (lst_e (cons_e eV_3 aNil_e) (by show 1 ≤ 16000000; decide)) q1 (show newL false ([mac] ++ ys) s3 = _ from newL_f (by simp; omega))
    show iAny _ _ _ = _
    rw [iAny_e]
    exact (congrArg (fun r => Rs.bind r _) q2).trans rfl)
  have fin : f_law [.scr (ns.map .int)] [] = .ok (.bl true) s' := by
    refine fn_e rfl (env := [some (.scr (ns.map .int)), none, none, none, none, none, none, none]) rfl ?_
    unfold b_law
    refine (seq_asg (v := .obj 0) (s1 := s0) (call_e (cons_e eV_0 aNil_e) e0) rfl).trans ((seq_nx ((for_e (iR1_ok (j := 4) (cons_e eC_e aNil_e) (by decide))).trans loop)).trans (ret_e eC_e))
  rw [fin]
  exact rfl
end Lk55

theorem PySem.Challenge.cw_eyesonly_k55_tape_machines_of_any_value_holds : PySem.Challenge.rw_eyesonly_k55_tape_machines_of_any_value.Holds := by
  exact Wk55.holds Lk55.plain
