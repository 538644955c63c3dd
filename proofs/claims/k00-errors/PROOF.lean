import PyProof.Rows.All
import Wide.All
import OpenK.AllK
import Wide.FinOn
import HandS.ForMost
import HandS.ForExc
import HandS.Defaults
import HandS.IsInst
import HandS.ExcSuper
import HandS.Gcd
import HandS.Wide
import HandS.Conv
import HandS.Style
import HandS.Flow
import HandS.FStr
import HandS.Sort
import HandS.TupLe
import HandS.TryOnly
import KE.SortData
import HandS.ExcInit
import HandS.Deep
import HandS.CallSlots
import KE.KSuper
import KE.KExcSuper
import HandS.Text
import HandS.ExcField
import HandS.Words
import HandS.HeadHook1
import HandS.HeadHook2
import HandS.HeadEnd
import HandS.EndBits
import HandS.ExcIs
import HandS.ExcValue
import HandS.Head3
import HandS.Head4
import PySem.Challenge.RW_feltstone_k00_errors_side_by_side
set_option Elab.async false
set_option linter.all false
set_option maxRecDepth 100000
set_option maxHeartbeats 8000000
set_option exponentiation.threshold 100000
/-! FL1: value trees, slots, what stands for a tree in the abstract heap. -/
namespace FL
open PySem PySem.Spec L2

/-- a value tree -/
inductive T where
  | non | bl (b : Bool) | int (i : Int) | str (s : Str)
  | tup (xs : List T) | lst (xs : List T)
  /-- the law's script: read only -/
  | scr (xs : List T)
  | obj (c : Str) (ns : List Str) (xs : List T)
  /-- an exception: its class, its attributes -/
  | exo (c : Str) (ns : List Str) (xs : List T)

/-- the ground: the written part, the module's names -/
structure Gx where
  P : Program
  w : World
  base : Heap
  K : PySem.W.Frag
  mg : Str → Option Value
  /-- the own classes whose instances stand for trees -/
  cl : Str → Option Addr

/-- an exception stands at a: its class, its dict -/
def ExoAt (H : Hp) (a C : Addr) (d : Option Addr) (kvs : List (Str × V)) : Prop :=
  H a = some (exo a C d) ∧ ((d = none ∧ kvs = []) ∨ ∃ dx, d = some dx ∧ H dx = some (exd dx kvs))
theorem ExoAt.mono {F F' : Hp} {a C : Addr} {d : Option Addr} {kvs : List (Str × V)} (e : Same F F') (h : ExoAt F a C d kvs) : ExoAt F' a C d kvs := by
  obtain ⟨h1, h2⟩ := h
  refine ⟨e _ _ h1, ?_⟩
  rcases h2 with h2 | ⟨dx, k1, k2⟩
  · exact .inl h2
  · exact .inr ⟨dx, k1, e _ _ k2⟩
mutual
def Rep (G : Gx) (F : Hp) : V → T → Prop
  | v, .non => v = .non
  | v, .bl b => v = .bl b
  | v, .int i => v = .int i
  | v, .str s => v = .str s
  | v, .tup ts => ∃ a vs, v = .ref a ∧ SqT G.K F a vs ∧ Reps G F vs ts
  | v, .lst ts => ∃ a vs, v = .ref a ∧ F a = some (.lst vs) ∧ Reps G F vs ts
  | v, .scr ts => ∃ a vs, v = .ref a ∧ SqL G.K F a vs ∧ Reps G F vs ts
  | v, .obj c ns ts => ∃ a C dx vs, v = .ref a ∧ G.cl c = some C ∧ F a = some (.ins C dx (ns.zip vs)) ∧ vs.length = ns.length ∧ Reps G F vs ts
  | v, .exo c ns ts => ∃ a C d vs, v = .ref a ∧ G.mg c = some (.ref C) ∧ ExoAt F a C d (ns.zip vs) ∧ vs.length = ns.length ∧ Reps G F vs ts
def Reps (G : Gx) (F : Hp) : List V → List T → Prop
  | vs, [] => vs = []
  | vs, t :: ts => ∃ v r, vs = v :: r ∧ Rep G F v t ∧ Reps G F r ts
end

theorem sameSqT {K : PySem.W.Frag} {H H' : Hp} {a : Addr} {xs : List V} (e : Same H H') (h : SqT K H a xs) : SqT K H' a xs := by
  rcases h with (h | ⟨o, h⟩) | h
  · exact .inl (.inl (e _ _ h))
  · exact .inl (.inr ⟨o, e _ _ h⟩)
  · exact .inr h

mutual
theorem Rep.mono {G : Gx} {F F' : Hp} (e : Same F F') : ∀ (t : T) (v : V), Rep G F v t → Rep G F' v t
  | .non, v, h => by simpa only [Rep] using h
  | .bl _, v, h => by simpa only [Rep] using h
  | .int _, v, h => by simpa only [Rep] using h
  | .str _, v, h => by simpa only [Rep] using h
  | .tup ts, v, h => by
    simp only [Rep] at h ⊢
    obtain ⟨a, vs, h1, h2, h3⟩ := h
    exact ⟨a, vs, h1, sameSqT e h2, Reps.mono e ts vs h3⟩
  | .lst ts, v, h => by
    simp only [Rep] at h ⊢
    obtain ⟨a, vs, h1, h2, h3⟩ := h
    exact ⟨a, vs, h1, e _ _ h2, Reps.mono e ts vs h3⟩
  | .scr ts, v, h => by
    simp only [Rep] at h ⊢
    obtain ⟨a, vs, h1, h2, h3⟩ := h
    exact ⟨a, vs, h1, e.seq h2, Reps.mono e ts vs h3⟩
  | .obj c ns ts, v, h => by
    simp only [Rep] at h ⊢
    obtain ⟨a, C, dx, vs, h1, h2, h3, h4, h5⟩ := h
    exact ⟨a, C, dx, vs, h1, h2, e _ _ h3, h4, Reps.mono e ts vs h5⟩
  | .exo c ns ts, v, h => by
    simp only [Rep] at h ⊢
    obtain ⟨a, C, dx, vs, h1, h2, h3, h4, h5⟩ := h
    exact ⟨a, C, dx, vs, h1, h2, h3.mono e, h4, Reps.mono e ts vs h5⟩
theorem Reps.mono {G : Gx} {F F' : Hp} (e : Same F F') : ∀ (ts : List T) (vs : List V), Reps G F vs ts → Reps G F' vs ts
  | [], vs, h => by simpa only [Reps] using h
  | t :: ts, vs, h => by
    simp only [Reps] at h ⊢
    obtain ⟨v, r, h1, h2, h3⟩ := h
    exact ⟨v, r, h1, Rep.mono e t v h2, Reps.mono e ts r h3⟩
end

theorem Reps.length {G : Gx} {F : Hp} : ∀ {ts : List T} {vs : List V}, Reps G F vs ts → vs.length = ts.length
  | [], vs, h => by simp only [Reps] at h; subst h; rfl
  | t :: ts, vs, h => by
    simp only [Reps] at h
    obtain ⟨v, r, h1, h2, h3⟩ := h
    subst h1
    simp [Reps.length h3]
theorem Reps.get {G : Gx} {F : Hp} : ∀ {ts : List T} {vs : List V} {i : Nat} {t : T}, Reps G F vs ts → ts[i]? = some t → ∃ v, vs[i]? = some v ∧ Rep G F v t
  | [], vs, i, t, h, e => by simp at e
  | t' :: ts, vs, 0, t, h, e => by
    simp only [Reps] at h
    obtain ⟨v, r, h1, h2, h3⟩ := h
    subst h1
    simp at e
    subst e
    exact ⟨v, rfl, h2⟩
  | t' :: ts, vs, i + 1, t, h, e => by
    simp only [Reps] at h
    obtain ⟨v, r, h1, h2, h3⟩ := h
    subst h1
    obtain ⟨w, e1, e2⟩ := Reps.get (i := i) (t := t) h3 (by simpa using e)
    exact ⟨w, by simpa using e1, e2⟩
theorem Reps.got {G : Gx} {F : Hp} : ∀ {ts : List T} {vs : List V} {i : Nat} {v : V}, Reps G F vs ts → vs[i]? = some v → ∃ t, ts[i]? = some t ∧ Rep G F v t := fun {ts vs i v} h e => by
  have hl := h.length
  have hi : i < vs.length := (List.getElem?_eq_some_iff.mp e).1
  have hi' : i < ts.length := by omega
  obtain ⟨w, e1, e2⟩ := h.get (i := i) (t := ts[i]) (by simp [hi'])
  rw [e] at e1
  cases e1
  exact ⟨ts[i], by simp [hi'], e2⟩
theorem Reps.append {G : Gx} {F : Hp} : ∀ {ts us : List T} {vs ws : List V}, Reps G F vs ts → Reps G F ws us → Reps G F (vs ++ ws) (ts ++ us)
  | [], us, vs, ws, h, h' => by simp only [Reps] at h; subst h; simpa using h'
  | t :: ts, us, vs, ws, h, h' => by
    simp only [Reps] at h
    obtain ⟨v, r, h1, h2, h3⟩ := h
    subst h1
    simp only [List.cons_append, Reps]
    exact ⟨v, r ++ ws, rfl, h2, Reps.append h3 h'⟩
theorem Reps.one {G : Gx} {F : Hp} {v : V} {t : T} (h : Rep G F v t) : Reps G F [v] [t] := by
  simp only [Reps]
  exact ⟨v, [], rfl, h, rfl⟩
theorem Reps.cons {G : Gx} {F : Hp} {v : V} {t : T} {vs : List V} {ts : List T} (h : Rep G F v t) (h' : Reps G F vs ts) : Reps G F (v :: vs) (t :: ts) := by
  simp only [Reps]
  exact ⟨v, vs, rfl, h, h'⟩
theorem Reps.take {G : Gx} {F : Hp} : ∀ {ts : List T} {vs : List V} (n : Nat), Reps G F vs ts → Reps G F (vs.take n) (ts.take n)
  | ts, vs, 0, h => by simp [Reps]
  | [], vs, n + 1, h => by simp only [Reps] at h; subst h; simp [Reps]
  | t :: ts, vs, n + 1, h => by
    simp only [Reps] at h
    obtain ⟨v, r, h1, h2, h3⟩ := h
    subst h1
    exact Reps.cons h2 (Reps.take n h3)
theorem Reps.drop {G : Gx} {F : Hp} : ∀ {ts : List T} {vs : List V} (n : Nat), Reps G F vs ts → Reps G F (vs.drop n) (ts.drop n)
  | ts, vs, 0, h => by simpa using h
  | [], vs, n + 1, h => by simp only [Reps] at h; subst h; simp [Reps]
  | t :: ts, vs, n + 1, h => by
    simp only [Reps] at h
    obtain ⟨v, r, h1, h2, h3⟩ := h
    subst h1
    exact Reps.drop n h3
theorem Reps.set {G : Gx} {F : Hp} {v : V} {t : T} (h' : Rep G F v t) : ∀ {ts : List T} {vs : List V} (n : Nat), Reps G F vs ts → Reps G F (vs.set n v) (ts.set n t)
  | [], vs, n, h => by simp only [Reps] at h; subst h; simp [Reps]
  | t :: ts, vs, 0, h => by
    simp only [Reps] at h
    obtain ⟨v, r, h1, h2, h3⟩ := h
    subst h1
    exact Reps.cons h' h3
  | t :: ts, vs, n + 1, h => by
    simp only [Reps] at h
    obtain ⟨v, r, h1, h2, h3⟩ := h
    subst h1
    exact Reps.cons h2 (Reps.set h' n h3)

/-! no list within -/
mutual
def noL : T → Bool
  | .lst _ => false
  | .scr _ => false
  | .tup ts => noLs ts
  | .obj _ _ ts => noLs ts
  | .exo _ _ ts => noLs ts
  | _ => true
def noLs : List T → Bool
  | [] => true
  | t :: ts => noL t && noLs ts
end
/-- the same heap without lists at the addresses told by p -/
def less (F : Hp) (p : Addr → Prop) [DecidablePred p] : Hp := fun a => if p a then none else F a

mutual
theorem Rep.less {G : Gx} {F : Hp} {p : Addr → Prop} [DecidablePred p] (hp : ∀ a, p a → ∃ vs, F a = some (.lst vs)) : ∀ (t : T) (v : V), noL t = true → Rep G F v t → Rep G (less F p) v t
  | .non, v, _, h => by simpa only [Rep] using h
  | .bl _, v, _, h => by simpa only [Rep] using h
  | .int _, v, _, h => by simpa only [Rep] using h
  | .str _, v, _, h => by simpa only [Rep] using h
  | .lst ts, v, n, _ => by simp [noL] at n
  | .scr ts, v, n, _ => by simp [noL] at n
  | .tup ts, v, n, h => by
    simp only [noL] at n
    simp only [Rep] at h ⊢
    obtain ⟨a, vs, h1, h2, h3⟩ := h
    refine ⟨a, vs, h1, ?_, Reps.less hp ts vs n h3⟩
    rcases h2 with (h | ⟨o, h⟩) | h
    · refine .inl (.inl ?_)
      unfold FL.less
      rw [if_neg]
      · exact h
      · intro q
        obtain ⟨vs, e⟩ := hp a q
        rw [h] at e
        cases e
    · refine .inl (.inr ⟨o, ?_⟩)
      unfold FL.less
      rw [if_neg]
      · exact h
      · intro q
        obtain ⟨vs, e⟩ := hp a q
        rw [h] at e
        cases e
    · exact .inr h
  | .obj c ns ts, v, n, h => by
    simp only [noL] at n
    simp only [Rep] at h ⊢
    obtain ⟨a, C, dx, vs, h1, h2, h3, h4, h5⟩ := h
    refine ⟨a, C, dx, vs, h1, h2, ?_, h4, Reps.less hp ts vs n h5⟩
    unfold FL.less
    rw [if_neg]
    · exact h3
    · intro q
      obtain ⟨vs, e⟩ := hp a q
      rw [h3] at e
      cases e
  | .exo c ns ts, v, n, h => by
    simp only [noL] at n
    simp only [Rep] at h ⊢
    obtain ⟨a, C, d, vs, h1, h2, ⟨h3, h6⟩, h4, h5⟩ := h
    refine ⟨a, C, d, vs, h1, h2, ⟨?_, ?_⟩, h4, Reps.less hp ts vs n h5⟩
    · unfold FL.less
      rw [if_neg]
      · exact h3
      · intro q
        obtain ⟨vs, e⟩ := hp a q
        rw [h3] at e
        unfold exo at e
        cases e
    · rcases h6 with h6 | ⟨dx, k1, k2⟩
      · exact .inl h6
      · refine .inr ⟨dx, k1, ?_⟩
        unfold FL.less
        rw [if_neg]
        · exact k2
        · intro q
          obtain ⟨vs, e⟩ := hp dx q
          rw [k2] at e
          unfold exd at e
          cases e
theorem Reps.less {G : Gx} {F : Hp} {p : Addr → Prop} [DecidablePred p] (hp : ∀ a, p a → ∃ vs, F a = some (.lst vs)) : ∀ (ts : List T) (vs : List V), noLs ts = true → Reps G F vs ts → Reps G (less F p) vs ts
  | [], vs, _, h => by simpa only [Reps] using h
  | t :: ts, vs, n, h => by
    simp only [noLs, Bool.and_eq_true] at n
    simp only [Reps] at h ⊢
    obtain ⟨v, r, h1, h2, h3⟩ := h
    exact ⟨v, r, h1, Rep.less hp t v n.1 h2, Reps.less hp ts r n.2 h3⟩
end

/-! ### slots -/
/-- unset; a value; a list of one's own; the list that a parameter is (changed for the caller) -/
inductive Sl where
  | un | im (t : T) | mu (ts : List T) | mp (ts : List T)
  /-- a caught exception: its class, its attributes -/
  | xc (c : Str) (ns : List Str) (ts : List T)
abbrev Sls := List Sl
/-- a list that may be changed -/
def Sl.own : Sl → Option (List T)
  | .mu ts => some ts
  | .mp ts => some ts
  | _ => none

/-- the entry's objects that must stand, the parameter that is a list of the caller's -/
structure Fr0 where
  H0 : Hp
  pa : Option Addr
  F0 : Hp
  /-- the exception that is caught: its object, its class, its dict -/
  xa : Option (Addr × Value × Option Addr)
/-- an exception's object: its class, its attributes -/
def ExR (G : Gx) (F : Hp) (cls : Value) (d : Option Addr) (c : Str) (ns : List Str) (ts : List T) : Prop :=
  ∃ C, cls = .ref C ∧ G.mg c = some (.ref C) ∧ ((ns = [] ∧ ts = [] ∧ d = none) ∨ ∃ dx vs, d = some dx ∧ F dx = some (.xd (ns.zip vs)) ∧ vs.length = ns.length ∧ Reps G F vs ts)
theorem ExR.mono {G : Gx} {F F' : Hp} {cls : Value} {d : Option Addr} {c : Str} {ns : List Str} {ts : List T} (e : Same F F') (h : ExR G F cls d c ns ts) : ExR G F' cls d c ns ts := by
  obtain ⟨C, h1, h2, h3⟩ := h
  refine ⟨C, h1, h2, ?_⟩
  rcases h3 with h3 | ⟨dx, vs, k1, k2, k3, k4⟩
  · exact .inl h3
  · exact .inr ⟨dx, vs, k1, e _ _ k2, k3, Reps.mono e ts vs k4⟩
/-- a slot's list stands at a -/
structure LstAt (G : Gx) (F H : Hp) (a : Addr) (ts : List T) : Prop where
  at_ : ∃ vs, H a = some (.lst vs) ∧ Reps G F vs ts
  out : F a = none
/-- the state σ, H bears the slots s; F is what never changes -/
structure SR (G : Gx) (B : Fr0) (F H : Hp) (σ : St) (s : Sls) : Prop where
  sub : Same F H
  len : s.length = σ.length
  im : ∀ (i : Nat) (t : T), s[i]? = some (.im t) → ∃ v, σ[i]? = some (some v) ∧ Rep G F v t
  mu : ∀ (i : Nat) (ts : List T), s[i]? = some (.mu ts) → ∃ a, σ[i]? = some (some (.ref a)) ∧ LstAt G F H a ts ∧ B.H0 a = none
  mp : ∀ (i : Nat) (ts : List T), s[i]? = some (.mp ts) → ∃ a, σ[i]? = some (some (.ref a)) ∧ LstAt G F H a ts ∧ B.pa = some a
  ne : ∀ (i j : Nat) (x y : Sl) (a b : Addr), i ≠ j → s[i]? = some x → s[j]? = some y → x.own.isSome = true → y.own.isSome = true → σ[i]? = some (some (.ref a)) → σ[j]? = some (some (.ref b)) → a ≠ b
  fr : ∀ b o, B.H0 b = some o → B.pa ≠ some b → H b = some o
  pl : ∀ a, B.pa = some a → ∃ vs, H a = some (.lst vs)
  ph : ∀ a, B.pa = some a → B.H0 a ≠ none
  f0 : Same B.F0 F
  nw : ∀ b, B.F0 b = none → F b ≠ none → B.H0 b = none
  xc : ∀ (i : Nat) (c : Str) (ns : List Str) (ts : List T), s[i]? = some (.xc c ns ts) → ∃ a cls d, B.xa = some (a, cls, d) ∧ σ[i]? = some (some (.ref a)) ∧ (c = Str.empty ∨ ExR G F cls d c ns ts)

section
variable {G : Gx} {B : Fr0} {F F' H H' : Hp} {σ : St} {s : Sls}
theorem SR.own (h : SR G B F H σ s) {i : Nat} {x : Sl} {ts : List T} (e : s[i]? = some x) (o : x.own = some ts) : ∃ a, σ[i]? = some (some (.ref a)) ∧ LstAt G F H a ts ∧ (B.H0 a = none ∨ B.pa = some a) := by
  cases x with
  | un => cases o
  | im t => cases o
  | xc _ _ _ => cases o
  | mu us =>
    cases o
    obtain ⟨a, h1, h2, h3⟩ := h.mu i ts e
    exact ⟨a, h1, h2, .inl h3⟩
  | mp us =>
    cases o
    obtain ⟨a, h1, h2, h3⟩ := h.mp i ts e
    exact ⟨a, h1, h2, .inr h3⟩
theorem LstAt.mono {a : Addr} {ts : List T} (h : LstAt G F H a ts) (e : Same F F') (n : F' a = none) (k : H' a = H a) : LstAt G F' H' a ts := by
  obtain ⟨⟨vs, h1, h2⟩, h3⟩ := h
  exact ⟨⟨vs, k.trans h1, Reps.mono e ts vs h2⟩, n⟩
end
end FL

/-! FL2: the terms and what they are worth. -/
namespace FL
open PySem PySem.Spec L2

/-! ### equality of data -/
mutual
def eqT : T → T → Bool
  | .non, .non => true
  | .bl a, .bl b => a == b
  | .bl a, .int j => (if a then 1 else 0) == j
  | .int i, .bl b => i == (if b then 1 else 0)
  | .int i, .int j => i == j
  | .str x, .str y => x == y
  | .lst xs, .lst ys => eqTs xs ys
  | .tup xs, .tup ys => eqTs xs ys
  | _, _ => false
def eqTs : List T → List T → Bool
  | [], [] => true
  | x :: xs, y :: ys => eqT x y && eqTs xs ys
  | _, _ => false
end
mutual
/-- data of at most this depth, without instances, its texts of plain signs -/
def dat : Nat → T → Bool
  | _, .non => true
  | _, .bl _ => true
  | _, .int _ => true
  | _, .str s => PySem.PyData.strOk s
  | n + 1, .tup ts => dats n ts
  | n + 1, .lst ts => dats n ts
  | _, _ => false
def dats : Nat → List T → Bool
  | _, [] => true
  | n, t :: ts => dat n t && dats n ts
end

/-! ### as the kit's data -/
mutual
def toD : T → PyData
  | .non => .none
  | .bl b => .bool b
  | .int i => .int i
  | .str s => .str s
  | .tup ts => .tuple (toDs ts)
  | .lst ts => .list (toDs ts)
  | .obj _ _ _ => .none
  | .exo _ _ _ => .none
  | .scr _ => .none
def toDs : List T → List PyData
  | [] => []
  | t :: ts => toD t :: toDs ts
end

/-! ### results -/
inductive Rs (α : Type) where
  | ok (a : α) (s : Sls)
  | ex (c : Str) (ns : List Str) (ts : List T) (s : Sls)
  | bad
def Rs.bind {α β : Type} (r : Rs α) (k : α → Sls → Rs β) : Rs β := match r with
  | .ok a s => k a s
  | .ex c ns ts s => .ex c ns ts s
  | .bad => .bad
def Rs.of {α : Type} (o : Option α) (s : Sls) : Rs α := match o with
  | some a => .ok a s
  | none => .bad
/-- a def's result: the value, what has become of the list that it changes -/
inductive FR where
  | ok (t : T) (o : List T)
  | ex (c : Str) (ns : List Str) (ts : List T) (o : List T)
  | bad
structure FS where
  name : Str
  /-- the parameter that is a list which it changes -/
  mu : Option Nat
  /-- it hands back a new list -/
  fresh : Bool
  sem : List T → FR

/-! ### terms -/
inductive Bop where | add | sub | mul | fdiv | mod | pow | shl | shr | band
inductive Cop where | lt | le | gt | ge | eq | ne | isN | notN | inn | nin | isB | notB
inductive Bi where | len | abs | int | str | max2 | min2 | gcd | tuple
  deriving DecidableEq
/-- an argument of a call with keywords: a positional one, a keyword's, a default -/
inductive AK where | p (i : Nat) | k (j : Nat) | d (t : T)
inductive Ty where | int | bool | str | tuple | list | own (c : Str)
inductive Tg where | nm (i : Nat) | tp (gs : List Tg)
mutual
inductive E where
  | var (i : Nat)
  | cst (t : T)
  | glo (x : Str) (t : T)
  | bin (op : Bop) (a b : E)
  | neg (a : E)
  | cmp (op : Cop) (a b : E)
  | cmpB (op : Cop) (a : E) (i : Nat)
  | chn (op op' : Cop) (a b c : E)
  | no (a : E)
  | bo (isAnd : Bool) (es : Es)
  | ite (c : C) (a b : E)
  | tup (es : Es)
  | idx (a b : E)
  | idxB (i : Nat) (b : E)
  | slc (a : E) (lo hi : Oe)
  | fld (a : E) (f : Str)
  | call (g : FS) (as : As) (ds : List T)
  | bi (b : Bi) (es : Es)
  | lenB (i : Nat)
  | tupB (i : Nat)
  | isi (a : E) (one : Bool) (ks : List Ty)
  | frz (m : M)
  | exf (i : Nat) (f : Str) (cs : List Str)
  | stw (a b : E)
  | callK (g : FS) (es ks : Es) (ar : List AK)
  | fst (es : Es)
  /-- an exception made; its attribute; isinstance of one, of a caught one -/
  | newX (c : Str) (np : Nat) (sel : List (Str × Nat)) (es : Es)
  | fldX (a : E) (f : Str) (cs : List Str)
  | isO (a : E) (d : Str) (yes no : List Str)
  | isC (i : Nat) (d : Str) (yes no : List Str)
inductive Es where
  | nil | cons (e : E) (es : Es)
inductive Oe where
  | none | some (e : E)
inductive C where
  | e (e : E)
  | cmp (op : Cop) (a b : E)
  | cmpB (op : Cop) (a : E) (i : Nat)
  | chn (op op' : Cop) (a b c : E)
  | no (c : C)
  | bo (isAnd : Bool) (cs : Cs)
  | trB (i : Nat)
inductive Cs where
  | nil | cons (c : C) (cs : Cs)
inductive M where
  | disp (es : Es)
  | comp (own : List Nat) (g : Tg) (it : It) (cs : Cs) (elt : E)
  | lst (e : E) | lstB (i : Nat)
  | cat (a b : E)
  | rep (a b : E)
  | slc (a : E) (lo hi : Oe)
  | call (g : FS) (as : As) (ds : List T)
  | split (a b : E)
  | srt (e : E)
inductive As where
  | nil | e (e : E) (as : As) | b (i : Nat) (as : As)
inductive It where
  | seq (e : E) | seqB (i : Nat) | rng1 (e : E) | rng2 (a b : E) | enm (e : E) | zip (a b : E)
end
inductive S where
  | asg (g : Tg) (e : E)
  | asgM (i : Nat) (m : M)
  | setI (i : Nat) (k e : E)
  | app (i : Nat) (e : E)
  | expr (e : E)
  | ret (e : E) | retN | retM (m : M) | retB (i : Nat)
  | ifS (c : C) (a b : List S)
  | forS (g : Tg) (it : It) (b : List S)
  | forB (g : Tg) (i : Nat) (b : List S)
  | whl (n : Nat) (c : C) (b : List S)
  | brk | cnt | pass
  | rai (c : Str) (np : Nat) (sel : List (Str × Nat)) (es : Es)
  | tryS (b : List S) (yes no : List Str) (x : Option Nat) (h : List S)
  /-- two clauses: for these classes the second -/
  | tryS2 (b : List S) (ok : List Str) (i : Nat) (h : List S)

/-! ### operators -/
def big : Nat := 16777216
def MulOk (i j : Int) : Bool := decide (i.natAbs.log2 + j.natAbs.log2 < 1000000)
def bop : Bop → T → T → Option T
  | .add, .int i, .int j => some (.int (i + j))
  | .add, .str x, .str y => if x.length + y.length ≤ big then some (.str (x ++ y)) else none
  | .add, .tup xs, .tup ys => if xs.length + ys.length ≤ big ∧ xs ≠ [] then some (.tup (xs ++ ys)) else none
  | .sub, .int i, .int j => some (.int (i - j))
  | .mul, .int i, .int j => if MulOk i j then some (.int (i * j)) else none
  | .mul, .str x, .int j => if 0 ≤ j ∧ j ≤ 10000 ∧ x.length ≤ 1000 then some (.str (Txt.mul x j)) else none
  | .fdiv, .int i, .int j => if j ≠ 0 ∧ j.natAbs.log2 < 9000 then some (.int (i.fdiv j)) else none
  | .mod, .int i, .int j => if j ≠ 0 then some (.int (i.fmod j)) else none
  | .pow, .int i, .int j => if 0 ≤ j ∧ j ≤ 1000000 ∧ i.natAbs < 2 ^ 64 then some (.int (i ^ j.toNat)) else none
  | _, _, _ => none
/-- what is true of a value -/
def tru : T → Option Bool
  | .non => some false
  | .bl b => some b
  | .int i => some (i != 0)
  | .tup ts => some (!ts.isEmpty)
  | .lst ts => some (!ts.isEmpty)
  | _ => none
def items : T → Option (List T)
  | .tup ts => some ts
  | .lst ts => some ts
  | .scr ts => some ts
  | _ => none
/-- the string's signs, each a text -/
def signs (s : Str) : List T := s.cps.toList.map fun c => .str ⟨#[c]⟩
def inT (x : T) (ts : List T) : Bool := ts.any fun y => eqT y x
def cop : Cop → T → T → Option T
  | .lt, .int i, .int j => some (.bl (decide (i < j)))
  | .le, .int i, .int j => some (.bl (decide (i ≤ j)))
  | .gt, .int i, .int j => some (.bl (decide (j < i)))
  | .ge, .int i, .int j => some (.bl (decide (j ≤ i)))
  | .eq, x, y => if dat 60 x && dat 60 y then some (.bl (eqT x y)) else none
  | .ne, x, y => if dat 60 x && dat 60 y then some (.bl (!eqT x y)) else none
  | .isN, x, .non => some (.bl (match x with | .non => true | _ => false))
  | .notN, x, .non => some (.bl (match x with | .non => false | _ => true))
  | .isB, .bl a, .bl b => some (.bl (decide (a = b)))
  | .notB, .bl a, .bl b => some (.bl (!decide (a = b)))
  | .inn, .str x, .str y => match x.cps.toList with
    | [c] => some (.bl (decide (c ∈ y.cps.toList)))
    | _ => none
  | .nin, .str x, .str y => match x.cps.toList with
    | [c] => some (.bl (!decide (c ∈ y.cps.toList)))
    | _ => none
  | .inn, x, y => match items y with
    | some ts => if dat 60 x && dats 60 ts then some (.bl (inT x ts)) else none
    | none => none
  | .nin, x, y => match items y with
    | some ts => if dat 60 x && dats 60 ts then some (.bl (!inT x ts)) else none
    | none => none
  | _, _, _ => none
def biF : Bi → List T → Option T
  | .len, ts => match ts with
    | [.str s] => if s.length ≤ big then some (.int s.length) else none
    | [.tup ts] => some (.int ts.length)
    | [.lst ts] => some (.int ts.length)
    | [.scr ts] => some (.int ts.length)
    | _ => none
  | .abs, ts => match ts with
    | [.int i] => some (.int (if i < 0 then -i else i))
    | _ => none
  | .int, ts => match ts with
    | [.int i] => some (.int i)
    | [.bl b] => some (.int (if b then 1 else 0))
    | [.str a] => if a.length ≤ 640 then (PySem.intText? a).map .int else none
    | _ => none
  | .str, ts => match ts with
    | [.int i] => if i.natAbs.log2 < 1920 then some (.str (toString i)) else none
    | _ => none
  | .max2, ts => match ts with
    | [.int i, .int j] => some (.int (if j > i then j else i))
    | _ => none
  | .min2, ts => match ts with
    | [.int i, .int j] => some (.int (if j < i then j else i))
    | _ => none
  | .gcd, ts => match ts with
    | [.int a, .int b] => some (.int ((Nat.gcd a.natAbs b.natAbs : Nat) : Int))
    | _ => none
  | .tuple, ts => match ts with
    | [.lst ts] => some (.tup ts)
    | [.tup ts] => some (.tup ts)
    | _ => none
def isTy : T → Ty → Bool
  | .int _, .int => true
  | .bl _, .int => true
  | .bl _, .bool => true
  | .str _, .str => true
  | .tup _, .tuple => true
  | .lst _, .list => true
  | .obj c _ _, .own d => c == d
  | _, _ => false
def idxT : T → T → Option T
  | .tup ts, .int i => atI ts i
  | .lst ts, .int i => atI ts i
  | .str s, .int i => if s.length ≤ big then (atI s.cps.toList i).map fun c => .str ⟨#[c]⟩ else none
  | _, _ => none
def cutT (ts : List T) (lo hi : Option Int) : List T := (ts.drop (HT.sIx ts.length 0 lo)).take (HT.sIx ts.length ts.length hi - HT.sIx ts.length 0 lo)
/-- what can be sorted here -/
def srtOk (ts : List T) : Bool := dats 60 ts && (decide (ts.length ≤ big) && (ts.all (fun t => ts.all fun u => PySem.W.alike (toD t) (toD u)) && (ts.all (fun t => match t with | .tup (_ :: _) => true | _ => false) || ts.all (fun t => match t with | .non => false | .tup _ => false | _ => true))))
def srtT (ts : List T) : List T := ts.mergeSort (PySem.W.dataLe false toD)
/-- a part of an f-string -/
def fmtT : T → Option Str
  | .str y => if y.length ≤ big then some y else none
  | .int i => if i.natAbs.log2 < 1920 then some (toString i) else none
  | _ => none
def arr (ps ks : List T) : List AK → Option (List T)
  | [] => some []
  | .p i :: r => match ps[i]?, arr ps ks r with | some t, some ts => some (t :: ts) | _, _ => none
  | .k j :: r => match ks[j]?, arr ps ks r with | some t, some ts => some (t :: ts) | _, _ => none
  | .d t :: r => match arr ps ks r with | some ts => some (t :: ts) | _ => none
def fldT (f : Str) : List Str → List T → Option T
  | n :: ns, t :: ts => if n = f then some t else fldT f ns ts
  | _, _ => none

/-! ### slots -/
def getV (s : Sls) (i : Nat) : Rs T := match s[i]? with
  | some (.im t) => .ok t s
  | some (.mu ts) => .ok (.lst ts) (s.set i (.im (.lst ts)))
  | _ => .bad
def ownAt (s : Sls) (i : Nat) : Option (List T) := match s[i]? with
  | some x => x.own
  | none => none
def putOwn (s : Sls) (i : Nat) (ts : List T) : Sls := match s[i]? with
  | some (.mu _) => s.set i (.mu ts)
  | some (.mp _) => s.set i (.mp ts)
  | _ => s
def isMp (s : Sls) (i : Nat) : Bool := match s[i]? with
  | some (.mp _) => true
  | none => true
  | _ => false
mutual
def setTg : Tg → T → Sls → Option Sls
  | .nm i, t, s => if isMp s i then none else some (s.set i (.im t))
  | .tp gs, t, s => match t with
    | .tup ts => setTgs gs ts s
    | .lst ts => setTgs gs ts s
    | _ => none
def setTgs : List Tg → List T → Sls → Option Sls
  | [], [], s => some s
  | g :: gs, t :: ts, s => match setTg g t s with
    | some s1 => setTgs gs ts s1
    | none => none
  | _, _, _ => none
end
/-- an argument: a value, or a slot's own list -/
inductive AV where | v (t : T) | r (i : Nat)
def fill : List AV → Sls → Option (List T)
  | [], _ => some []
  | .v t :: r, s => (fill r s).map (t :: ·)
  | .r i :: r, s => match ownAt s i with
    | some ts => (fill r s).map (.lst ts :: ·)
    | none => none
/-- the slots that are lent, but for the one that is changed -/
def lent : List AV → Nat → Option Nat → List Nat
  | [], _, _ => []
  | .v _ :: r, k, m => lent r (k + 1) m
  | .r i :: r, k, m => if m = some k then lent r (k + 1) m else i :: lent r (k + 1) m
def muAt (avs : List AV) (m : Option Nat) : Option (Option Nat) := match m with
  | none => some none
  | some p => match avs[p]? with
    | some (.r i) => some (some i)
    | _ => none
/-- nothing that was lent is within -/
def retOk (l : List Nat) (o : List T) (fin : Bool) (t : T) : Bool := l.isEmpty || (noLs o && (if fin then (match t with | .lst us => noLs us | _ => false) else noL t))
def excOk (l : List Nat) (o es : List T) : Bool := l.isEmpty || (noLs o && noLs es)
def putMi (s : Sls) (o : List T) : Option Nat → Sls
  | some i => putOwn s i o
  | none => s
def hasMi (l : List Nat) : Option Nat → Bool
  | some i => l.contains i
  | none => false
/-- a call: what comes of it for the slots -/
def after (g : FS) (avs : List AV) (ds : List T) (s : Sls) (fin : Bool) : Rs T := match fill avs s, muAt avs g.mu with
  | some ts, some m =>
    let l := lent avs 0 g.mu
    if hasMi l m then .bad else
    match g.sem (ts ++ ds) with
    | .ok t o =>
      if retOk l o fin t then .ok t (putMi s o m) else .bad
    | .ex c ns es o => if excOk l o es then .ex c ns es (putMi s o m) else .bad
    | .bad => .bad
  | _, _ => .bad

/-- the fields that are picked of the arguments -/
def selV {α : Type} (sel : List (Str × Nat)) (ts : List α) : Option (List α) := sel.mapM fun p => ts[p.2]?
/-- yes, no, or not told -/
def ynB (yes no : List Str) (c : Str) (s : Sls) : Rs T := if yes.contains c then .ok (.bl true) s else if no.contains c then .ok (.bl false) s else .bad
/-! ### evaluation -/
/-- a comprehension's turns -/
def compL (own : List Nat) (s0 : Sls) (g : Tg) (tst : Sls → Rs Bool) (elt : Sls → Rs T) : List T → List T → Sls → Rs (List T)
  | [], acc, s => .ok acc s
  | x :: xs, acc, s => match setTg g x s with
    | some s1 => match tst s1 with
      | .ok true s2 => match elt s2 with
        | .ok y s3 => if acc.length < big then compL own s0 g tst elt xs (acc ++ [y]) (wipeS s3 own) else .bad
        | _ => .bad
      | .ok false s2 => compL own s0 g tst elt xs acc (wipeS s2 own)
      | _ => .bad
    | none => .bad
where
  wipeS (s : Sls) : List Nat → Sls
    | [] => s
    | i :: r => (wipeS s r).set i .un
abbrev wipeS := compL.wipeS
/-- the own slots as they stood -/
def backS (s0 s : Sls) : List Nat → Sls
  | [] => s
  | i :: r => (backS s0 s r).set i (match s0[i]? with | some x => x | none => .un)
def noOwn (s : Sls) : List Nat → Bool
  | [] => true
  | i :: r => (ownAt s i).isNone && noOwn s r
def isB (o : Option T) (s : Sls) : Rs Bool := match o with
  | some (.bl b) => .ok b s
  | _ => .bad
def truR (t : T) (s : Sls) : Rs Bool := Rs.of (tru t) s
mutual
def evE : E → Sls → Rs T
  | .var i, s => getV s i
  | .cst t, s => .ok t s
  | .glo _ t, s => .ok t s
  | .bin op a b, s => (evE a s).bind fun x s => (evE b s).bind fun y s => Rs.of (bop op x y) s
  | .neg a, s => (evE a s).bind fun x s => match x with | .int i => .ok (.int (-i)) s | _ => .bad
  | .cmp op a b, s => (evE a s).bind fun x s => (evE b s).bind fun y s => Rs.of (cop op x y) s
  | .cmpB op a i, s => (evE a s).bind fun x s => match ownAt s i with | some ts => Rs.of (cop op x (.lst ts)) s | none => .bad
  | .chn op op' a b c, s => (evE a s).bind fun x s => (evE b s).bind fun y s => match cop op x y with
    | some (.bl true) => (evE c s).bind fun z s => Rs.of (cop op' y z) s
    | some (.bl false) => .ok (.bl false) s
    | _ => .bad
  | .no a, s => (evE a s).bind fun x s => (truR x s).bind fun b s => .ok (.bl (!b)) s
  | .bo isAnd es, s => evBo isAnd es s
  | .ite c a b, s => (evC c s).bind fun k s => if k then evE a s else evE b s
  | .tup es, s => (evEs es s).bind fun ts s => if ts.length ≤ big then .ok (.tup ts) s else .bad
  | .idx a b, s => (evE a s).bind fun x s => (evE b s).bind fun y s => Rs.of (idxT x y) s
  | .idxB i b, s => match ownAt s i with
    | some _ => (evE b s).bind fun y s => match ownAt s i with | some ts => Rs.of (idxT (.lst ts) y) s | none => .bad
    | none => .bad
  | .slc a lo hi, s => (evE a s).bind fun x s => (evO lo s).bind fun l s => (evO hi s).bind fun h s => match x with
    | .tup ts => if HT.sIx ts.length 0 l = 0 ∧ HT.sIx ts.length ts.length h = ts.length then .bad else .ok (.tup (cutT ts l h)) s
    | .str z => if z.length ≤ big then .ok (.str (cutS z l h)) s else .bad
    | _ => .bad
  | .fld a f, s => (evE a s).bind fun x s => match x with | .obj _ ns ts => Rs.of (fldT f ns ts) s | _ => .bad
  | .call g as ds, s => if g.fresh then .bad else (evAs as s).bind fun avs s => after g avs ds s false
  | .bi b es, s => (evEs es s).bind fun ts s => Rs.of (biF b ts) s
  | .lenB i, s => match ownAt s i with | some ts => .ok (.int ts.length) s | none => .bad
  | .tupB i, s => match ownAt s i with | some ts => .ok (.tup ts) s | none => .bad
  | .isi a _ ks, s => (evE a s).bind fun x s => match x with
    | .scr _ => .bad
    | .exo _ _ _ => .bad
    | _ => .ok (.bl (ks.any (isTy x))) s
  | .frz m, s => (evM m s).bind fun ts s => .ok (.lst ts) s
  | .exf i f cs, s => match s[i]? with
    | some (.xc c ns ts) => if cs.contains c then Rs.of (fldT f ns ts) s else .bad
    | _ => .bad
  | .stw a b, s => (evE a s).bind fun x s => match x with
    | .str u => (evE b s).bind fun y s => match y with
      | .str v => .ok (.bl (Txt.startswith u v)) s
      | _ => .bad
    | _ => .bad
  | .callK g es ks ar, s => if g.fresh || g.mu.isSome then .bad else (evEs es s).bind fun ps s => (evEs ks s).bind fun kv s => match arr ps kv ar with
    | some ts => (match g.sem ts with
      | .ok t _ => .ok t s
      | _ => .bad)
    | none => .bad
  | .fst es, s => (evJs es Str.empty s).bind fun z s => .ok (.str z) s
  | .newX c np sel es, s => (evEs es s).bind fun ts s => if ts.length = np then (match selV sel ts with | some us => .ok (.exo c (sel.map (·.1)) us) s | none => .bad) else .bad
  | .fldX a f cs, s => (evE a s).bind fun x s => match x with
    | .exo c ns ts => if cs.contains c then Rs.of (fldT f ns ts) s else .bad
    | _ => .bad
  | .isO a _ yes no, s => (evE a s).bind fun x s => match x with
    | .exo c _ _ => ynB yes no c s
    | _ => .bad
  | .isC i _ yes no, s => match s[i]? with
    | some (.xc c _ _) => ynB yes no c s
    | _ => .bad
def evJs : Es → Str → Sls → Rs Str
  | .nil, acc, s => .ok acc s
  | .cons e es, acc, s => (evE e s).bind fun x s => match fmtT x with
    | some y => if (acc ++ y).length ≤ big then evJs es (acc ++ y) s else .bad
    | none => .bad
def evBo (isAnd : Bool) : Es → Sls → Rs T
  | .nil, s => .bad
  | .cons e .nil, s => evE e s
  | .cons e es, s => (evE e s).bind fun x s => match x with
    | .bl b => if b = isAnd then evBo isAnd es s else .ok (.bl b) s
    | _ => .bad
def evEs : Es → Sls → Rs (List T)
  | .nil, s => .ok [] s
  | .cons e es, s => (evE e s).bind fun x s => (evEs es s).bind fun xs s => .ok (x :: xs) s
def evO : Oe → Sls → Rs (Option Int)
  | .none, s => .ok none s
  | .some e, s => (evE e s).bind fun x s => match x with | .int i => .ok (some i) s | _ => .bad
def evC : C → Sls → Rs Bool
  | .e e, s => (evE e s).bind truR
  | .cmp op a b, s => (evE a s).bind fun x s => (evE b s).bind fun y s => isB (cop op x y) s
  | .cmpB op a i, s => (evE a s).bind fun x s => match ownAt s i with | some ts => isB (cop op x (.lst ts)) s | none => .bad
  | .chn op op' a b c, s => (evE a s).bind fun x s => (evE b s).bind fun y s => match cop op x y with
    | some (.bl true) => (evE c s).bind fun z s => isB (cop op' y z) s
    | some (.bl false) => .ok false s
    | _ => .bad
  | .no c, s => (evC c s).bind fun b s => .ok (!b) s
  | .bo isAnd cs, s => evCs isAnd cs s
  | .trB i, s => match ownAt s i with | some ts => .ok (!ts.isEmpty) s | none => .bad
def evCs (isAnd : Bool) : Cs → Sls → Rs Bool
  | .nil, s => .bad
  | .cons c .nil, s => evC c s
  | .cons c cs, s => (evC c s).bind fun b s => if b = isAnd then evCs isAnd cs s else .ok b s
/-- the tests of a comprehension -/
def evTs : Cs → Sls → Rs Bool
  | .nil, s => .ok true s
  | .cons c .nil, s => evC c s
  | .cons _ _, s => .bad
def evM : M → Sls → Rs (List T)
  | .disp es, s => (evEs es s).bind fun ts s => if ts.length ≤ big then .ok ts s else .bad
  | .comp own g it cs elt, s => (evIt it s).bind fun xs s1 =>
    if noOwn s1 own then (compL own s1 g (evTs cs) (evE elt) xs [] (wipeS s1 own)).bind fun ts s2 => .ok ts (backS s1 s2 own) else .bad
  | .lst e, s => (evE e s).bind fun x s => Rs.of (items x) s
  | .lstB i, s => Rs.of (ownAt s i) s
  | .cat a b, s => (evE a s).bind fun x s => (evE b s).bind fun y s => match x, y with
    | .lst xs, .lst ys => if xs.length + ys.length ≤ big then .ok (xs ++ ys) s else .bad
    | _, _ => .bad
  | .rep a b, s => (evE a s).bind fun x s => (evE b s).bind fun y s => match x, y with
    | .lst xs, .int k => if -(2 ^ 63) ≤ k ∧ k < 2 ^ 63 ∧ xs.length * k.toNat ≤ big then .ok (List.replicate k.toNat xs).flatten s else .bad
    | _, _ => .bad
  | .slc a lo hi, s => (evE a s).bind fun x s => (evO lo s).bind fun l s => (evO hi s).bind fun h s => match x with
    | .lst ts => .ok (cutT ts l h) s
    | _ => .bad
  | .call g as ds, s => if g.fresh then (evAs as s).bind fun avs s => (after g avs ds s true).bind fun t s => match t with
    | .lst ts => .ok ts s
    | _ => .bad else .bad
  | .split a b, s => (evE a s).bind fun x s => match x with
    | .str u => (evE b s).bind fun y s => match y with
      | .str v => if 0 < v.length ∧ u.length ≤ 1000000 then .ok ((Txt.split u v).map .str) s else .bad
      | _ => .bad
    | _ => .bad
  | .srt e, s => (evE e s).bind fun x s => match x with
    | .lst ts => if srtOk ts then .ok (srtT ts) s else .bad
    | _ => .bad
def evAs : As → Sls → Rs (List AV)
  | .nil, s => .ok [] s
  | .e e as, s => (evE e s).bind fun x s => (evAs as s).bind fun xs s => .ok (.v x :: xs) s
  | .b i as, s => match ownAt s i with
    | some _ => (evAs as s).bind fun xs s => .ok (.r i :: xs) s
    | none => .bad
def evIt : It → Sls → Rs (List T)
  | .seq e, s => (evE e s).bind fun x s => match x with
    | .str z => .ok (signs z) s
    | _ => Rs.of (items x) s
  | .seqB i, s => .bad
  | .rng1 e, s => (evE e s).bind fun x s => match x with
    | .int j => if -(2 ^ 62) ≤ j ∧ j < 2 ^ 62 then .ok ((List.range j.toNat).map fun k => .int (k : Nat)) s else .bad
    | _ => .bad
  | .rng2 a b, s => (evE a s).bind fun x s => (evE b s).bind fun y s => match x, y with
    | .int i, .int j => if -(2 ^ 62) ≤ i ∧ i < 2 ^ 62 ∧ -(2 ^ 62) ≤ j ∧ j < 2 ^ 62 then .ok ((List.range (j - i).toNat).map fun k => .int (i + (k : Nat))) s else .bad
    | _, _ => .bad
  | .enm e, s => (evE e s).bind fun x s => match x with
    | .lst ts => .ok (ts.zipIdx.map fun p => .tup [.int (p.2 : Nat), p.1]) s
    | _ => .bad
  | .zip a b, s => (evE a s).bind fun x s => (evE b s).bind fun y s => match x, y with
    | .lst xs, .lst ys => .ok ((xs.zip ys).map fun p => .tup [p.1, p.2]) s
    | _, _ => .bad
end

/-! ### statements -/
inductive SO where
  | nx (s : Sls) | brk (s : Sls) | cnt (s : Sls) | ret (t : T) (s : Sls) | retF (ts : List T) (s : Sls)
  | ex (c : Str) (ns : List Str) (ts : List T) (s : Sls) | bad
def Rs.so {α : Type} (r : Rs α) (k : α → Sls → SO) : SO := match r with
  | .ok a s => k a s
  | .ex c ns ts s => .ex c ns ts s
  | .bad => .bad
def SO.then (r : SO) (k : Sls → SO) : SO := match r with
  | .nx s => k s
  | r => r
def forL (g : Tg) (body : Sls → SO) : List T → Sls → SO
  | [], s => .nx s
  | x :: xs, s => match setTg g x s with
    | none => .bad
    | some s1 => match body s1 with
      | .nx s2 => forL g body xs s2
      | .cnt s2 => forL g body xs s2
      | .brk s2 => .nx s2
      | r => r
def whileL (c : Sls → Rs Bool) (body : Sls → SO) : Nat → Sls → SO
  | 0, _ => .bad
  | n + 1, s => (c s).so fun b s1 => if b then (match body s1 with
      | .nx s2 => whileL c body n s2
      | .cnt s2 => whileL c body n s2
      | .brk s2 => .nx s2
      | r => r) else .nx s1
def noXc : Sls → Bool
  | [] => true
  | .xc _ _ _ :: _ => false
  | _ :: r => noXc r
def noEx : SO → SO
  | .ex _ _ _ _ => .bad
  | r => r
/-- behind a suite: the caught exception is forgotten -/
def leaveX (i : Nat) : SO → SO
  | .nx s => if noXc (s.set i .un) then .nx (s.set i .un) else .bad
  | .brk s => if noXc (s.set i .un) then .brk (s.set i .un) else .bad
  | .cnt s => if noXc (s.set i .un) then .cnt (s.set i .un) else .bad
  | .ret t s => if noXc (s.set i .un) then .ret t (s.set i .un) else .bad
  | .retF ts s => .bad
  | .ex c ns ts s => .bad
  | .bad => .bad
/-- the slot's list is held -/
def heldX (i : Nat) (s : Sls) : Bool := (match s[i]? with | some (.xc c _ _) => decide (c = Str.empty) | _ => false) && noXc (s.set i .un)
/-- behind a loop over a slot's own list -/
def finB (i : Nat) (ts : List T) : SO → SO
  | .nx s => if heldX i s then .nx (s.set i (.mu ts)) else .bad
  | .ret t s => if heldX i s then .ret t (s.set i .un) else .bad
  | .ex c ns es s => if heldX i s then .ex c ns es (s.set i .un) else .bad
  | _ => .bad
mutual
def evS : S → Sls → SO
  | .asg g e, s => (evE e s).so fun t s => match setTg g t s with | some s => .nx s | none => .bad
  | .asgM i m, s => (evM m s).so fun ts s => if isMp s i then .bad else .nx (s.set i (.mu ts))
  | .setI i k e, s => (evE e s).so fun t s => match ownAt s i with
    | some _ => (evE k s).so fun x s => match ownAt s i, x with
      | some ts, .int j => (match ixN ts.length j with | some n => .nx (putOwn s i (ts.set n t)) | none => .bad)
      | _, _ => .bad
    | none => .bad
  | .app i e, s => match ownAt s i with
    | some _ => (evE e s).so fun t s => match ownAt s i with
      | some ts => if ts.length < big then .nx (putOwn s i (ts ++ [t])) else .bad
      | none => .bad
    | none => .bad
  | .expr e, s => (evE e s).so fun _ s => .nx s
  | .ret e, s => (evE e s).so fun t s => .ret t s
  | .retN, s => .ret .non s
  | .retM m, s => (evM m s).so fun ts s => .retF ts s
  | .retB i, s => match s[i]? with
    | some (.mu ts) => .retF ts (s.set i .un)
    | _ => .bad
  | .ifS c a b, s => (evC c s).so fun k s => if k then evSs a s else evSs b s
  | .forS g it b, s => (evIt it s).so fun xs s => forL g (evSs b) xs s
  | .forB g i b, s => match s[i]? with
    | some (.mu ts) => finB i ts (forL g (evSs b) ts (s.set i (.xc Str.empty [] [])))
    | _ => .bad
  | .whl n c b, s => whileL (evC c) (evSs b) n s
  | .brk, s => .brk s
  | .cnt, s => .cnt s
  | .pass, s => .nx s
  | .rai c np sel es, s => (evEs es s).so fun ts s => if ts.length = np then (match selV sel ts with | some us => .ex c (sel.map (·.1)) us s | none => .bad) else .bad
  | .tryS b yes no x h, s => match evSs b s with
    | .ex c ns ts s1 => if yes.contains c then (match x with
        | none => noEx (evSs h s1)
        | some i => if isMp s1 i then .bad else leaveX i (evSs h (s1.set i (.xc c ns ts)))) else if no.contains c then .ex c ns ts s1 else .bad
    | r => r
  | .tryS2 b ok i h, s => match evSs b s with
    | .ex c ns ts s1 => if ok.contains c then (if isMp s1 i then .bad else leaveX i (evSs h (s1.set i (.xc c ns ts)))) else .bad
    | r => r
def evSs : List S → Sls → SO
  | [], s => .nx s
  | x :: xs, s => (evS x s).then (evSs xs)
end

/-! ### a def -/
def startS : Option Nat → List T → Nat → Option Sls
  | _, [], _ => some []
  | m, t :: ts, k => if m = some k then (match t with
      | .lst us => (startS m ts (k + 1)).map (.mp us :: ·)
      | _ => none) else (startS m ts (k + 1)).map (.im t :: ·)
def outS (m : Option Nat) (s : Sls) : Option (List T) := match m with
  | none => some []
  | some p => match s[p]? with
    | some (.mp o) => some o
    | _ => none
/-- n slots behind np parameters -/
def mkSem (np n : Nat) (m : Option Nat) (fresh : Bool) (body : List S) (ts : List T) : FR :=
  if ts.length = np then match startS m ts 0 with
    | some s0 => match evSs body (s0 ++ List.replicate n .un) with
      | .ret t s => if fresh then .bad else (match outS m s with | some o => .ok t o | none => .bad)
      | .retF us s => if fresh then (match outS m s with | some o => .ok (.lst us) o | none => .bad) else .bad
      | .nx s => if fresh then .bad else (match outS m s with | some o => .ok .non o | none => .bad)
      | .ex c ns es s => (match outS m s with | some o => .ex c ns es o | none => .bad)
      | _ => .bad
    | none => .bad
  else .bad
end FL

/-! FL3: readings of the terms, the lemmas of binding and growing. -/
namespace FL
open PySem PySem.Spec L2

/-- the heap has grown -/
structure Grow (F H F' H' : Hp) : Prop where
  ff : Same F F'
  sub : Same F' H'
  hh : Same H H'
  new : ∀ b, F b = none → F' b ≠ none → H b = none
theorem Grow.refl {F H : Hp} (h : Same F H) : Grow F H F H := ⟨.refl _, h, .refl _, fun _ e n => (n e).elim⟩
theorem Grow.trans {F H F1 H1 F2 H2 : Hp} (a : Grow F H F1 H1) (b : Grow F1 H1 F2 H2) : Grow F H F2 H2 :=
  ⟨a.ff.trans b.ff, b.sub, a.hh.trans b.hh, fun c e n => by
    by_cases q : F1 c = none
    · exact a.hh.free (b.new c q n)
    · exact a.new c e q⟩
/-- a new object that never changes -/
theorem Grow.laid {F H : Hp} {p : Addr} {o : HO} (h : Same F H) (n : H p = none) : Grow F H (upd F p o) (upd H p o) := by
  have nF : F p = none := h.free n
  refine ⟨fun b u e => ?_, fun b u e => ?_, fun b u e => ?_, fun b e q => ?_⟩
  · by_cases z : b = p
    · subst z; rw [nF] at e; cases e
    · rw [upd_ne z]; exact e
  · by_cases z : b = p
    · subst z; rw [upd_same] at e ⊢; exact e
    · rw [upd_ne z] at e ⊢; exact h _ _ e
  · by_cases z : b = p
    · subst z; rw [n] at e; cases e
    · rw [upd_ne z]; exact e
  · by_cases z : b = p
    · subst z; exact n
    · rw [upd_ne z] at q; exact (q e).elim
/-- a new object that may change -/
theorem Grow.put {F H : Hp} {p : Addr} {o : HO} (h : Same F H) (n : H p = none) : Grow F H F (upd H p o) := by
  refine ⟨.refl _, fun b u e => ?_, fun b u e => ?_, fun b e q => (q e).elim⟩
  · by_cases z : b = p
    · subst z; rw [h _ _ e] at n; cases n
    · rw [upd_ne z]; exact h _ _ e
  · by_cases z : b = p
    · subst z; rw [n] at e; cases e
    · rw [upd_ne z]; exact e

section
variable {G : Gx} {B : Fr0} {F F' H H' : Hp} {σ : L2.St} {s : Sls}
/-- a free place was free at the entry -/
theorem SR.free0 (h : SR G B F H σ s) {b : Addr} (e : H b = none) : B.H0 b = none := by
  cases q : B.H0 b with
  | none => rfl
  | some o =>
    by_cases z : B.pa = some b
    · obtain ⟨vs, k⟩ := h.pl b z
      rw [e] at k
      cases k
    · rw [h.fr b o q z] at e
      cases e
theorem SR.grow (h : SR G B F H σ s) (g : Grow F H F' H') : SR G B F' H' σ s := by
  have own : ∀ {a : Addr} {ts : List T}, LstAt G F H a ts → LstAt G F' H' a ts := fun {a ts} l => by
    obtain ⟨⟨vs, h1, h2⟩, h3⟩ := id l
    refine ⟨⟨vs, g.hh _ _ h1, Reps.mono g.ff ts vs h2⟩, ?_⟩
    by_cases q : F' a = none
    · exact q
    · have z := g.new a h3 q
      rw [h1] at z; cases z
  refine ⟨g.sub, h.len, fun i t e => ?_, fun i ts e => ?_, fun i ts e => ?_, h.ne, fun b o e n => g.hh _ _ (h.fr b o e n), fun a e => let ⟨vs, q⟩ := h.pl a e; ⟨vs, g.hh _ _ q⟩, h.ph, h.f0.trans g.ff, fun b e n => ?_, fun i c ns ts e => let ⟨a, cls, d, h1, h2, h3⟩ := h.xc i c ns ts e; ⟨a, cls, d, h1, h2, h3.imp id fun z => z.mono g.ff⟩⟩
  case refine_4 =>
    by_cases q : F b = none
    · exact h.free0 (g.new b q n)
    · exact h.nw b e q
  · obtain ⟨v, h1, h2⟩ := h.im i t e
    exact ⟨v, h1, Rep.mono g.ff t v h2⟩
  · obtain ⟨a, h1, h2, h3⟩ := h.mu i ts e
    exact ⟨a, h1, own h2, h3⟩
  · obtain ⟨a, h1, h2, h3⟩ := h.mp i ts e
    exact ⟨a, h1, own h2, h3⟩
/-- the slot's list is given up: it never changes again -/
theorem SR.freeze (h : SR G B F H σ s) {i : Nat} {ts : List T} (e : s[i]? = some (.mu ts)) : ∃ a, σ[i]? = some (some (.ref a)) ∧ ∃ F', Grow F F F' F' ∧ Same F F' ∧ SR G B F' H σ (s.set i (.im (.lst ts))) ∧ Rep G F' (.ref a) (.lst ts) := by
  obtain ⟨a, h1, ⟨⟨vs, h2, h3⟩, h4⟩, h5⟩ := h.mu i ts e
  have sF : Same F (upd F a (.lst vs)) := fun b u q => by
    by_cases z : b = a
    · subst z; rw [h4] at q; cases q
    · rw [upd_ne z]; exact q
  have own : ∀ {b : Addr} {us : List T}, b ≠ a → LstAt G F H b us → LstAt G (upd F a (.lst vs)) H b us := fun {b us} nb l => by
    obtain ⟨⟨ws, k1, k2⟩, k3⟩ := l
    exact ⟨⟨ws, k1, Reps.mono sF us ws k2⟩, by rw [upd_ne nb]; exact k3⟩
  have hi : i < s.length := (List.getElem?_eq_some_iff.mp e).1
  have old : ∀ {j : Nat} {x : Sl}, (s.set i (.im (.lst ts)))[j]? = some x → (j = i ∧ x = .im (.lst ts)) ∨ (j ≠ i ∧ s[j]? = some x) := fun {j x} q => by
    by_cases z : j = i
    · subst z
      rw [List.getElem?_set_self hi] at q
      exact .inl ⟨rfl, (Option.some.inj q).symm⟩
    · rw [List.getElem?_set_ne (Ne.symm z)] at q
      exact .inr ⟨z, q⟩
  have rep : Rep G (upd F a (.lst vs)) (.ref a) (.lst ts) := by
    simp only [Rep]
    exact ⟨a, vs, rfl, upd_same, Reps.mono sF ts vs h3⟩
  refine ⟨a, h1, _, ⟨sF, .refl _, sF, fun b e' q => e'⟩, sF, ⟨fun b u q => ?_, by rw [List.length_set]; exact h.len, fun j t q => ?_, fun j us q => ?_, fun j us q => ?_, fun j k x y b c ne q r ox oy sj sk => ?_, h.fr, h.pl, h.ph, h.f0.trans sF, fun b e' n => ?_, fun j c ns ts q => by
    rcases old q with ⟨_, q'⟩ | ⟨_, q'⟩
    · cases q'
    · obtain ⟨a, cls, d, k1, k2, k3⟩ := h.xc j c ns ts q'; exact ⟨a, cls, d, k1, k2, k3.imp id fun z => z.mono sF⟩⟩, rep⟩
  · by_cases z : b = a
    · subst z; rw [upd_same] at q; cases q; exact h2
    · rw [upd_ne z] at q; exact h.sub _ _ q
  · rcases old q with ⟨rfl, q'⟩ | ⟨nj, q'⟩
    · cases q'
      exact ⟨_, h1, rep⟩
    · obtain ⟨v, k1, k2⟩ := h.im j t q'
      exact ⟨v, k1, Rep.mono sF t v k2⟩
  · rcases old q with ⟨rfl, q'⟩ | ⟨nj, q'⟩
    · cases q'
    · obtain ⟨b, k1, k2, k3⟩ := h.mu j us q'
      exact ⟨b, k1, own (h.ne j i _ _ b a nj q' e rfl rfl k1 h1) k2, k3⟩
  · rcases old q with ⟨rfl, q'⟩ | ⟨nj, q'⟩
    · cases q'
    · obtain ⟨b, k1, k2, k3⟩ := h.mp j us q'
      exact ⟨b, k1, own (h.ne j i _ _ b a nj q' e rfl rfl k1 h1) k2, k3⟩
  · rcases old q with ⟨rfl, q'⟩ | ⟨nj, q'⟩
    · subst q'; cases ox
    · rcases old r with ⟨rfl, r'⟩ | ⟨nk, r'⟩
      · subst r'; cases oy
      · exact h.ne j k x y b c ne q' r' ox oy sj sk
  · by_cases z : b = a
    · subst z; exact h5
    · rw [upd_ne z] at n; exact h.nw b e' n
/-- a slot's own list is changed -/
theorem SR.write (h : SR G B F H σ s) {i : Nat} {a : Addr} {x : Sl} {ts us : List T} {ws : List V} (e : s[i]? = some x) (o : x.own = some ts) (ha : σ[i]? = some (some (.ref a))) (hw : Reps G F ws us) : SR G B F (upd H a (.lst ws)) σ (putOwn s i us) := by
  obtain ⟨a', h1, ⟨⟨vs, h2, h3⟩, h4⟩, h5⟩ := h.own e o
  obtain rfl : a' = a := by rw [ha] at h1; cases h1; rfl
  have hi : i < s.length := (List.getElem?_eq_some_iff.mp e).1
  have keep : ∀ b u, b ≠ a' → H b = some u → upd H a' (.lst ws) b = some u := fun b u n q => by rw [upd_ne n]; exact q
  have own : ∀ {b : Addr} {zs : List T}, b ≠ a' → LstAt G F H b zs → LstAt G F (upd H a' (.lst ws)) b zs := fun {b zs} nb l => by
    obtain ⟨⟨ws, k1, k2⟩, k3⟩ := l
    exact ⟨⟨ws, keep _ _ nb k1, k2⟩, k3⟩
  have self : LstAt G F (upd H a' (.lst ws)) a' us := ⟨⟨ws, upd_same, hw⟩, h4⟩
  have isome : x.own.isSome = true := by rw [o]; rfl
  have old : ∀ {j : Nat} {y : Sl}, (putOwn s i us)[j]? = some y → (j = i ∧ ((∃ z, x = .mu z ∧ y = .mu us) ∨ (∃ z, x = .mp z ∧ y = .mp us))) ∨ (j ≠ i ∧ s[j]? = some y) := fun {j y} q => by
    unfold putOwn at q
    rw [e] at q
    by_cases z : j = i
    · subst z
      cases x with
      | un => cases o
      | im t => cases o
      | xc _ _ _ => cases o
      | mu w =>
        have q : (s.set j (.mu us))[j]? = some y := q
        rw [List.getElem?_set_self hi] at q
        exact .inl ⟨rfl, .inl ⟨w, rfl, (Option.some.inj q).symm⟩⟩
      | mp w =>
        have q : (s.set j (.mp us))[j]? = some y := q
        rw [List.getElem?_set_self hi] at q
        exact .inl ⟨rfl, .inr ⟨w, rfl, (Option.some.inj q).symm⟩⟩
    · refine .inr ⟨z, ?_⟩
      cases x with
      | un => exact q
      | im t => exact q
      | xc _ _ _ => exact q
      | mu w =>
        have q : (s.set i (.mu us))[j]? = some y := q
        rw [List.getElem?_set_ne (Ne.symm z)] at q
        exact q
      | mp w =>
        have q : (s.set i (.mp us))[j]? = some y := q
        rw [List.getElem?_set_ne (Ne.symm z)] at q
        exact q
  have lenp : (putOwn s i us).length = s.length := by
    unfold putOwn
    rw [e]
    cases x <;> simp
  refine ⟨fun b u q => ?_, by rw [lenp]; exact h.len, fun j t q => ?_, fun j zs q => ?_, fun j zs q => ?_, fun j k y z b c ne q r ox oy sj sk => ?_, fun b u q n => ?_, fun b q => ?_, h.ph, h.f0, h.nw, fun j c ns ts q => by
    rcases old q with ⟨_, ⟨_, _, q'⟩ | ⟨_, _, q'⟩⟩ | ⟨_, q'⟩
    · cases q'
    · cases q'
    · exact h.xc j c ns ts q'⟩
  · have nb : b ≠ a' := fun z => by subst z; rw [h4] at q; cases q
    exact keep b u nb (h.sub _ _ q)
  · rcases old q with ⟨rfl, ⟨z, _, q'⟩ | ⟨z, _, q'⟩⟩ | ⟨nj, q'⟩
    · cases q'
    · cases q'
    · exact h.im j t q'
  · rcases old q with ⟨rfl, ⟨z, ex, q'⟩ | ⟨z, _, q'⟩⟩ | ⟨nj, q'⟩
    · cases q'
      subst ex
      obtain ⟨b, k1, _, k3⟩ := h.mu j z e
      rw [ha] at k1; cases k1
      exact ⟨a', ha, self, k3⟩
    · cases q'
    · obtain ⟨b, k1, k2, k3⟩ := h.mu j zs q'
      exact ⟨b, k1, own (h.ne j i _ _ b a' nj q' e rfl isome k1 ha) k2, k3⟩
  · rcases old q with ⟨rfl, ⟨z, _, q'⟩ | ⟨z, ex, q'⟩⟩ | ⟨nj, q'⟩
    · cases q'
    · cases q'
      subst ex
      obtain ⟨b, k1, _, k3⟩ := h.mp j z e
      rw [ha] at k1; cases k1
      exact ⟨a', ha, self, k3⟩
    · obtain ⟨b, k1, k2, k3⟩ := h.mp j zs q'
      exact ⟨b, k1, own (h.ne j i _ _ b a' nj q' e rfl isome k1 ha) k2, k3⟩
  · have back : ∀ {j : Nat} {y : Sl}, (putOwn s i us)[j]? = some y → y.own.isSome = true → ∃ y', s[j]? = some y' ∧ y'.own.isSome = true := fun {j y} q oy => by
      rcases old q with ⟨rfl, _⟩ | ⟨nj, q⟩
      · exact ⟨x, e, isome⟩
      · exact ⟨y, q, oy⟩
    obtain ⟨y', q1, q2⟩ := back q ox
    obtain ⟨z', r1, r2⟩ := back r oy
    exact h.ne j k y' z' b c ne q1 r1 q2 r2 sj sk
  · have nb : b ≠ a' := fun z => by
      subst z
      rcases h5 with h5 | h5
      · rw [h5] at q; cases q
      · exact n h5
    exact keep b u nb (h.fr b u q n)
  · by_cases z : b = a'
    · subst z
      exact ⟨ws, upd_same⟩
    · obtain ⟨vs', q'⟩ := h.pl b q
      exact ⟨vs', keep b _ z q'⟩
/-- a slot is set -/
theorem SR.setIm (h : SR G B F H σ s) {i : Nat} {v : V} {t : T} (hi : i < s.length) (r : Rep G F v t) : SR G B F H (σ.set i (some v)) (s.set i (.im t)) := by
  have hi' : i < σ.length := by rw [← h.len]; exact hi
  have old : ∀ {j : Nat} {x : Sl}, (s.set i (.im t))[j]? = some x → (j = i ∧ x = .im t) ∨ (j ≠ i ∧ s[j]? = some x) := fun {j x} q => by
    by_cases z : j = i
    · subst z
      rw [List.getElem?_set_self hi] at q
      exact .inl ⟨rfl, (Option.some.inj q).symm⟩
    · rw [List.getElem?_set_ne (Ne.symm z)] at q
      exact .inr ⟨z, q⟩
  have sg : ∀ {j : Nat}, j ≠ i → (σ.set i (some v))[j]? = σ[j]? := fun {j} n => List.getElem?_set_ne (Ne.symm n)
  refine ⟨h.sub, by rw [List.length_set, List.length_set]; exact h.len, fun j u q => ?_, fun j us q => ?_, fun j us q => ?_, fun j k x y b c ne q r ox oy sj sk => ?_, h.fr, h.pl, h.ph, h.f0, h.nw, fun j c ns ts q => by
    rcases old q with ⟨_, q'⟩ | ⟨nj, q'⟩
    · cases q'
    · rw [sg nj]; exact h.xc j c ns ts q'⟩
  · rcases old q with ⟨rfl, q'⟩ | ⟨nj, q'⟩
    · cases q'
      exact ⟨v, List.getElem?_set_self hi', r⟩
    · rw [sg nj]; exact h.im j u q'
  · rcases old q with ⟨rfl, q'⟩ | ⟨nj, q'⟩
    · cases q'
    · rw [sg nj]; exact h.mu j us q'
  · rcases old q with ⟨rfl, q'⟩ | ⟨nj, q'⟩
    · cases q'
    · rw [sg nj]; exact h.mp j us q'
  · rcases old q with ⟨rfl, q'⟩ | ⟨nj, q'⟩
    · subst q'; cases ox
    · rcases old r with ⟨rfl, r'⟩ | ⟨nk, r'⟩
      · subst r'; cases oy
      · rw [sg nj] at sj
        rw [sg nk] at sk
        exact h.ne j k x y b c ne q' r' ox oy sj sk
/-- a slot gets a new list of its own -/
theorem SR.setMu (h : SR G B F H σ s) {i : Nat} {a : Addr} {ts : List T} (hi : i < s.length) (l : LstAt G F H a ts) (h0 : B.H0 a = none) (new : ∀ (j : Nat) (x : Sl), s[j]? = some x → x.own.isSome = true → σ[j]? ≠ some (some (.ref a))) :
    SR G B F H (σ.set i (some (.ref a))) (s.set i (.mu ts)) := by
  have hi' : i < σ.length := by rw [← h.len]; exact hi
  have old : ∀ {j : Nat} {x : Sl}, (s.set i (.mu ts))[j]? = some x → (j = i ∧ x = .mu ts) ∨ (j ≠ i ∧ s[j]? = some x) := fun {j x} q => by
    by_cases z : j = i
    · subst z
      rw [List.getElem?_set_self hi] at q
      exact .inl ⟨rfl, (Option.some.inj q).symm⟩
    · rw [List.getElem?_set_ne (Ne.symm z)] at q
      exact .inr ⟨z, q⟩
  have sg : ∀ {j : Nat}, j ≠ i → (σ.set i (some (.ref a)))[j]? = σ[j]? := fun {j} n => List.getElem?_set_ne (Ne.symm n)
  refine ⟨h.sub, by rw [List.length_set, List.length_set]; exact h.len, fun j u q => ?_, fun j us q => ?_, fun j us q => ?_, fun j k x y b c ne q r ox oy sj sk => ?_, h.fr, h.pl, h.ph, h.f0, h.nw, fun j c ns ts q => by
    rcases old q with ⟨_, q'⟩ | ⟨nj, q'⟩
    · cases q'
    · rw [sg nj]; exact h.xc j c ns ts q'⟩
  · rcases old q with ⟨rfl, q'⟩ | ⟨nj, q'⟩
    · cases q'
    · rw [sg nj]; exact h.im j u q'
  · rcases old q with ⟨rfl, q'⟩ | ⟨nj, q'⟩
    · cases q'
      exact ⟨a, List.getElem?_set_self hi', l, h0⟩
    · rw [sg nj]; exact h.mu j us q'
  · rcases old q with ⟨rfl, q'⟩ | ⟨nj, q'⟩
    · cases q'
    · rw [sg nj]; exact h.mp j us q'
  · rcases old q with ⟨rfl, q'⟩ | ⟨nj, q'⟩
    · rcases old r with ⟨rfl, r'⟩ | ⟨nk, r'⟩
      · exact (ne rfl).elim
      · rw [List.getElem?_set_self hi'] at sj
        cases sj
        rw [sg nk] at sk
        exact fun z => by subst z; exact new k y r' oy sk
    · rcases old r with ⟨rfl, r'⟩ | ⟨nk, r'⟩
      · rw [List.getElem?_set_self hi'] at sk
        cases sk
        rw [sg nj] at sj
        exact fun z => by subst z; exact new j x q' ox sj
      · rw [sg nj] at sj
        rw [sg nk] at sk
        exact h.ne j k x y b c ne q' r' ox oy sj sk
/-- a slot is forgotten -/
theorem SR.setUn (h : SR G B F H σ s) (i : Nat) (v : Option V) : SR G B F H (σ.set i v) (s.set i .un) := by
  have old : ∀ {j : Nat} {x : Sl}, (s.set i .un)[j]? = some x → x ≠ .un → (j ≠ i ∧ s[j]? = some x) := fun {j x} q n => by
    by_cases z : j = i
    · subst z
      by_cases hi : j < s.length
      · rw [List.getElem?_set_self hi] at q
        exact (n (Option.some.inj q).symm).elim
      · rw [List.getElem?_eq_none (by simpa using hi)] at q; cases q
    · rw [List.getElem?_set_ne (Ne.symm z)] at q
      exact ⟨z, q⟩
  have sg : ∀ {j : Nat}, j ≠ i → (σ.set i v)[j]? = σ[j]? := fun {j} n => List.getElem?_set_ne (Ne.symm n)
  refine ⟨h.sub, by rw [List.length_set, List.length_set]; exact h.len, fun j u q => ?_, fun j us q => ?_, fun j us q => ?_, fun j k x y b c ne q r ox oy sj sk => ?_, h.fr, h.pl, h.ph, h.f0, h.nw, fun j c ns ts q => by
    obtain ⟨nj, q⟩ := old q (fun z => by cases z)
    rw [sg nj]; exact h.xc j c ns ts q⟩
  · obtain ⟨nj, q⟩ := old q (fun z => by cases z)
    rw [sg nj]; exact h.im j u q
  · obtain ⟨nj, q⟩ := old q (fun z => by cases z)
    rw [sg nj]; exact h.mu j us q
  · obtain ⟨nj, q⟩ := old q (fun z => by cases z)
    rw [sg nj]; exact h.mp j us q
  · obtain ⟨nj, q⟩ := old q (fun z => by subst z; cases ox)
    obtain ⟨nk, r⟩ := old r (fun z => by subst z; cases oy)
    rw [sg nj] at sj
    rw [sg nk] at sk
    exact h.ne j k x y b c ne q r ox oy sj sk
end

/-! ### readings -/
/-- what is wanted of a result -/
def Pst {α β : Type} (G : Gx) (B : Fr0) (W : WX) (F : Hp) (σ : L2.St) (rel : Sls → Hp → Hp → β → α → Prop) (r : Rs α) (Q : β → Hp → Prop) : Prop := match r with
  | .ok a s' => ∀ b F' H', Same F F' → SR G B F' H' σ s' → rel s' F' H' b a → Q b H'
  | .ex c ns ts s' => ∀ cls d F' H', Same F F' → SR G B F' H' σ s' → ExR G F' cls d c ns ts → W cls d σ H'
  | .bad => False
def rd {α β : Type} (G : Gx) (B : Fr0) (W : WX) (rel : Sls → Hp → Hp → β → α → Prop) (ev : Sls → Rs α) : L2.St → Hp → (β → Hp → Prop) → Prop :=
  fun σ H Q => ∃ F s, SR G B F H σ s ∧ Pst G B W F σ rel (ev s) Q
section
variable {α β γ δ : Type} {G : Gx} {B : Fr0} {W : WX} {F F' : Hp} {σ : L2.St} {rel : Sls → Hp → Hp → β → α → Prop} {rel2 : Sls → Hp → Hp → δ → γ → Prop} {r : Rs α} {Q Q' : β → Hp → Prop} {Q2 : δ → Hp → Prop}
theorem Pst.mono (h : Pst G B W F σ rel r Q) (k : ∀ b H, Q b H → Q' b H) : Pst G B W F σ rel r Q' := by
  cases r with
  | ok a s => exact fun b F' H' e sr rl => k _ _ (h b F' H' e sr rl)
  | ex c ns ts s => exact h
  | bad => exact h
theorem Pst.up (h : Pst G B W F σ rel r Q) (e : Same F F') : Pst G B W F' σ rel r Q := by
  cases r with
  | ok a s => exact fun b F2 H' e2 sr rl => h b F2 H' (e.trans e2) sr rl
  | ex c ns ts s => exact fun cls d F2 H' e2 sr rl => h cls d F2 H' (e.trans e2) sr rl
  | bad => exact h
theorem Pst.bind {k : α → Sls → Rs γ} (h : Pst G B W F σ rel2 (r.bind k) Q2) :
    Pst G B W F σ rel r fun b H' => ∃ a F' s', Same F F' ∧ SR G B F' H' σ s' ∧ rel s' F' H' b a ∧ Pst G B W F' σ rel2 (k a s') Q2 := by
  cases r with
  | ok a s => exact fun b F' H' e sr rl => ⟨a, F', s, e, sr, rl, h.up e⟩
  | ex c ns ts s => exact h
  | bad => exact h
end
/-- the relations -/
def relE (G : Gx) : Sls → Hp → Hp → V → T → Prop := fun _ F _ v t => Rep G F v t
def relEs (G : Gx) : Sls → Hp → Hp → List V → List T → Prop := fun _ F _ vs ts => Reps G F vs ts
def relC : Sls → Hp → Hp → Bool → Bool → Prop := fun _ _ _ b c => b = c
/-- a new list that nothing else knows -/
def relM (G : Gx) (B : Fr0) (σ : L2.St) : Sls → Hp → Hp → V → List T → Prop := fun s F H v ts => ∃ a, v = .ref a ∧ LstAt G F H a ts ∧ B.H0 a = none ∧ B.pa ≠ some a ∧ ∀ (j : Nat) (x : Sl), s[j]? = some x → x.own.isSome = true → σ[j]? ≠ some (some (.ref a))
def relO : Sls → Hp → Hp → Option Int → Option Int → Prop := fun _ _ _ x y => x = y
abbrev rdE (G : Gx) (B : Fr0) (W : WX) (e : E) : TE := rd G B W (relE G) (evE e)
end FL

/-! FL4: operators. -/
namespace FL
open PySem PySem.Spec L2

/-! ### data -/
mutual
theorem dp_of {G : Gx} {F : Hp} : ∀ (n : Nat) (t : T) (v : V), dat n t = true → Rep G F v t → Dp G.K F v (toD t)
  | _, .non, v, _, h => by simp only [Rep] at h; subst h; simp only [toD]; exact .non
  | _, .bl b, v, _, h => by simp only [Rep] at h; subst h; simp only [toD]; exact .bl b
  | _, .int b, v, _, h => by simp only [Rep] at h; subst h; simp only [toD]; exact .int b
  | _, .str b, v, _, h => by simp only [Rep] at h; subst h; simp only [toD]; exact .str b
  | n + 1, .tup ts, v, d, h => by
    simp only [Rep] at h
    obtain ⟨a, vs, rfl, h2, h3⟩ := h
    simp only [toD]
    exact .tup h2 (dps_of n ts vs (by simpa [dat] using d) h3)
  | n + 1, .lst ts, v, d, h => by
    simp only [Rep] at h
    obtain ⟨a, vs, rfl, h2, h3⟩ := h
    simp only [toD]
    exact .lst (.inl (.inl h2)) (dps_of n ts vs (by simpa [dat] using d) h3)
  | 0, .tup ts, v, d, h => by simp [dat] at d
  | 0, .lst ts, v, d, h => by simp [dat] at d
  | 0, .obj _ _ ts, v, d, h => by simp [dat] at d
  | n + 1, .obj _ _ ts, v, d, h => by simp [dat] at d
  | 0, .exo _ _ ts, v, d, h => by simp [dat] at d
  | n + 1, .exo _ _ ts, v, d, h => by simp [dat] at d
  | 0, .scr ts, v, d, h => by simp [dat] at d
  | n + 1, .scr ts, v, d, h => by simp [dat] at d
theorem dps_of {G : Gx} {F : Hp} : ∀ (n : Nat) (ts : List T) (vs : List V), dats n ts = true → Reps G F vs ts → DpAll G.K F vs (toDs ts)
  | _, [], vs, _, h => by simp only [Reps] at h; subst h; simp only [toDs]; exact .nil
  | n, t :: ts, vs, d, h => by
    simp only [Reps] at h
    obtain ⟨v, r, rfl, h2, h3⟩ := h
    simp only [dats, Bool.and_eq_true] at d
    simp only [toDs]
    exact .cons (dp_of n t v d.1 h2) (dps_of n ts r d.2 h3)
end
mutual
theorem lay_of : ∀ (n : Nat) (t : T), dat n t = true → (toD t).canLay0 = true ∧ (toD t).depth ≤ n + 1
  | _, .non, _ => by simp [toD, PyData.canLay0, PyData.depth]
  | _, .bl b, _ => by simp [toD, PyData.canLay0, PyData.depth]
  | _, .int b, _ => by simp [toD, PyData.canLay0, PyData.depth]
  | _, .str b, d => by
    simp only [dat] at d
    simp [toD, PyData.canLay0, PyData.depth, d]
  | n + 1, .tup ts, d => by
    have z := lays_of n ts (by simpa [dat] using d)
    simp only [toD, PyData.canLay0, PyData.depth]
    exact ⟨z.1, by omega⟩
  | n + 1, .lst ts, d => by
    have z := lays_of n ts (by simpa [dat] using d)
    simp only [toD, PyData.canLay0, PyData.depth]
    exact ⟨z.1, by omega⟩
  | 0, .tup ts, d => by simp [dat] at d
  | 0, .lst ts, d => by simp [dat] at d
  | 0, .obj _ _ ts, d => by simp [dat] at d
  | n + 1, .obj _ _ ts, d => by simp [dat] at d
  | 0, .exo _ _ ts, d => by simp [dat] at d
  | n + 1, .exo _ _ ts, d => by simp [dat] at d
  | 0, .scr ts, d => by simp [dat] at d
  | n + 1, .scr ts, d => by simp [dat] at d
theorem lays_of : ∀ (n : Nat) (ts : List T), dats n ts = true → PyData.canLayAll0 (toDs ts) = true ∧ PyData.depthAll (toDs ts) ≤ n + 1
  | _, [], _ => by simp [toDs, PyData.canLayAll0, PyData.depthAll]
  | n, t :: ts, d => by
    simp only [dats, Bool.and_eq_true] at d
    have z1 := lay_of n t d.1
    have z2 := lays_of n ts d.2
    simp only [toDs, PyData.canLayAll0, PyData.depthAll, Bool.and_eq_true]
    exact ⟨⟨z1.1, z2.1⟩, by omega⟩
end
theorem no_scr {n : Nat} {ts : List T} (h : dat n (.scr ts) = true) : False := by
  cases n <;> simp [dat] at h
theorem no_obj {n : Nat} {c : Str} {ns : List Str} {ts : List T} (h : dat n (.obj c ns ts) = true) : False := by
  cases n <;> simp [dat] at h
theorem no_exo {n : Nat} {c : Str} {ns : List Str} {ts : List T} (h : dat n (.exo c ns ts) = true) : False := by
  cases n <;> simp [dat] at h
mutual
theorem eqv_of : ∀ (n m : Nat) (t u : T), dat n t = true → dat m u = true → PyData.eqv (toD t) (toD u) = eqT t u
  | n + 1, m + 1, .tup ts, .tup us, h1, h2 => by
    simp only [toD, PyData.eqv, eqT]
    exact eqvs_of n m ts us (by simpa [dat] using h1) (by simpa [dat] using h2)
  | n + 1, m + 1, .lst ts, .lst us, h1, h2 => by
    simp only [toD, PyData.eqv, eqT]
    exact eqvs_of n m ts us (by simpa [dat] using h1) (by simpa [dat] using h2)
  | 0, _, .tup ts, _, h1, _ => by simp [dat] at h1
  | 0, _, .lst ts, _, h1, _ => by simp [dat] at h1
  | _, 0, _, .tup ts, _, h1 => by simp [dat] at h1
  | _, 0, _, .lst ts, _, h1 => by simp [dat] at h1
  | n, m, .obj _ _ _, _, h1, _ => (no_obj h1).elim
  | n, m, _, .obj _ _ _, _, h1 => (no_obj h1).elim
  | n, m, .exo _ _ _, _, h1, _ => (no_exo h1).elim
  | n, m, _, .exo _ _ _, _, h1 => (no_exo h1).elim
  | n, m, .scr _, _, h1, _ => (no_scr h1).elim
  | n, m, _, .scr _, _, h1 => (no_scr h1).elim
  | _, _, .non, .non, _, _ => by simp [toD, PyData.eqv, eqT]
  | _, _, .non, .bl _, _, _ => by simp [toD, PyData.eqv, eqT]
  | _, _, .non, .int _, _, _ => by simp [toD, PyData.eqv, eqT]
  | _, _, .non, .str _, _, _ => by simp [toD, PyData.eqv, eqT]
  | _, _ + 1, .non, .tup _, _, _ => by simp [toD, PyData.eqv, eqT]
  | _, _ + 1, .non, .lst _, _, _ => by simp [toD, PyData.eqv, eqT]
  | _, _, .bl _, .non, _, _ => by simp [toD, PyData.eqv, eqT]
  | _, _, .bl _, .bl _, _, _ => by simp [toD, PyData.eqv, eqT]
  | _, _, .bl _, .int _, _, _ => by simp [toD, PyData.eqv, eqT]
  | _, _, .bl _, .str _, _, _ => by simp [toD, PyData.eqv, eqT]
  | _, _ + 1, .bl _, .tup _, _, _ => by simp [toD, PyData.eqv, eqT]
  | _, _ + 1, .bl _, .lst _, _, _ => by simp [toD, PyData.eqv, eqT]
  | _, _, .int _, .non, _, _ => by simp [toD, PyData.eqv, eqT]
  | _, _, .int _, .bl _, _, _ => by simp [toD, PyData.eqv, eqT]
  | _, _, .int _, .int _, _, _ => by simp [toD, PyData.eqv, eqT]
  | _, _, .int _, .str _, _, _ => by simp [toD, PyData.eqv, eqT]
  | _, _ + 1, .int _, .tup _, _, _ => by simp [toD, PyData.eqv, eqT]
  | _, _ + 1, .int _, .lst _, _, _ => by simp [toD, PyData.eqv, eqT]
  | _, _, .str _, .non, _, _ => by simp [toD, PyData.eqv, eqT]
  | _, _, .str _, .bl _, _, _ => by simp [toD, PyData.eqv, eqT]
  | _, _, .str _, .int _, _, _ => by simp [toD, PyData.eqv, eqT]
  | _, _, .str _, .str _, _, _ => by simp [toD, PyData.eqv, eqT]
  | _, _ + 1, .str _, .tup _, _, _ => by simp [toD, PyData.eqv, eqT]
  | _, _ + 1, .str _, .lst _, _, _ => by simp [toD, PyData.eqv, eqT]
  | _ + 1, _, .tup _, .non, _, _ => by simp [toD, PyData.eqv, eqT]
  | _ + 1, _, .tup _, .bl _, _, _ => by simp [toD, PyData.eqv, eqT]
  | _ + 1, _, .tup _, .int _, _, _ => by simp [toD, PyData.eqv, eqT]
  | _ + 1, _, .tup _, .str _, _, _ => by simp [toD, PyData.eqv, eqT]
  | _ + 1, _ + 1, .tup _, .lst _, _, _ => by simp [toD, PyData.eqv, eqT]
  | _ + 1, _, .lst _, .non, _, _ => by simp [toD, PyData.eqv, eqT]
  | _ + 1, _, .lst _, .bl _, _, _ => by simp [toD, PyData.eqv, eqT]
  | _ + 1, _, .lst _, .int _, _, _ => by simp [toD, PyData.eqv, eqT]
  | _ + 1, _, .lst _, .str _, _, _ => by simp [toD, PyData.eqv, eqT]
  | _ + 1, _ + 1, .lst _, .tup _, _, _ => by simp [toD, PyData.eqv, eqT]
theorem eqvs_of : ∀ (n m : Nat) (ts us : List T), dats n ts = true → dats m us = true → PyData.eqvAll (toDs ts) (toDs us) = eqTs ts us
  | _, _, [], [], _, _ => by simp [toDs, PyData.eqvAll, eqTs]
  | _, _, [], _ :: _, _, _ => by simp [toDs, PyData.eqvAll, eqTs]
  | _, _, _ :: _, [], _, _ => by simp [toDs, PyData.eqvAll, eqTs]
  | n, m, t :: ts, u :: us, h1, h2 => by
    simp only [dats, Bool.and_eq_true] at h1 h2
    simp only [toDs, PyData.eqvAll, eqTs]
    rw [eqv_of n m t u h1.1 h2.1, eqvs_of n m ts us h1.2 h2.2]
end
theorem shaped_of {t : T} (h : dat 60 t = true) : SeqAt.shaped (toD t) = true := by
  have z := lay_of 60 t h
  unfold SeqAt.shaped
  rw [z.1]
  simp only [Bool.true_and, decide_eq_true_eq]
  omega
theorem shapeds_of {ts : List T} (h : dats 60 ts = true) : SeqAt.shaped (.list (toDs ts)) = true := by
  have z := lays_of 60 ts h
  have d : (PyData.list (toDs ts)).depth ≤ 64 := by
    simp only [PyData.depth]
    omega
  have l : (PyData.list (toDs ts)).canLay0 = true := by
    simp only [PyData.canLay0]
    exact z.1
  unfold SeqAt.shaped
  rw [l, decide_eq_true d]
  rfl
theorem any_of {n m : Nat} {t : T} (h : dat n t = true) : ∀ {ts : List T}, dats m ts = true → ((toDs ts).any fun z => PyData.eqv z (toD t)) = inT t ts
  | [], _ => rfl
  | u :: us, d => by
    simp only [dats, Bool.and_eq_true] at d
    unfold inT
    simp only [toDs, List.any_cons]
    rw [eqv_of m n u t d.1 h]
    exact congrArg _ (any_of h d.2)

/-! ### binary operators -/
/-- a reading of two values by an operator of trees -/
def rB (G : Gx) (o : T → T → Option T) : R2 := fun x y H Q => ∃ F tx ty z, Same F H ∧ Rep G F x tx ∧ Rep G F y ty ∧ o tx ty = some z ∧ ∀ v F' H', Grow F H F' H' → Rep G F' v z → Q v H'
theorem big_eq : big = sizeLine := by decide
section
variable {X : Cx}
theorem op_fdivZ : OpR X (binaryOp .FloorDiv) (rI (fun _ j => j ≠ 0 ∧ j.natAbs.log2 < 9000) fun i j => .int (i.fdiv j)) := opI fun _ _ _ _ _ _ _ hc q => PyProof.Rows.floordiv_int hc.1 q (.inl (PyProof.noPylong_of_log2 hc.2))
theorem mulOk_W {i j : Int} (h : MulOk i j = true) : CMulW i j := by
  unfold MulOk at h
  show _ < _
  exact of_decide_eq_true h
def bopOk : Bop → Operator → Bool
  | .add, .Add => true
  | .sub, .Sub => true
  | .mul, .Mult => true
  | .fdiv, .FloorDiv => true
  | .mod, .Mod => true
  | .pow, .Pow => true
  | _, _ => false
theorem op_bop {G : Gx} (hG : X.K = G.K) {b : Bop} {op : Operator} (h : bopOk b op = true) : OpR X (binaryOp op) (rB G (bop b)) := by
  intro pins s σ H x y v u Q I rx ry hh
  obtain ⟨F, tx, ty, z, sub, hx, hy, e, k⟩ := hh
  have k0 : ∀ v, Rep G F v z → Q v H := fun v r => k v F H (.refl sub) r
  unfold bop at e
  split at e
  · -- add int
    cases op <;> simp [bopOk] at h
    simp only [Rep] at hx hy
    subst hx hy
    cases e
    exact op_add pins s σ H _ _ v u Q I rx ry ⟨_, _, rfl, rfl, k0 _ (by simp only [Rep])⟩
  · -- add str
    cases op <;> simp [bopOk] at h
    simp only [Rep] at hx hy
    subst hx hy
    split at e
    · rename_i hl
      cases e
      exact op_add_str pins s σ H _ _ v u Q I rx ry ⟨_, _, rfl, rfl, by rw [← big_eq]; exact hl, k0 _ (by simp only [Rep])⟩
    · cases e
  · -- add tup
    cases op <;> simp [bopOk] at h
    rename_i xs ys
    simp only [Rep] at hx hy
    obtain ⟨a, vs, rfl, a2, a3⟩ := hx
    obtain ⟨b, ws, rfl, b2, b3⟩ := hy
    split at e
    · rename_i hl
      cases e
      have hv : vs ≠ [] := fun z => by
        have q := a3.length
        rw [z] at q
        exact hl.2 (List.length_eq_zero_iff.mp q.symm)
      refine op_catT pins s σ H _ _ v u Q I rx ry ⟨a, b, vs, ws, rfl, rfl, by rw [hG]; exact sameSqT sub a2, by rw [hG]; exact sameSqT sub b2, hv, by rw [a3.length, b3.length, ← big_eq]; exact hl.1, fun hw => ?_, fun hw p hp => ?_⟩
      · subst hw
        have q := b3.length
        obtain rfl : ys = [] := List.length_eq_zero_iff.mp q.symm
        refine k0 _ ?_
        rw [List.append_nil]
        simp only [Rep]
        exact ⟨a, vs, rfl, a2, a3⟩
      · have g := Grow.laid (o := .tup (vs ++ ws)) sub hp
        refine k _ _ _ g ?_
        simp only [Rep]
        exact ⟨p, vs ++ ws, rfl, .inl (.inl upd_same), Reps.append (Reps.mono g.ff _ _ a3) (Reps.mono g.ff _ _ b3)⟩
    · cases e
  · cases op <;> simp [bopOk] at h
    simp only [Rep] at hx hy
    subst hx hy
    cases e
    exact op_sub pins s σ H _ _ v u Q I rx ry ⟨_, _, rfl, rfl, k0 _ (by simp only [Rep])⟩
  · cases op <;> simp [bopOk] at h
    simp only [Rep] at hx hy
    subst hx hy
    split at e
    · rename_i hl
      cases e
      exact op_mulW pins s σ H _ _ v u Q I rx ry ⟨_, _, rfl, rfl, mulOk_W hl, k0 _ (by simp only [Rep])⟩
    · cases e
  · -- mul str
    cases op <;> simp [bopOk] at h
    simp only [Rep] at hx hy
    subst hx hy
    split at e
    · rename_i hl
      cases e
      obtain ⟨t, rfl⟩ := rx
      obtain ⟨u, rfl⟩ := ry
      exact PySem.SB.mul (PyProof.Rows.mulOk_of 1000 10000 hl.2.2 (by have := hl.2.1; omega) (by have := hl.1; omega) (by decide) (by decide)) fun t' k => ⟨V.str _, H, I.tok k, ⟨t', rfl⟩, k0 (V.str _) (by simp only [Rep])⟩
    · cases e
  · cases op <;> simp [bopOk] at h
    simp only [Rep] at hx hy
    subst hx hy
    split at e
    · rename_i hl
      cases e
      exact op_fdivZ pins s σ H _ _ v u Q I rx ry ⟨_, _, rfl, rfl, hl, k0 _ (by simp only [Rep])⟩
    · cases e
  · cases op <;> simp [bopOk] at h
    simp only [Rep] at hx hy
    subst hx hy
    split at e
    · rename_i hl
      cases e
      exact op_modN pins s σ H _ _ v u Q I rx ry ⟨_, _, rfl, rfl, hl, k0 _ (by simp only [Rep])⟩
    · cases e
  · cases op <;> simp [bopOk] at h
    simp only [Rep] at hx hy
    subst hx hy
    split at e
    · rename_i hl
      cases e
      exact op_pow pins s σ H _ _ v u Q I rx ry ⟨_, _, rfl, rfl, hl, k0 _ (by simp only [Rep])⟩
    · cases e
  · cases e
end
end FL

/-! FL5: comparisons, built-ins, items. -/
namespace FL
open PySem PySem.Spec L2

section
variable {X : Cx}
theorem op_inTD (hu : X.A.units + 65 < cLine) {d : PyData} {ds : List PyData} {pins : List (Addr × Obj)} {s : Shared} {σ : L2.St} {H : Hp} {x y : V} {v u : Value} {Q : VK} (I : Inv X pins σ H s) (rx : RelV x v) (ry : RelV y u)
    (hd : Dp X.K H x d) (he : Dp X.K H y (.tuple ds)) (sd : SeqAt.shaped d = true) (se : SeqAt.shaped (.list ds) = true) (q : Q (.bl (ds.any fun z => PyData.eqv z d)) H) : wpAny (model X.prog X.w) X.A (compareOp .In v u) (EP X pins σ Q) X.xe s := by
  obtain ⟨as, r1⟩ := Dp.reads I d x v hd rx
  obtain ⟨bs, r2⟩ := Dp.reads I (.tuple ds) y u he ry
  exact SeqAt.in_tuple_reads r2 r1 (SeqAt.canLay_of_shaped se) (SeqAt.canLay_of_shaped sd) (PyProof.Rows.room_in_shaped sd hu) ⟨.bl _, H, I, rfl, q⟩
theorem op_notInTD (hu : X.A.units + 65 < cLine) {d : PyData} {ds : List PyData} {pins : List (Addr × Obj)} {s : Shared} {σ : L2.St} {H : Hp} {x y : V} {v u : Value} {Q : VK} (I : Inv X pins σ H s) (rx : RelV x v) (ry : RelV y u)
    (hd : Dp X.K H x d) (he : Dp X.K H y (.tuple ds)) (sd : SeqAt.shaped d = true) (se : SeqAt.shaped (.list ds) = true) (q : Q (.bl (!ds.any fun z => PyData.eqv z d)) H) : wpAny (model X.prog X.w) X.A (compareOp .NotIn v u) (EP X pins σ Q) X.xe s := by
  obtain ⟨as, r1⟩ := Dp.reads I d x v hd rx
  obtain ⟨bs, r2⟩ := Dp.reads I (.tuple ds) y u he ry
  exact SeqAt.notIn_tuple_reads r2 r1 (SeqAt.canLay_of_shaped se) (SeqAt.canLay_of_shaped sd) (PyProof.Rows.room_in_shaped sd hu) ⟨.bl _, H, I, rfl, q⟩
theorem Dp.up {K : PySem.W.Frag} {F H : Hp} (e : Same F H) : ∀ (d : PyData) (v : V), Dp K F v d → Dp K H v d := by
  intro d v h
  refine Dp.rec (K := K) (H := F) (motive_1 := fun v d _ => Dp K H v d) (motive_2 := fun vs ds _ => DpAll K H vs ds) .non .bl .int .str (fun a b c => .lst (e.seq a) c) (fun a b c => .tup (sameSqT e a) c) .nil (fun _ _ a b => .cons a b) h
def copOk : Cop → CmpOp → Bool
  | .lt, .Lt => true
  | .le, .LtE => true
  | .gt, .Gt => true
  | .ge, .GtE => true
  | .eq, .Eq => true
  | .ne, .NotEq => true
  | .isN, .Is => true
  | .notN, .IsNot => true
  | .isB, .Is => true
  | .notB, .IsNot => true
  | .inn, .In => true
  | .nin, .NotIn => true
  | _, _ => false
theorem items_cases {t : T} {ts : List T} (h : items t = some ts) : t = .lst ts ∨ t = .tup ts ∨ t = .scr ts := by
  cases t <;> simp [items] at h
  · right; left; rw [h]
  · left; rw [h]
  · right; right; rw [h]
theorem op_cop {G : Gx} (hG : X.K = G.K) (hu : X.A.units + 65 < cLine) {b : Cop} {op : CmpOp} (h : copOk b op = true) : OpR X (compareOp op) (rB G (cop b)) := by
  intro pins s σ H x y v u Q I rx ry hh
  obtain ⟨F, tx, ty, z, sub, hx, hy, e, k⟩ := hh
  have k0 : ∀ v, Rep G F v z → Q v H := fun v r => k v F H (.refl sub) r
  have hu1 : X.A.units + 64 < cLine := by omega
  unfold cop at e
  split at e
  · cases op <;> simp [copOk] at h
    simp only [Rep] at hx hy
    subst hx hy
    cases e
    exact op_lt pins s σ H _ _ v u Q I rx ry ⟨_, _, rfl, rfl, k0 _ (by simp only [Rep])⟩
  · cases op <;> simp [copOk] at h
    simp only [Rep] at hx hy
    subst hx hy
    cases e
    exact op_le pins s σ H _ _ v u Q I rx ry ⟨_, _, rfl, rfl, k0 _ (by simp only [Rep])⟩
  · cases op <;> simp [copOk] at h
    simp only [Rep] at hx hy
    subst hx hy
    cases e
    exact op_gt pins s σ H _ _ v u Q I rx ry ⟨_, _, rfl, rfl, k0 _ (by simp only [Rep])⟩
  · cases op <;> simp [copOk] at h
    simp only [Rep] at hx hy
    subst hx hy
    cases e
    exact op_ge pins s σ H _ _ v u Q I rx ry ⟨_, _, rfl, rfl, k0 _ (by simp only [Rep])⟩
  · cases op <;> simp [copOk] at h
    split at e
    · rename_i hd
      rw [Bool.and_eq_true] at hd
      cases e
      refine op_eqD hu1 pins s σ H x y v u Q I rx ry ⟨_, _, Dp.up sub _ _ (hG ▸ dp_of 60 _ _ hd.1 hx), Dp.up sub _ _ (hG ▸ dp_of 60 _ _ hd.2 hy), shaped_of hd.1, shaped_of hd.2, k0 _ ?_⟩
      rw [eqv_of 60 60 _ _ hd.1 hd.2]
      simp only [Rep]
    · cases e
  · cases op <;> simp [copOk] at h
    split at e
    · rename_i hd
      rw [Bool.and_eq_true] at hd
      cases e
      refine op_neD hu1 pins s σ H x y v u Q I rx ry ⟨_, _, Dp.up sub _ _ (hG ▸ dp_of 60 _ _ hd.1 hx), Dp.up sub _ _ (hG ▸ dp_of 60 _ _ hd.2 hy), shaped_of hd.1, shaped_of hd.2, k0 _ ?_⟩
      rw [eqv_of 60 60 _ _ hd.1 hd.2]
      simp only [Rep]
    · cases e
  · cases op <;> simp [copOk] at h
    simp only [Rep] at hy
    subst hy
    cases e
    refine op_isN pins s σ H _ _ v u Q I rx ry ⟨rfl, k0 _ ?_⟩
    simp only [Rep]
    cases tx with
    | non => simp only [Rep] at hx; subst hx; rfl
    | bl _ => simp only [Rep] at hx; subst hx; rfl
    | int _ => simp only [Rep] at hx; subst hx; rfl
    | str _ => simp only [Rep] at hx; subst hx; rfl
    | tup _ => simp only [Rep] at hx; obtain ⟨a, vs, rfl, _⟩ := hx; rfl
    | lst _ => simp only [Rep] at hx; obtain ⟨a, vs, rfl, _⟩ := hx; rfl
    | scr _ => simp only [Rep] at hx; obtain ⟨a, vs, rfl, _⟩ := hx; rfl
    | obj _ _ _ => simp only [Rep] at hx; obtain ⟨a, _, _, vs, rfl, _⟩ := hx; rfl
    | exo _ _ _ => simp only [Rep] at hx; obtain ⟨a, _, _, vs, rfl, _⟩ := hx; rfl
  · cases op <;> simp [copOk] at h
    simp only [Rep] at hy
    subst hy
    cases e
    refine op_notN pins s σ H _ _ v u Q I rx ry ⟨rfl, k0 _ ?_⟩
    simp only [Rep]
    cases tx with
    | non => simp only [Rep] at hx; subst hx; rfl
    | bl _ => simp only [Rep] at hx; subst hx; rfl
    | int _ => simp only [Rep] at hx; subst hx; rfl
    | str _ => simp only [Rep] at hx; subst hx; rfl
    | tup _ => simp only [Rep] at hx; obtain ⟨a, vs, rfl, _⟩ := hx; rfl
    | lst _ => simp only [Rep] at hx; obtain ⟨a, vs, rfl, _⟩ := hx; rfl
    | scr _ => simp only [Rep] at hx; obtain ⟨a, vs, rfl, _⟩ := hx; rfl
    | obj _ _ _ => simp only [Rep] at hx; obtain ⟨a, _, _, vs, rfl, _⟩ := hx; rfl
    | exo _ _ _ => simp only [Rep] at hx; obtain ⟨a, _, _, vs, rfl, _⟩ := hx; rfl
  · cases op <;> simp [copOk] at h
    simp only [Rep] at hx hy
    subst hx hy
    cases e
    exact op_is_bl pins s σ H _ _ v u Q I rx ry ⟨_, _, rfl, rfl, k0 _ (by simp only [Rep])⟩
  · cases op <;> simp [copOk] at h
    simp only [Rep] at hx hy
    subst hx hy
    cases e
    exact op_isnot_bl pins s σ H _ _ v u Q I rx ry ⟨_, _, rfl, rfl, k0 _ (by simp only [Rep])⟩
  · -- one sign in a text
    cases op <;> simp [copOk] at h
    rename_i zx zy
    split at e
    · rename_i c hc
      simp only [Rep] at hx hy
      subst hx hy
      cases e
      have ex : zx = ⟨#[c]⟩ := by
        cases zx with
        | mk a => cases a with
          | mk l =>
            have q : l = [c] := hc
            subst q
            rfl
      subst ex
      exact op_in_sign pins s σ H _ _ v u Q I rx ry ⟨c, _, rfl, rfl, k0 _ (by simp only [Rep])⟩
    · cases e
  · cases op <;> simp [copOk] at h
    rename_i zx zy
    split at e
    · rename_i c hc
      simp only [Rep] at hx hy
      subst hx hy
      cases e
      have ex : zx = ⟨#[c]⟩ := by
        cases zx with
        | mk a => cases a with
          | mk l =>
            have q : l = [c] := hc
            subst q
            rfl
      subst ex
      exact op_notIn_sign pins s σ H _ _ v u Q I rx ry ⟨c, _, rfl, rfl, k0 _ (by simp only [Rep])⟩
    · cases e
  · cases op <;> simp [copOk] at h
    split at e
    · rename_i ts hi
      split at e
      · rename_i hd
        rw [Bool.and_eq_true] at hd
        cases e
        have hq : Q (.bl ((toDs ts).any fun z => PyData.eqv z (toD tx))) H := k0 _ (by rw [any_of hd.1 hd.2]; simp only [Rep])
        rcases items_cases hi with rfl | rfl | rfl
        · simp only [Rep] at hy
          obtain ⟨a, vs, rfl, h2, h3⟩ := hy
          exact op_inD hu pins s σ H x _ v u Q I rx ry ⟨_, _, Dp.up sub _ _ (hG ▸ dp_of 60 _ _ hd.1 hx), .lst (.inl (.inl (sub _ _ h2))) (hG ▸ dps_of 60 ts vs hd.2 (Reps.mono sub _ _ h3)), shaped_of hd.1, shapeds_of hd.2, hq⟩
        · simp only [Rep] at hy
          obtain ⟨a, vs, rfl, h2, h3⟩ := hy
          exact op_inTD hu I rx ry (Dp.up sub _ _ (hG ▸ dp_of 60 _ _ hd.1 hx)) (.tup (hG ▸ sameSqT sub h2) (hG ▸ dps_of 60 ts vs hd.2 (Reps.mono sub _ _ h3))) (shaped_of hd.1) (shapeds_of hd.2) hq
        · simp only [Rep] at hy
          obtain ⟨a, vs, rfl, h2, h3⟩ := hy
          exact op_inD hu pins s σ H x _ v u Q I rx ry ⟨_, _, Dp.up sub _ _ (hG ▸ dp_of 60 _ _ hd.1 hx), .lst (hG ▸ sub.seq h2) (hG ▸ dps_of 60 ts vs hd.2 (Reps.mono sub _ _ h3)), shaped_of hd.1, shapeds_of hd.2, hq⟩
      · cases e
    · cases e
  · cases op <;> simp [copOk] at h
    split at e
    · rename_i ts hi
      split at e
      · rename_i hd
        rw [Bool.and_eq_true] at hd
        cases e
        have hq : Q (.bl (!(toDs ts).any fun z => PyData.eqv z (toD tx))) H := k0 _ (by rw [any_of hd.1 hd.2]; simp only [Rep])
        rcases items_cases hi with rfl | rfl | rfl
        · simp only [Rep] at hy
          obtain ⟨a, vs, rfl, h2, h3⟩ := hy
          exact op_notInD hu pins s σ H x _ v u Q I rx ry ⟨_, _, Dp.up sub _ _ (hG ▸ dp_of 60 _ _ hd.1 hx), .lst (.inl (.inl (sub _ _ h2))) (hG ▸ dps_of 60 ts vs hd.2 (Reps.mono sub _ _ h3)), shaped_of hd.1, shapeds_of hd.2, hq⟩
        · simp only [Rep] at hy
          obtain ⟨a, vs, rfl, h2, h3⟩ := hy
          exact op_notInTD hu I rx ry (Dp.up sub _ _ (hG ▸ dp_of 60 _ _ hd.1 hx)) (.tup (hG ▸ sameSqT sub h2) (hG ▸ dps_of 60 ts vs hd.2 (Reps.mono sub _ _ h3))) (shaped_of hd.1) (shapeds_of hd.2) hq
        · simp only [Rep] at hy
          obtain ⟨a, vs, rfl, h2, h3⟩ := hy
          exact op_notInD hu pins s σ H x _ v u Q I rx ry ⟨_, _, Dp.up sub _ _ (hG ▸ dp_of 60 _ _ hd.1 hx), .lst (hG ▸ sub.seq h2) (hG ▸ dps_of 60 ts vs hd.2 (Reps.mono sub _ _ h3)), shaped_of hd.1, shapeds_of hd.2, hq⟩
      · cases e
    · cases e
  · cases e
end
end FL

/-! FL6: the expressions' rules. -/
namespace FL
open PySem PySem.Spec L2

/-- what a term's rule asks of the context -/
structure Good (X : Cx) (G : Gx) (k : Option Nat) (N : List Str) (sc : Scope) (W : WX) : Prop where
  hP : X.prog = G.P
  hw : X.w = G.w
  hb : X.base = G.base
  hK : X.K = G.K
  hmg : X.mg = G.mg
  hN : X.N = N
  nd : N.Nodup
  hsc : X.env.scope = sc
  /-- k = none: within an except suite -/
  calm : k.isSome = true → X.calm = true
  room : ∀ n, k = some n → Room n X.A
  un : X.A.units + 65 < cLine
  tk : k.isSome = true → Takes X W

section
variable {X : Cx} {e : Expr} {es : List Expr} {t t' : TE}
theorem PE.imp (h : PE X e t) (k : ∀ σ H Q, t' σ H Q → t σ H Q) : PE X e t' := ⟨fun pins s σ H Q I hw => h.run pins s σ H Q I (k σ H Q hw)⟩
theorem PT.imp {t t' : TT} (h : PT X e t) (k : ∀ σ H Q, t' σ H Q → t σ H Q) : PT X e t' := ⟨fun pins s σ H Q I hw => h.run pins s σ H Q I (k σ H Q hw)⟩
theorem PW.imp {t t' : TT} (h : PW X e t) (k : ∀ σ H Q, t' σ H Q → t σ H Q) : PW X e t' := ⟨fun wh pins s σ H Q I hw => h.run wh pins s σ H Q I (k σ H Q hw)⟩
theorem PA.imp {t t' : TA} (h : PA X es t) (k : ∀ σ H Q, t' σ H Q → t σ H Q) : PA X es t' := ⟨fun p pins s σ H Q I hw => h.run p pins s σ H Q I (k σ H Q hw)⟩
theorem PO.imp {o : Option Expr} {t t' : TO} (h : PO X o t) (k : ∀ σ H Q, t' σ H Q → t σ H Q) : PO X o t' := ⟨fun pins s σ H Q I hw => h.run pins s σ H Q I (k σ H Q hw)⟩
theorem PS.imp {st : Stmt} {t t' : TS} (h : PS X st t) (k : ∀ D σ H, t' D σ H → t D σ H) : PS X st t' := ⟨fun pins s σ H D I hw => h.run pins s σ H D I (k D σ H hw)⟩
theorem PSs.imp {st : List Stmt} {t t' : TS} (h : PSs X st t) (k : ∀ D σ H, t' D σ H → t D σ H) : PSs X st t' := ⟨fun pins s σ H D I hw => h.run pins s σ H D I (k D σ H hw)⟩
end

/-! ### lists that are lent -/
open Classical in
/-- F, and the lists at p as they stand -/
noncomputable def lend (F H : Hp) (p : Addr → Prop) : Hp := fun b => if p b then H b else F b
open Classical in
noncomputable def unlend (F : Hp) (p : Addr → Prop) : Hp := FL.less F p
section
variable {F H F' H' : Hp} {p : Addr → Prop}
theorem lend_sub (hp : ∀ a, p a → F a = none ∧ ∃ vs, H a = some (.lst vs)) : Same F (lend F H p) := fun b u q => by
  unfold lend
  by_cases z : p b
  · rw [(hp b z).1] at q; cases q
  · rw [if_neg z]; exact q
theorem lend_top (sub : Same F H) : Same (lend F H p) H := fun b u q => by
  unfold lend at q
  by_cases z : p b
  · rw [if_pos z] at q; exact q
  · rw [if_neg z] at q; exact sub _ _ q
theorem lend_at {a : Addr} {vs : List V} (z : p a) (h : H a = some (.lst vs)) : lend F H p a = some (.lst vs) := by
  unfold lend
  rw [if_pos z]
  exact h
theorem Grow.unlend (hp : ∀ a, p a → F a = none ∧ ∃ vs, H a = some (.lst vs)) (g : Grow (lend F H p) H F' H') : Grow F H (unlend F' p) H' := by
  refine ⟨fun b u q => ?_, fun b u q => ?_, g.hh, fun b e n => ?_⟩
  · unfold FL.unlend FL.less
    by_cases z : p b
    · rw [(hp b z).1] at q; cases q
    · rw [if_neg z]
      exact g.ff _ _ (lend_sub hp _ _ q)
  · unfold FL.unlend FL.less at q
    by_cases z : p b
    · rw [if_pos z] at q; cases q
    · rw [if_neg z] at q; exact g.sub _ _ q
  · unfold FL.unlend FL.less at n
    by_cases z : p b
    · rw [if_pos z] at n; exact (n rfl).elim
    · rw [if_neg z] at n
      refine g.new b ?_ n
      unfold lend
      rw [if_neg z]
      exact e
open Classical in
theorem Rep.unlend {G : Gx} (hp : ∀ a, p a → ∃ vs, F' a = some (.lst vs)) {t : T} {v : V} (n : noL t = true) (r : Rep G F' v t) : Rep G (unlend F' p) v t := by
  unfold FL.unlend
  exact Rep.less hp t v n r
open Classical in
theorem Reps.unlend {G : Gx} (hp : ∀ a, p a → ∃ vs, F' a = some (.lst vs)) {t : List T} {v : List V} (n : noLs t = true) (r : Reps G F' v t) : Reps G (FL.unlend F' p) v t := by
  unfold FL.unlend
  exact Reps.less hp t v n r
theorem lent_kept (hp : ∀ a, p a → F a = none ∧ ∃ vs, H a = some (.lst vs)) (g : Grow (lend F H p) H F' H') : ∀ a, p a → ∃ vs, F' a = some (.lst vs) := fun a z => by
  obtain ⟨_, vs, h⟩ := hp a z
  exact ⟨vs, g.ff _ _ (lend_at z h)⟩
end
theorem cop_bl {o : Cop} {x y z : T} (h : cop o x y = some z) : ∃ k, z = .bl k := by
  unfold cop at h
  repeat (first | (cases h; exact ⟨_, rfl⟩) | (split at h) | cases h)

section
variable {G : Gx} {B : Fr0} {W : WX} {α β : Type} {rel : Sls → Hp → Hp → β → α → Prop}
theorem rd_ok {ev : Sls → Rs α} {σ : L2.St} {H : Hp} {Q : β → Hp → Prop} {a : α} {s' : Sls} {F : Hp} {s : Sls} (p : Pst G B W F σ rel (ev s) Q) (e : ev s = .ok a s') : ∀ b F' H', Same F F' → SR G B F' H' σ s' → rel s' F' H' b a → Q b H' := by
  rw [e] at p
  exact p
/-- two values, then an operator -/
theorem rd_bin {ea eb : Sls → Rs T} {o : T → T → Option T} {σ : L2.St} {H : Hp} {Q : VK} (h : rd G B W (relE G) (fun s => (ea s).bind fun x s => (eb s).bind fun y s => Rs.of (o x y) s) σ H Q) :
    tOp (rB G o) (rd G B W (relE G) ea) (rd G B W (relE G) eb) σ H Q := by
  obtain ⟨F, s, sr, p⟩ := h
  refine ⟨F, s, sr, (Pst.bind p).mono ?_⟩
  rintro x H1 ⟨tx, F1, s1, e1, sr1, rx, p1⟩
  refine ⟨F1, s1, sr1, (Pst.bind p1).mono ?_⟩
  rintro y H2 ⟨ty, F2, s2, e2, sr2, ry, p2⟩
  cases h : o tx ty with
  | none => rw [h] at p2; exact p2.elim
  | some z =>
    rw [h] at p2
    exact ⟨F2, tx, ty, z, sr2.sub, Rep.mono e2 _ _ rx, ry, h, fun v F' H' g r => p2 v F' H' g.ff (sr2.grow g) r⟩
/-- a value, then a function of it -/
theorem rd_then {ea : Sls → Rs T} {k : T → Sls → Rs α} {σ : L2.St} {H : Hp} {Q : β → Hp → Prop} (h : rd G B W rel (fun s => (ea s).bind k) σ H Q) :
    rd G B W (relE G) ea σ H fun x H1 => ∃ tx F1 s1, SR G B F1 H1 σ s1 ∧ Rep G F1 x tx ∧ Pst G B W F1 σ rel (k tx s1) Q := by
  obtain ⟨F, s, sr, p⟩ := h
  refine ⟨F, s, sr, (Pst.bind p).mono ?_⟩
  rintro x H1 ⟨tx, F1, s1, e1, sr1, rx, p1⟩
  exact ⟨tx, F1, s1, sr1, rx, p1⟩
end

section
variable {X : Cx} {G : Gx} {B : Fr0} {W : WX} {k : Option Nat} {N : List Str} {sc : Scope} {pos : Pos}
theorem Good.hu (g : Good X G k N sc W) : X.A.units + 65 < cLine := by
  exact g.un

/-! ### names and constants -/
theorem q_var (g : Good X G k N sc W) {i : Nat} {x : Str} (hi : N[i]? = some x) (hv : Vis sc x) (hd : (x == ("__debug__" : Str)) = false) (hcd : (x == ("__classdict__" : Str)) = false) : PE X (.Name x pos) (rdE G B W (.var i)) := by
  refine PE.imp (pe_var (i := i) (by rw [g.hN]; exact hi) (by rw [g.hsc]; exact hv) hd hcd) ?_
  rintro σ H Q ⟨F, s, sr, p⟩
  have p : Pst G B W F σ (relE G) (getV s i) Q := p
  unfold getV at p
  split at p
  · rename_i t e
    obtain ⟨v, h1, h2⟩ := sr.im i t e
    exact ⟨v, h1, p v F H (.refl _) sr h2⟩
  · rename_i ts e
    obtain ⟨a, h1, F', _, sF, sr', rep⟩ := sr.freeze e
    exact ⟨.ref a, h1, p _ F' H sF sr' rep⟩
  · exact p.elim
/-- a slot's own list, its address -/
theorem own_at {F H : Hp} {σ : L2.St} {s : Sls} (sr : SR G B F H σ s) {i : Nat} {ts : List T} (e : ownAt s i = some ts) : ∃ a x, s[i]? = some x ∧ x.own = some ts ∧ σ[i]? = some (some (.ref a)) ∧ LstAt G F H a ts := by
  unfold ownAt at e
  split at e
  · rename_i x h
    obtain ⟨a, h1, h2, _⟩ := sr.own h e
    exact ⟨a, x, h, e, h1, h2⟩
  · cases e
theorem q_cst_int {i : Int} {j : Nat} : PE X (.Constant (.int i) j pos) (rdE G B W (.cst (.int i))) := by
  refine PE.imp pe_int ?_
  rintro σ H Q ⟨F, s, sr, p⟩
  exact p (.int i) F H (.refl _) sr (by simp only [relE, Rep])
theorem q_cst_bl {i : Bool} {j : Nat} : PE X (.Constant (.bool i) j pos) (rdE G B W (.cst (.bl i))) := by
  refine PE.imp pe_bl ?_
  rintro σ H Q ⟨F, s, sr, p⟩
  exact p (.bl i) F H (.refl _) sr (by simp only [relE, Rep])
theorem q_cst_str {i : Str} {j : Nat} : PE X (.Constant (.str i) j pos) (rdE G B W (.cst (.str i))) := by
  refine PE.imp pe_str ?_
  rintro σ H Q ⟨F, s, sr, p⟩
  exact p (.str i) F H (.refl _) sr (by simp only [relE, Rep])
theorem q_cst_non {j : Nat} : PE X (.Constant .none j pos) (rdE G B W (.cst .non)) := by
  refine PE.imp pe_non ?_
  rintro σ H Q ⟨F, s, sr, p⟩
  exact p .non F H (.refl _) sr (by simp only [relE, Rep])
/-- a constant of the module -/
def GloOk (G : Gx) (x : Str) (t : T) : Prop := ∃ v u, G.mg x = some u ∧ RelV v u ∧ ∀ F : Hp, Rep G F v t
theorem q_glo (g : Good X G k N sc W) {x : Str} {t : T} (hl : sc.names.lookup x = some .globalImplicit) (h : GloOk G x t) (hd : (x == ("__debug__" : Str)) = false) : PE X (.Name x pos) (rdE G B W (.glo x t)) := by
  obtain ⟨v, u, h1, h2, h3⟩ := h
  refine PE.imp (pe_glob (v := v) (u := u) (show X.env.scope.names.lookup x = some .globalImplicit by rw [g.hsc]; exact hl) (by rw [g.hmg]; exact h1) h2 hd) ?_
  rintro σ H Q ⟨F, s, sr, p⟩
  exact p v F H (.refl _) sr (h3 F)

/-- its truth -/
theorem tru_rel {F H : Hp} {x : V} {t : T} {b : Bool} (sub : Same F H) (r : Rep G F x t) (h : tru t = some b) : TruV G.K x H b := by
  unfold tru at h
  cases t with
  | non => simp only [Rep] at r; subst r; cases h; rfl
  | bl _ => simp only [Rep] at r; subst r; cases h; rfl
  | int _ => simp only [Rep] at r; subst r; cases h; rfl
  | tup ts =>
    simp only [Rep] at r
    obtain ⟨a, vs, rfl, h2, h3⟩ := r
    cases h
    refine .inr (.inl ⟨vs, sameSqT sub h2, ?_⟩)
    have q := h3.length
    cases ts with
    | nil => rw [List.length_eq_zero_iff.mp q]; rfl
    | cons _ _ => cases vs with
      | nil => cases q
      | cons _ _ => rfl
  | lst ts =>
    simp only [Rep] at r
    obtain ⟨a, vs, rfl, h2, h3⟩ := r
    cases h
    refine .inl ⟨vs, .inl (.inl (sub _ _ h2)), ?_⟩
    have q := h3.length
    cases ts with
    | nil => rw [List.length_eq_zero_iff.mp q]; rfl
    | cons _ _ => cases vs with
      | nil => cases q
      | cons _ _ => rfl
  | _ => cases h
/-! ### operators -/
variable {a b c : Expr} {ea eb ec : E}
theorem q_bin (g : Good X G k N sc W) {o : Bop} {op : Operator} (h : bopOk o op = true) (ha : PE X a (rdE G B W ea)) (hb : PE X b (rdE G B W eb)) : PE X (.BinOp a op b pos) (rdE G B W (.bin o ea eb)) := by
  refine PE.imp (pe_op (op_bop g.hK h) ha hb) fun σ H Q hq => rd_bin (ea := evE ea) (eb := evE eb) ?_
  obtain ⟨F, s, sr, p⟩ := hq
  simp only [evE] at p
  exact ⟨F, s, sr, p⟩
theorem q_neg (ha : PE X a (rdE G B W ea)) : PE X (.UnaryOp .USub a pos) (rdE G B W (.neg ea)) := by
  refine PE.imp (pe_un un_neg ha) fun σ H Q hq => ?_
  obtain ⟨F, s, sr, p⟩ := hq
  simp only [evE] at p
  refine ⟨F, s, sr, (Pst.bind p).mono ?_⟩
  rintro x H1 ⟨tx, F1, s1, e1, sr1, rx, p1⟩
  cases tx with
  | int i =>
    simp only [relE, Rep] at rx
    exact ⟨i, rx, p1 _ F1 H1 (.refl _) sr1 (by simp only [relE, Rep])⟩
  | _ => exact p1.elim
theorem q_cmp (g : Good X G k N sc W) {o : Cop} {op : CmpOp} (h : copOk o op = true) (ha : PE X a (rdE G B W ea)) (hb : PE X b (rdE G B W eb)) (hm : behindInMarks op b = false) : PE X (.Compare a [op] [b] pos) (rdE G B W (.cmp o ea eb)) := by
  refine PE.imp (pe_cmpR (op_cop g.hK g.hu h) ha hb hm) fun σ H Q hq => rd_bin (ea := evE ea) (eb := evE eb) ?_
  obtain ⟨F, s, sr, p⟩ := hq
  simp only [evE] at p
  exact ⟨F, s, sr, p⟩
theorem rd_isB {ea eb : Sls → Rs T} {o : T → T → Option T} {σ : L2.St} {H : Hp} {Q : Bool → Hp → Prop} (h : rd G B W relC (fun s => (ea s).bind fun x s => (eb s).bind fun y s => isB (o x y) s) σ H Q) :
    tTest (tOp (rB G o) (rd G B W (relE G) ea) (rd G B W (relE G) eb)) σ H Q := by
  refine rd_bin ?_
  obtain ⟨F, s, sr, p⟩ := h
  refine ⟨F, s, sr, ?_⟩
  dsimp only at p ⊢
  cases h1 : ea s with
  | bad => rw [h1] at p; exact p.elim
  | ex _ _ _ _ => rw [h1] at p; exact p
  | ok x s1 =>
    rw [h1] at p
    simp only [Rs.bind] at p ⊢
    cases h2 : eb s1 with
    | bad => rw [h2] at p; exact p.elim
    | ex _ _ _ _ => rw [h2] at p; exact p
    | ok y s2 =>
      rw [h2] at p
      simp only at p ⊢
      cases h3 : o x y with
      | none => rw [h3] at p; exact p.elim
      | some z =>
        rw [h3] at p
        cases z with
        | bl k =>
          intro v F' H' e' sr' r
          simp only [relE, Rep] at r
          exact ⟨k, r, p k F' H' e' sr' rfl⟩
        | _ => exact p.elim
theorem q_cmpT (g : Good X G k N sc W) {o : Cop} {op : CmpOp} (h : copOk o op = true) (ha : PE X a (rdE G B W ea)) (hb : PE X b (rdE G B W eb)) (hm : behindInMarks op b = false) : PT X (.Compare a [op] [b] pos) (rd G B W relC (evC (.cmp o ea eb))) := by
  refine PT.imp (pt_cmpR (op_cop g.hK g.hu h) ha hb hm) fun σ H Q hq => rd_isB (ea := evE ea) (eb := evE eb) ?_
  obtain ⟨F, s, sr, p⟩ := hq
  simp only [evC] at p
  exact ⟨F, s, sr, p⟩
/-- the slot's own list on the right -/
theorem rd_cmpB {ea : Sls → Rs T} {o : Cop} {i : Nat} {σ : L2.St} {H : Hp} {Q : VK} (h : rd G B W (relE G) (fun s => (ea s).bind fun x s => match ownAt s i with | some ts => Rs.of (cop o x (.lst ts)) s | none => .bad) σ H Q) :
    tOp (rB G (cop o)) (rd G B W (relE G) ea) (tVar i) σ H Q := by
  obtain ⟨F, s, sr, p⟩ := h
  refine ⟨F, s, sr, (Pst.bind p).mono ?_⟩
  rintro x H1 ⟨tx, F1, s1, e1, sr1, rx, p1⟩
  split at p1
  · rename_i ts ho
    obtain ⟨a, y, h1, h2, h3, ⟨⟨vs, h4, h5⟩, h6⟩⟩ := own_at sr1 ho
    refine ⟨.ref a, h3, ?_⟩
    cases h : cop o tx (.lst ts) with
    | none => rw [h] at p1; exact p1.elim
    | some z =>
      rw [h] at p1
      have hp : ∀ b, b = a → F1 b = none ∧ ∃ vs, H1 b = some (.lst vs) := fun b q => by subst q; exact ⟨h6, vs, h4⟩
      refine ⟨lend F1 H1 (· = a), tx, .lst ts, z, lend_top sr1.sub, Rep.mono (lend_sub hp) _ _ rx, ?_, h, fun v F' H' g r => ?_⟩
      · simp only [Rep]
        exact ⟨a, vs, rfl, lend_at rfl h4, Reps.mono (lend_sub hp) _ _ h5⟩
      · obtain ⟨k, rfl⟩ := cop_bl h
        have g' := g.unlend hp
        exact p1 v _ H' g'.ff (sr1.grow g') (by simpa only [relE, Rep] using r)
  · exact p1.elim
theorem q_cmpB (g : Good X G k N sc W) {o : Cop} {op : CmpOp} {i : Nat} {x : Str} {px : Pos} (h : copOk o op = true) (ha : PE X a (rdE G B W ea)) (hi : N[i]? = some x) (hv : Vis sc x) (hd : (x == ("__debug__" : Str)) = false) (hcd : (x == ("__classdict__" : Str)) = false) (hm : behindInMarks op (.Name x px) = false) :
    PE X (.Compare a [op] [.Name x px] pos) (rdE G B W (.cmpB o ea i)) := by
  refine PE.imp (pe_cmpR (op_cop g.hK g.hu h) ha (pe_var (i := i) (by rw [g.hN]; exact hi) (by rw [g.hsc]; exact hv) hd hcd) hm) fun σ H Q hq => rd_cmpB (ea := evE ea) ?_
  obtain ⟨F, s, sr, p⟩ := hq
  simp only [evE] at p
  exact ⟨F, s, sr, p⟩
theorem q_cmpBT (g : Good X G k N sc W) {o : Cop} {op : CmpOp} {i : Nat} {x : Str} {px : Pos} (h : copOk o op = true) (ha : PE X a (rdE G B W ea)) (hi : N[i]? = some x) (hv : Vis sc x) (hd : (x == ("__debug__" : Str)) = false) (hcd : (x == ("__classdict__" : Str)) = false) (hm : behindInMarks op (.Name x px) = false) :
    PT X (.Compare a [op] [.Name x px] pos) (rd G B W relC (evC (.cmpB o ea i))) := by
  refine PT.imp (pt_cmpR (op_cop g.hK g.hu h) ha (pe_var (i := i) (by rw [g.hN]; exact hi) (by rw [g.hsc]; exact hv) hd hcd) hm) fun σ H Q hq => rd_cmpB (ea := evE ea) ?_
  obtain ⟨F, s, sr, p⟩ := hq
  refine ⟨F, s, sr, ?_⟩
  simp only [evC] at p
  dsimp only at p ⊢
  cases h1 : evE ea s with
  | bad => rw [h1] at p; exact p.elim
  | ex _ _ _ _ => rw [h1] at p; exact p
  | ok x s1 =>
    rw [h1] at p
    simp only [Rs.bind] at p ⊢
    split at p
    · rename_i ts ho
      try rw [ho]
      try simp only
      cases h3 : cop o x (.lst ts) with
      | none => rw [h3] at p; exact p.elim
      | some z =>
        rw [h3] at p
        obtain ⟨k, rfl⟩ := cop_bl h3
        intro v F' H' e' sr' r
        simp only [relE, Rep] at r
        exact ⟨k, r, p k F' H' e' sr' rfl⟩
    · exact p.elim
theorem q_no (ha : PE X a (rdE G B W ea)) (hG : X.K = G.K) : PE X (.UnaryOp .Not a pos) (rdE G B W (.no ea)) := by
  refine ⟨fun pins s σ H Q I hq => ?_⟩
  have h : rd G B W (relE G) (evE ea) σ H fun x H1 => ∃ tx F1 s1, SR G B F1 H1 σ s1 ∧ Rep G F1 x tx ∧ Pst G B W F1 σ (relE G) ((truR tx s1).bind fun b s => Rs.ok (T.bl (!b)) s) Q := by
    refine rd_then (k := fun tx s1 => (truR tx s1).bind fun b s => Rs.ok (T.bl (!b)) s) ?_
    obtain ⟨F, s, sr, p⟩ := hq
    simp only [evE] at p
    exact ⟨F, s, sr, p⟩
  refine PyProof.Rows.UnaryOp_ (thn (ha.run pins s σ H _ I h) fun v s1 ⟨x, H1, I1, r1, tx, F1, sl, sr1, rx, p1⟩ => PyProof.Rows.not_of ?_)
  unfold truR Rs.of at p1
  cases ht : tru tx with
  | none => rw [ht] at p1; exact p1.elim
  | some b =>
    rw [ht] at p1
    refine thn (tru_ok pins s1 σ H1 x v (fun c H2 => c = b ∧ H2 = H1) I1 r1 ⟨b, ?_, rfl, rfl⟩) fun c s2 hc => ?_
    · rw [hG]
      exact tru_rel sr1.sub rx ht
    · obtain ⟨H2, I2, rfl, rfl⟩ := hc
      exact ⟨.bl (!c), H2, I2, rfl, p1 _ F1 H2 (.refl _) sr1 (by simp only [relE, Rep])⟩
end
end FL

/-! FL7: further expressions. -/
namespace FL
open PySem PySem.Spec L2
section
variable {X : Cx} {G : Gx} {B : Fr0} {W : WX} {k : Option Nat} {N : List Str} {sc : Scope} {pos : Pos}
variable {a b c : Expr} {ea eb ec : E} {es : List Expr}

/-! ### chains -/
theorem rd_chn {ea eb ec : Sls → Rs T} {o o' : T → T → Option T} (hb : ∀ x y z, o x y = some z → ∃ k, z = .bl k) {σ : L2.St} {H : Hp} {Q : VK}
    (h : rd G B W (relE G) (fun s => (ea s).bind fun x s => (eb s).bind fun y s => match o x y with
    | some (.bl true) => (ec s).bind fun z s => Rs.of (o' y z) s
    | some (.bl false) => .ok (.bl false) s
    | _ => .bad) σ H Q) : tChain (rB G o) (rB G o') (rd G B W (relE G) ea) (rd G B W (relE G) eb) (rd G B W (relE G) ec) σ H Q := by
  obtain ⟨F, s, sr, p⟩ := h
  refine ⟨F, s, sr, (Pst.bind p).mono ?_⟩
  rintro x H1 ⟨tx, F1, s1, e1, sr1, rx, p1⟩
  refine ⟨F1, s1, sr1, (Pst.bind p1).mono ?_⟩
  rintro y H2 ⟨ty, F2, s2, e2, sr2, ry, p2⟩
  cases h : o tx ty with
  | none => rw [h] at p2; exact p2.elim
  | some z =>
    obtain ⟨k, rfl⟩ := hb _ _ _ h
    rw [h] at p2
    refine ⟨F2, tx, ty, .bl k, sr2.sub, Rep.mono e2 _ _ rx, ry, h, fun v F' H' g r => ?_⟩
    simp only [Rep] at r
    refine ⟨k, r, ?_⟩
    cases k with
    | false =>
      rw [if_neg Bool.false_ne_true]
      exact p2 _ F' H' g.ff (sr2.grow g) (by simp only [relE, Rep])
    | true =>
      rw [if_pos rfl]
      refine ⟨F', s2, sr2.grow g, (Pst.bind (p2.up g.ff)).mono ?_⟩
      rintro w H3 ⟨tw, F3, s3, e3, sr3, rw', p3⟩
      cases h3 : o' ty tw with
      | none => rw [h3] at p3; exact p3.elim
      | some z =>
        rw [h3] at p3
        exact ⟨F3, ty, tw, z, sr3.sub, Rep.mono e3 _ _ (Rep.mono g.ff _ _ ry), rw', h3, fun v F4 H4 g4 r4 => p3 v F4 H4 g4.ff (sr3.grow g4) r4⟩

theorem q_chn (g : Good X G k N sc W) {o o' : Cop} {op op' : CmpOp} (h : copOk o op = true) (h' : copOk o' op' = true) (ha : PE X a (rdE G B W ea)) (hb : PE X b (rdE G B W eb)) (hc : PE X c (rdE G B W ec)) (hm : lastMarks [op, op'] [b, c] = false) :
    PE X (.Compare a [op, op'] [b, c] pos) (rdE G B W (.chn o o' ea eb ec)) := by
  refine PE.imp (pe_chain (op_cop g.hK g.hu h) (op_cop g.hK g.hu h') ha hb hc hm) fun σ H Q hq => rd_chn (ea := evE ea) (eb := evE eb) (ec := evE ec) (fun x y z e => cop_bl e) ?_
  obtain ⟨F, s, sr, p⟩ := hq
  simp only [evE] at p
  exact ⟨F, s, sr, p⟩
/-- from a value that is a truth to a test -/
theorem rs_isB {r : Sls → Rs T} {r' : Sls → Rs Bool} (h : ∀ s, r' s = (r s).bind fun x s => isB (some x) s) {σ : L2.St} {H : Hp} {Q : Bool → Hp → Prop} (hq : rd G B W relC r' σ H Q) :
    rd G B W (relE G) r σ H fun x H' => ∃ k, x = .bl k ∧ Q k H' := by
  obtain ⟨F, s, sr, p⟩ := hq
  refine ⟨F, s, sr, ?_⟩
  rw [h] at p
  cases h1 : r s with
  | bad => rw [h1] at p; exact p.elim
  | ex _ _ _ _ => rw [h1] at p; exact p
  | ok x s1 =>
    rw [h1] at p
    cases x with
    | bl k =>
      intro v F' H' e' sr' r
      simp only [relE, Rep] at r
      exact ⟨k, r, p k F' H' e' sr' rfl⟩
    | _ => exact p.elim
theorem q_chnT (g : Good X G k N sc W) {o o' : Cop} {op op' : CmpOp} (h : copOk o op = true) (h' : copOk o' op' = true) (ha : PE X a (rdE G B W ea)) (hb : PE X b (rdE G B W eb)) (hc : PE X c (rdE G B W ec)) (hm : lastMarks [op, op'] [b, c] = false) :
    PT X (.Compare a [op, op'] [b, c] pos) (rd G B W relC (evC (.chn o o' ea eb ec))) := by
  refine PT.imp (pt_chain (op_cop g.hK g.hu h) (op_cop g.hK g.hu h') ha hb hc hm) fun σ H Q hq => rd_chn (ea := evE ea) (eb := evE eb) (ec := evE ec) (fun x y z e => cop_bl e) ?_
  refine rs_isB (r' := evC (.chn o o' ea eb ec)) (fun s => ?_) hq
  simp only [evC]
  cases evE ea s with
  | bad => rfl
  | ex _ _ _ _ => rfl
  | ok x s1 =>
    simp only [Rs.bind]
    cases evE eb s1 with
    | bad => rfl
    | ex _ _ _ _ => rfl
    | ok y s2 =>
      simp only
      cases h1 : cop o x y with
      | none => rfl
      | some z =>
        obtain ⟨q, rfl⟩ := cop_bl h1
        cases q with
        | false => rfl
        | true =>
          simp only
          cases evE ec s2 with
          | bad => rfl
          | ex _ _ _ _ => rfl
          | ok w s3 =>
            simp only
            cases cop o' y w <;> rfl

/-! ### and, or, if -/
theorem q_bo1 {op : PySem.BoolOp} {ia : Bool} (ha : PE X a (rdE G B W ea)) : PE X (.BoolOp op [a] pos) (rd G B W (relE G) (evBo ia (.cons ea .nil))) := by
  refine PE.imp (pe_one ha) fun σ H Q hq => ?_
  obtain ⟨F, s, sr, p⟩ := hq
  simp only [evBo] at p
  exact ⟨F, s, sr, p⟩
theorem rd_bo {ea : E} {eb : E} {es : Es} {ia : Bool} {σ : L2.St} {H : Hp} {Q : VK} (hq : rd G B W (relE G) (evBo ia (.cons ea (.cons eb es))) σ H Q) :
    rdE G B W ea σ H fun x H1 => ∃ c, x = .bl c ∧ if c = ia then rd G B W (relE G) (evBo ia (.cons eb es)) σ H1 Q else Q (.bl c) H1 := by
  obtain ⟨F, s, sr, p⟩ := hq
  simp only [evBo] at p
  refine ⟨F, s, sr, (Pst.bind p).mono ?_⟩
  rintro x H1 ⟨tx, F1, s1, e1, sr1, rx, p1⟩
  cases tx with
  | bl c =>
    simp only [relE, Rep] at rx
    refine ⟨c, rx, ?_⟩
    simp only at p1
    split
    · rename_i hc
      rw [if_pos hc] at p1
      exact ⟨F1, s1, sr1, p1⟩
    · rename_i hc
      rw [if_neg hc] at p1
      exact p1 _ F1 H1 (.refl _) sr1 (by simp only [relE, Rep])
  | _ => exact p1.elim
theorem q_and {es : Es} {rest : List Expr} (ha : PE X a (rdE G B W ea)) (hb : PE X (.BoolOp .And (b :: rest) pos) (rd G B W (relE G) (evBo true (.cons eb es)))) : PE X (.BoolOp .And (a :: b :: rest) pos) (rd G B W (relE G) (evBo true (.cons ea (.cons eb es)))) := by
  refine PE.imp (pe_and ha hb) fun σ H Q hq => ?_
  obtain ⟨F, s, sr, p⟩ := rd_bo hq
  refine ⟨F, s, sr, p.mono ?_⟩
  rintro x H1 ⟨c, rfl, h⟩
  refine ⟨c, rfl, ?_⟩
  cases c with
  | true => rw [if_pos rfl] at h ⊢; exact h
  | false => rw [if_neg Bool.false_ne_true] at h ⊢; exact h
theorem q_or {es : Es} {rest : List Expr} (ha : PE X a (rdE G B W ea)) (hb : PE X (.BoolOp .Or (b :: rest) pos) (rd G B W (relE G) (evBo false (.cons eb es)))) : PE X (.BoolOp .Or (a :: b :: rest) pos) (rd G B W (relE G) (evBo false (.cons ea (.cons eb es)))) := by
  refine PE.imp (pe_or ha hb) fun σ H Q hq => ?_
  obtain ⟨F, s, sr, p⟩ := rd_bo hq
  refine ⟨F, s, sr, p.mono ?_⟩
  rintro x H1 ⟨c, rfl, h⟩
  refine ⟨c, rfl, ?_⟩
  cases c with
  | true => rw [if_neg (by decide)] at h; rw [if_pos rfl]; exact h
  | false => rw [if_pos rfl] at h; rw [if_neg Bool.false_ne_true]; exact h
abbrev rdC (G : Gx) (B : Fr0) (W : WX) (c : C) : TT := rd G B W relC (evC c)
variable {ca cb : C}
theorem q_bo1T {op : PySem.BoolOp} {ia : Bool} (ho : op = .And ∨ op = .Or) (ha : PT X a (rdC G B W ca)) : PW X (.BoolOp op [a] pos) (rd G B W relC (evCs ia (.cons ca .nil))) := by
  have k : ∀ σ H Q, rd G B W relC (evCs ia (.cons ca .nil)) σ H Q → rdC G B W ca σ H Q := fun σ H Q hq => by
    obtain ⟨F, s, sr, p⟩ := hq
    simp only [evCs] at p
    exact ⟨F, s, sr, p⟩
  rcases ho with rfl | rfl
  · exact PW.imp (pw_and1 ha) k
  · exact PW.imp (pw_or1 ha) k
theorem rd_boT {cs : Cs} {ia : Bool} {σ : L2.St} {H : Hp} {Q : Bool → Hp → Prop} (hq : rd G B W relC (evCs ia (.cons ca (.cons cb cs))) σ H Q) :
    rdC G B W ca σ H fun c H1 => if c = ia then rd G B W relC (evCs ia (.cons cb cs)) σ H1 Q else Q c H1 := by
  obtain ⟨F, s, sr, p⟩ := hq
  simp only [evCs] at p
  refine ⟨F, s, sr, (Pst.bind p).mono ?_⟩
  rintro c H1 ⟨d, F1, s1, e1, sr1, rfl, p1⟩
  split
  · rename_i hc
    rw [if_pos hc] at p1
    exact ⟨F1, s1, sr1, p1⟩
  · rename_i hc
    rw [if_neg hc] at p1
    exact p1 _ F1 H1 (.refl _) sr1 rfl
theorem q_andT {cs : Cs} {rest : List Expr} (ha : PT X a (rdC G B W ca)) (hb : PW X (.BoolOp .And (b :: rest) pos) (rd G B W relC (evCs true (.cons cb cs)))) : PW X (.BoolOp .And (a :: b :: rest) pos) (rd G B W relC (evCs true (.cons ca (.cons cb cs)))) := by
  refine PW.imp (pw_and ha hb) fun σ H Q hq => ?_
  obtain ⟨F, s, sr, p⟩ := rd_boT hq
  refine ⟨F, s, sr, p.mono ?_⟩
  rintro c H1 h
  cases c with
  | true => rw [if_pos rfl] at h ⊢; exact h
  | false => rw [if_neg Bool.false_ne_true] at h ⊢; exact h
theorem q_orT {cs : Cs} {rest : List Expr} (ha : PT X a (rdC G B W ca)) (hb : PW X (.BoolOp .Or (b :: rest) pos) (rd G B W relC (evCs false (.cons cb cs)))) : PW X (.BoolOp .Or (a :: b :: rest) pos) (rd G B W relC (evCs false (.cons ca (.cons cb cs)))) := by
  refine PW.imp (pw_or ha hb) fun σ H Q hq => ?_
  obtain ⟨F, s, sr, p⟩ := rd_boT hq
  refine ⟨F, s, sr, p.mono ?_⟩
  rintro c H1 h
  cases c with
  | true => rw [if_neg (by decide)] at h; rw [if_pos rfl]; exact h
  | false => rw [if_pos rfl] at h; rw [if_neg Bool.false_ne_true]; exact h
theorem q_boT {op : PySem.BoolOp} {rest : List Expr} {ia : Bool} {cs : Cs} (h : PW X (.BoolOp op rest pos) (rd G B W relC (evCs ia cs))) : PT X (.BoolOp op rest pos) (rdC G B W (.bo ia cs)) := by
  refine PT.imp h.pt fun σ H Q hq => ?_
  obtain ⟨F, s, sr, p⟩ := hq
  simp only [evC] at p
  exact ⟨F, s, sr, p⟩
theorem q_boV {op : PySem.BoolOp} {rest : List Expr} {ia : Bool} {es : Es} (h : PE X (.BoolOp op rest pos) (rd G B W (relE G) (evBo ia es))) : PE X (.BoolOp op rest pos) (rdE G B W (.bo ia es)) := by
  refine PE.imp h fun σ H Q hq => ?_
  obtain ⟨F, s, sr, p⟩ := hq
  simp only [evE] at p
  exact ⟨F, s, sr, p⟩
theorem q_noT (ha : PT X a (rdC G B W ca)) : PT X (.UnaryOp .Not a pos) (rdC G B W (.no ca)) := by
  refine PT.imp (pt_not ha) fun σ H Q hq => ?_
  obtain ⟨F, s, sr, p⟩ := hq
  simp only [evC] at p
  refine ⟨F, s, sr, (Pst.bind p).mono ?_⟩
  rintro c H1 ⟨d, F1, s1, e1, sr1, rfl, p1⟩
  exact p1 _ F1 H1 (.refl _) sr1 rfl
theorem q_ite (hc : PT X c (rdC G B W ca)) (ha : PE X a (rdE G B W ea)) (hb : PE X b (rdE G B W eb)) : PE X (.IfExp c a b pos) (rdE G B W (.ite ca ea eb)) := by
  refine PE.imp (pe_ifExp hc ha hb) fun σ H Q hq => ?_
  obtain ⟨F, s, sr, p⟩ := hq
  simp only [evE] at p
  refine ⟨F, s, sr, (Pst.bind p).mono ?_⟩
  rintro d H1 ⟨d', F1, s1, e1, sr1, rfl, p1⟩
  cases d with
  | true => rw [if_pos rfl] at p1 ⊢; exact ⟨F1, s1, sr1, p1⟩
  | false => rw [if_neg Bool.false_ne_true] at p1 ⊢; exact ⟨F1, s1, sr1, p1⟩
/-- a value's truth as a test -/
theorem q_ce (hG : X.K = G.K) (ha : PE X a (rdE G B W ea)) (he : ∀ whole, isTrue a X.env whole = (do let v ← whole; standAt a.pos; holding [v] (truthy v))) : PT X a (rdC G B W (.e ea)) := by
  refine PT.imp (pt_truth ha he) fun σ H Q hq => ?_
  have h := rd_then (ea := evE ea) (k := truR) (rel := relC) (G := G) (B := B) (W := W) (σ := σ) (H := H) (Q := Q) (by
    obtain ⟨F, s, sr, p⟩ := hq
    simp only [evC] at p
    exact ⟨F, s, sr, p⟩)
  obtain ⟨F, s, sr, p⟩ := h
  refine ⟨F, s, sr, p.mono ?_⟩
  rintro x H1 ⟨tx, F1, s1, sr1, rx, p1⟩
  unfold truR Rs.of at p1
  cases ht : tru tx with
  | none => rw [ht] at p1; exact p1.elim
  | some b =>
    rw [ht] at p1
    refine ⟨b, ?_, p1 b F1 H1 (.refl _) sr1 rfl⟩
    rw [hG]
    exact tru_rel sr1.sub rx ht
/-- a slot's own list as a test -/
theorem q_trB (g : Good X G k N sc W) {i : Nat} {x : Str} (hi : N[i]? = some x) (hv : Vis sc x) (hd : (x == ("__debug__" : Str)) = false) (hcd : (x == ("__classdict__" : Str)) = false) : PT X (.Name x pos) (rdC G B W (.trB i)) := by
  refine PT.imp (pt_truth (pe_var (i := i) (by rw [g.hN]; exact hi) (by rw [g.hsc]; exact hv) hd hcd) (fun _ => rfl)) fun σ H Q hq => ?_
  obtain ⟨F, s, sr, p⟩ := hq
  simp only [evC] at p
  split at p
  · rename_i ts ho
    obtain ⟨a, y, h1, h2, h3, ⟨⟨vs, h4, h5⟩, h6⟩⟩ := own_at sr ho
    refine ⟨.ref a, h3, !ts.isEmpty, ?_, p _ F H (.refl _) sr rfl⟩
    refine .inl ⟨vs, .inl (.inl h4), ?_⟩
    have q := h5.length
    cases ts with
    | nil => rw [List.length_eq_zero_iff.mp q]; rfl
    | cons _ _ => cases vs with
      | nil => cases q
      | cons _ _ => rfl
  · exact p.elim

/-! ### rows of values, tuples -/
theorem q_nil : PA X [] (rd G B W (relEs G) (evEs .nil)) := by
  refine PA.imp pa_nil fun σ H Q hq => ?_
  obtain ⟨F, s, sr, p⟩ := hq
  simp only [evEs] at p
  exact p [] F H (.refl _) sr (by simp only [relEs, Reps])
theorem q_cons {fs : Es} (ha : PE X a (rdE G B W ea)) (hr : PA X es (rd G B W (relEs G) (evEs fs))) (hs : starEach (a :: es) X.env = (false, eval a X.env) :: starEach es X.env) : PA X (a :: es) (rd G B W (relEs G) (evEs (.cons ea fs))) := by
  refine PA.imp (pa_cons ha hr hs) fun σ H Q hq => ?_
  obtain ⟨F, s, sr, p⟩ := hq
  simp only [evEs] at p
  refine ⟨F, s, sr, (Pst.bind p).mono ?_⟩
  rintro x H1 ⟨tx, F1, s1, e1, sr1, rx, p1⟩
  refine ⟨F1, s1, sr1, (Pst.bind p1).mono ?_⟩
  rintro xs H2 ⟨txs, F2, s2, e2, sr2, rxs, p2⟩
  exact p2 (x :: xs) F2 H2 (.refl _) sr2 (Reps.cons (Rep.mono e2 _ _ rx) rxs)
theorem q_tup {fs : Es} {x1 : Nat} (h : PA X es (rd G B W (relEs G) (evEs fs))) : PE X (.Tuple es x1 pos) (rdE G B W (.tup fs)) := by
  refine PE.imp (pe_tup h) fun σ H Q hq => ?_
  obtain ⟨F, s, sr, p⟩ := hq
  simp only [evE] at p
  refine ⟨F, s, sr, (Pst.bind p).mono ?_⟩
  rintro xs H1 ⟨ts, F1, s1, e1, sr1, rx, p1⟩
  simp only [relEs] at rx
  split at p1
  · rename_i hl
    refine ⟨by rw [rx.length, ← big_eq]; exact hl, fun q hn => ?_⟩
    have gr := Grow.laid (o := .tup xs) sr1.sub hn
    refine p1 _ _ _ gr.ff (sr1.grow gr) ?_
    simp only [relE, Rep]
    exact ⟨q, xs, rfl, .inl (.inl upd_same), Reps.mono gr.ff _ _ rx⟩
  · exact p1.elim

/-! ### items, slices, fields -/
theorem atI_reps {F : Hp} {vs : List V} {ts : List T} {i : Int} {t : T} (r : Reps G F vs ts) (h : atI ts i = some t) : ∃ v, atI vs i = some v ∧ Rep G F v t := by
  unfold atI at h ⊢
  rw [r.length]
  cases e : ixN ts.length i with
  | none => rw [e] at h; cases h
  | some j =>
    rw [e] at h
    simp only [Option.bind_some] at h ⊢
    obtain ⟨v, h1, h2⟩ := r.get h
    exact ⟨v, h1, h2⟩
theorem ix_rB (hG : X.K = G.K) : IxR X (rB G idxT) := by
  intro ve se pins s σ H x y v u Q I rx ry hh hsb
  obtain ⟨F, tx, ty, z, sub, hx, hy, e, k⟩ := hh
  have k0 : ∀ v, Rep G F v z → Q v H := fun v r => k v F H (.refl sub) r
  unfold idxT at e
  split at e
  · simp only [Rep] at hx hy
    obtain ⟨a, vs, rfl, h2, h3⟩ := hx
    subst hy
    obtain ⟨w, h4, h5⟩ := atI_reps h3 e
    exact ix_tup ve se pins s σ H _ _ v u Q I rx ry ⟨a, vs, _, w, rfl, rfl, by rw [hG]; exact sameSqT sub h2, h4, k0 _ h5⟩ hsb
  · simp only [Rep] at hx hy
    obtain ⟨a, vs, rfl, h2, h3⟩ := hx
    subst hy
    obtain ⟨w, h4, h5⟩ := atI_reps h3 e
    exact ix_list ve se pins s σ H _ _ v u Q I rx ry ⟨a, vs, _, w, rfl, rfl, .inl (.inl (sub _ _ h2)), h4, k0 _ h5⟩ hsb
  · simp only [Rep] at hx hy
    subst hx hy
    split at e
    · rename_i hl
      cases h : atI (Array.toList (Str.cps ‹Str›)) ‹Int› with
      | none => rw [h] at e; cases e
      | some c =>
        rw [h] at e
        cases e
        exact ix_str ve se pins s σ H _ _ v u Q I rx ry ⟨_, _, c, rfl, rfl, by rw [← big_eq]; exact hl, h, k0 _ (by simp only [Rep])⟩ hsb
    · cases e
  · cases e
theorem q_idx (hG : X.K = G.K) (ha : PE X a (rdE G B W ea)) (hb : PE X b (rdE G B W eb)) (hs : PlainIx b) : PE X (.Subscript a b pos) (rdE G B W (.idx ea eb)) := by
  refine PE.imp (pe_ix (ix_rB hG) ha hb hs) fun σ H Q hq => rd_bin (ea := evE ea) (eb := evE eb) ?_
  obtain ⟨F, s, sr, p⟩ := hq
  simp only [evE] at p
  exact ⟨F, s, sr, p⟩
theorem SR.same_own {F H F1 H1 : Hp} {σ : L2.St} {s s1 : Sls} {i : Nat} {ts us : List T} {v : V} (sr : SR G B F H σ s) (sr1 : SR G B F1 H1 σ s1) (e : ownAt s i = some ts) (e1 : ownAt s1 i = some us) (h : σ[i]? = some (some v)) : ∃ a, v = .ref a ∧ LstAt G F1 H1 a us := by
  obtain ⟨a, y, h1, h2, h3, h4⟩ := own_at sr1 e1
  rw [h] at h3
  cases h3
  exact ⟨a, rfl, h4⟩
theorem q_idxB (g : Good X G k N sc W) {i : Nat} {x : Str} {px : Pos} (hi : N[i]? = some x) (hv : Vis sc x) (hd : (x == ("__debug__" : Str)) = false) (hcd : (x == ("__classdict__" : Str)) = false) (hb : PE X b (rdE G B W eb)) (hs : PlainIx b) :
    PE X (.Subscript (.Name x px) b pos) (rdE G B W (.idxB i eb)) := by
  refine PE.imp (pe_ix ix_list (pe_var (i := i) (by rw [g.hN]; exact hi) (by rw [g.hsc]; exact hv) hd hcd) hb hs) fun σ H Q hq => ?_
  obtain ⟨F, s, sr, p⟩ := hq
  simp only [evE] at p
  split at p
  · rename_i ts0 ho
    obtain ⟨a, y, h1, h2, h3, _⟩ := own_at sr ho
    refine ⟨.ref a, h3, F, s, sr, (Pst.bind p).mono ?_⟩
    rintro y H1 ⟨ty, F1, s1, e1, sr1, ry, p1⟩
    split at p1
    · rename_i ts ho1
      obtain ⟨a', h5, ⟨⟨vs, h6, h7⟩, h8⟩⟩ := sr.same_own sr1 ho ho1 h3
      cases h5
      cases ty with
      | int j =>
        simp only [relE, Rep] at ry
        simp only [idxT] at p1
        cases h : atI ts j with
        | none => rw [h] at p1; exact p1.elim
        | some t =>
          rw [h] at p1
          obtain ⟨w, h9, h10⟩ := atI_reps h7 h
          exact ⟨a, vs, j, w, rfl, ry, .inl (.inl h6), h9, p1 w F1 H1 (.refl _) sr1 h10⟩
      | _ => exact p1.elim
    · exact p1.elim
  · exact p.elim
theorem cut_reps {F : Hp} {vs : List V} {ts : List T} (r : Reps G F vs ts) (lo hi : Option Int) : Reps G F (cutV vs lo hi) (cutT ts lo hi) := by
  unfold cutV cutT
  rw [r.length]
  exact Reps.take _ (Reps.drop _ r)
/-- a slice's end -/
theorem q_on {o : Oe} (h : o = .none) : PO X none (rd G B W relO (evO o)) := by
  subst h
  refine PO.imp po_none fun σ H Q hq => ?_
  obtain ⟨F, s, sr, p⟩ := hq
  simp only [evO] at p
  exact p none F H (.refl _) sr rfl
theorem q_os (ha : PE X a (rdE G B W ea)) : PO X (some a) (rd G B W relO (evO (.some ea))) := by
  refine PO.imp (po_some ha) fun σ H Q hq => ?_
  obtain ⟨F, s, sr, p⟩ := hq
  simp only [evO] at p
  refine ⟨F, s, sr, (Pst.bind p).mono ?_⟩
  rintro x H1 ⟨tx, F1, s1, e1, sr1, rx, p1⟩
  cases tx with
  | int i =>
    simp only [relE, Rep] at rx
    exact ⟨i, rx, p1 _ F1 H1 (.refl _) sr1 rfl⟩
  | _ => exact p1.elim
/-- a slice of a value -/
theorem rd_sl {α : Type} {rel : Sls → Hp → Hp → V → α → Prop} {el eh : Oe} {f : T → Option Int → Option Int → Sls → Rs α} {r : V → Option Int → Option Int → Hp → VK → Prop} {σ : L2.St} {H : Hp} {Q : VK}
    (hr : ∀ (F H : Hp) (s : Sls) (x : V) (tx : T) (l h : Option Int), SR G B F H σ s → Rep G F x tx → Pst G B W F σ rel (f tx l h s) Q → r x l h H Q)
    (hq : rd G B W rel (fun s => (evE ea s).bind fun x s => (evO el s).bind fun l s => (evO eh s).bind fun h s => f x l h s) σ H Q) :
    tSl r (rdE G B W ea) (rd G B W relO (evO el)) (rd G B W relO (evO eh)) σ H Q := by
  obtain ⟨F, s, sr, p⟩ := hq
  refine ⟨F, s, sr, (Pst.bind p).mono ?_⟩
  rintro x H1 ⟨tx, F1, s1, e1, sr1, rx, p1⟩
  refine ⟨F1, s1, sr1, (Pst.bind p1).mono ?_⟩
  rintro l H2 ⟨l', F2, s2, e2, sr2, rfl, p2⟩
  refine ⟨F2, s2, sr2, (Pst.bind p2).mono ?_⟩
  rintro h H3 ⟨h', F3, s3, e3, sr3, rfl, p3⟩
  exact hr _ _ _ _ _ _ _ sr3 (Rep.mono e3 _ _ (Rep.mono e2 _ _ rx)) p3
theorem q_slc (hG : X.K = G.K) {lo hi : Option Expr} {el eh : Oe} {p2 : Pos} (ha : PE X a (rdE G B W ea)) (hl : PO X lo (rd G B W relO (evO el))) (hh : PO X hi (rd G B W relO (evO eh))) : PE X (.Subscript a (.Slice lo hi none p2) pos) (rdE G B W (.slc ea el eh)) := by
  refine PE.imp (pe_slice (sl_tup.or sl_str) ha hl hh) fun σ H Q hq => ?_
  refine rd_sl (f := fun x l h s => match x with
    | .tup ts => if HT.sIx ts.length 0 l = 0 ∧ HT.sIx ts.length ts.length h = ts.length then .bad else .ok (.tup (cutT ts l h)) s
    | .str z => if z.length ≤ big then .ok (.str (cutS z l h)) s else .bad
    | _ => .bad) (rel := relE G) ?_ ?_
  · intro F H s x tx l h sr rx p
    cases tx with
    | tup ts =>
      simp only [Rep] at rx
      obtain ⟨a, vs, rfl, h2, h3⟩ := rx
      simp only at p
      split at p
      · exact p.elim
      · rename_i hc
        refine .inl ⟨a, vs, rfl, by rw [hG]; exact sameSqT sr.sub h2, by rw [h3.length]; exact hc, fun q hn => ?_⟩
        have gr := Grow.laid (o := .tup (cutV vs l h)) sr.sub hn
        refine p _ _ _ gr.ff (sr.grow gr) ?_
        simp only [relE, Rep]
        exact ⟨q, _, rfl, .inl (.inl upd_same), Reps.mono gr.ff _ _ (cut_reps h3 l h)⟩
    | str z =>
      simp only [Rep] at rx
      simp only at p
      split at p
      · rename_i hz
        exact .inr ⟨z, rx, by rw [← big_eq]; exact hz, p _ F H (.refl _) sr (by simp only [relE, Rep])⟩
      · exact p.elim
    | _ => exact p.elim
  · obtain ⟨F, s, sr, p⟩ := hq
    simp only [evE] at p
    exact ⟨F, s, sr, p⟩
/-- a new list -/
theorem relM_new {F H : Hp} {σ : L2.St} {s : Sls} {q : Addr} {vs : List V} {ts : List T} (sr : SR G B F H σ s) (hn : H q = none) (r : Reps G F vs ts) : Grow F H F (upd H q (.lst vs)) ∧ relM G B σ s F (upd H q (.lst vs)) (.ref q) ts := by
  have hpa : ∀ a, B.pa = some a → H a ≠ none := fun a e z => by
    obtain ⟨ws, h⟩ := sr.pl a e
    rw [z] at h
    cases h
  have gr := Grow.put (o := .lst vs) sr.sub hn
  refine ⟨gr, q, rfl, ⟨⟨vs, upd_same, r⟩, sr.sub.free hn⟩, ?_, fun e => hpa q e hn, fun j x e o h => ?_⟩
  · cases h0 : B.H0 q with
    | none => rfl
    | some o =>
      by_cases hb : B.pa = some q
      · exact (hpa q hb hn).elim
      · rw [sr.fr q o h0 hb] at hn
        cases hn
  · cases ho : x.own with
    | none => rw [ho] at o; cases o
    | some us =>
      obtain ⟨a, h1, ⟨⟨ws, h2, _⟩, _⟩, _⟩ := sr.own e ho
      rw [h] at h1
      cases h1
      rw [hn] at h2
      cases h2
end
end FL

/-! FL8: built-ins, isinstance, fields, new lists. -/
namespace FL
open PySem PySem.Spec L2
section
variable {X : Cx} {G : Gx} {B : Fr0} {W : WX} {k : Option Nat} {N : List Str} {sc : Scope} {pos : Pos}
variable {a b c : Expr} {ea eb ec : E} {es : List Expr}

/-! ### built-ins -/
def rBi (G : Gx) (b : Bi) : List V → Hp → VK → Prop := fun vs H Q => ∃ F ts z, Same F H ∧ Reps G F vs ts ∧ biF b ts = some z ∧ ∀ v F' H', Grow F H F' H' → Rep G F' v z → Q v H'
theorem reps1 {F : Hp} {vs : List V} {t : T} (h : Reps G F vs [t]) : ∃ v, vs = [v] ∧ Rep G F v t := by
  simp only [Reps] at h
  obtain ⟨v, r, rfl, h2, rfl⟩ := h
  exact ⟨v, rfl, h2⟩
theorem reps2 {F : Hp} {vs : List V} {t u : T} (h : Reps G F vs [t, u]) : ∃ v w, vs = [v, w] ∧ Rep G F v t ∧ Rep G F w u := by
  simp only [Reps] at h
  obtain ⟨v, r, rfl, h2, w, r', rfl, h3, rfl⟩ := h
  exact ⟨v, w, rfl, h2, h3⟩
theorem rd_bi {bb : Bi} {fs : Es} {σ : L2.St} {H : Hp} {Q : VK} (hq : rdE G B W (.bi bb fs) σ H Q) : tCB (rBi G bb) (rd G B W (relEs G) (evEs fs)) σ H Q := by
  obtain ⟨F, s, sr, p⟩ := hq
  simp only [evE] at p
  refine ⟨F, s, sr, (Pst.bind p).mono ?_⟩
  rintro xs H1 ⟨ts, F1, s1, e1, sr1, rx, p1⟩
  cases h : biF bb ts with
  | none => rw [h] at p1; exact p1.elim
  | some z =>
    rw [h] at p1
    exact ⟨F1, ts, z, sr1.sub, rx, h, fun v F' H' g r => p1 v F' H' g.ff (sr1.grow g) r⟩
theorem cr_len (hG : X.K = G.K) : CallR X (.builtin "len") (rBi G .len) := by
  intro pins s σ H vs us Q I r h
  obtain ⟨F, ts, z, sub, rv, e, k⟩ := h
  have k0 : ∀ v, Rep G F v z → Q v H := fun v r => k v F H (.refl sub) r
  simp only [biF] at e
  split at e <;> try cases e
  · split at e
    · rename_i hl
      cases e
      obtain ⟨v, rfl, r1⟩ := reps1 rv
      simp only [Rep] at r1
      subst r1
      exact call_len pins s σ H _ us Q I r ⟨_, _, rfl, ⟨by rw [← big_eq]; exact hl, rfl⟩, k0 _ (by simp only [Rep])⟩
    · cases e
  · obtain ⟨v, rfl, r1⟩ := reps1 rv
    simp only [Rep] at r1
    obtain ⟨a, vs, rfl, h2, h3⟩ := r1
    exact call_len pins s σ H _ us Q I r ⟨_, _, rfl, .inr ⟨vs, by rw [hG]; exact sameSqT sub h2, rfl⟩, k0 _ (by simp only [Rep, h3.length])⟩
  · obtain ⟨v, rfl, r1⟩ := reps1 rv
    simp only [Rep] at r1
    obtain ⟨a, vs, rfl, h2, h3⟩ := r1
    exact call_len pins s σ H _ us Q I r ⟨_, _, rfl, .inl ⟨vs, .inl (.inl (sub _ _ h2)), rfl⟩, k0 _ (by simp only [Rep, h3.length])⟩
  · obtain ⟨v, rfl, r1⟩ := reps1 rv
    simp only [Rep] at r1
    obtain ⟨a, vs, rfl, h2, h3⟩ := r1
    exact call_len pins s σ H _ us Q I r ⟨_, _, rfl, .inl ⟨vs, by rw [hG]; exact sub.seq h2, rfl⟩, k0 _ (by simp only [Rep, h3.length])⟩
theorem cr_abs : CallR X (.builtin "abs") (rBi G .abs) := by
  intro pins s σ H vs us Q I r h
  obtain ⟨F, ts, z, sub, rv, e, k⟩ := h
  have k0 : ∀ v, Rep G F v z → Q v H := fun v r => k v F H (.refl sub) r
  simp only [biF] at e
  split at e <;> try cases e
  · obtain ⟨v, rfl, r1⟩ := reps1 rv
    simp only [Rep] at r1
    subst r1
    exact call_abs pins s σ H _ us Q I r ⟨_, rfl, k0 _ (by simp only [Rep])⟩
theorem cr_int : CallR X (.type "int") (rBi G .int) := by
  intro pins s σ H vs us Q I r h
  obtain ⟨F, ts, z, sub, rv, e, k⟩ := h
  have k0 : ∀ v, Rep G F v z → Q v H := fun v r => k v F H (.refl sub) r
  simp only [biF] at e
  split at e <;> try cases e
  · obtain ⟨v, rfl, r1⟩ := reps1 rv
    simp only [Rep] at r1
    subst r1
    exact call_int1 pins s σ H _ us Q I r (.inl ⟨_, rfl, k0 _ (by simp only [Rep])⟩)
  · obtain ⟨v, rfl, r1⟩ := reps1 rv
    simp only [Rep] at r1
    subst r1
    exact call_int1 pins s σ H _ us Q I r (.inr ⟨_, rfl, k0 _ (by simp only [Rep])⟩)
  · split at e
    · rename_i a hl
      obtain ⟨v, rfl, r1⟩ := reps1 rv
      simp only [Rep] at r1
      subst r1
      cases h : PySem.intText? a with
      | none => rw [h] at e; cases e
      | some n =>
        rw [h] at e
        cases e
        exact call_int_str pins s σ H _ us Q I r ⟨_, _, rfl, h, hl, k0 _ (by simp only [Rep])⟩
    · cases e
theorem cr_str : CallR X (.type "str") (rBi G .str) := by
  intro pins s σ H vs us Q I r h
  obtain ⟨F, ts, z, sub, rv, e, k⟩ := h
  have k0 : ∀ v, Rep G F v z → Q v H := fun v r => k v F H (.refl sub) r
  simp only [biF] at e
  split at e <;> try cases e
  · split at e
    · rename_i hl
      cases e
      obtain ⟨v, rfl, r1⟩ := reps1 rv
      simp only [Rep] at r1
      subst r1
      exact call_str_int pins s σ H _ us Q I r ⟨_, rfl, hl, k0 _ (by simp only [Rep])⟩
    · cases e
theorem cr_max2 (hc : X.calm = true) : CallR X (.builtin "max") (rBi G .max2) := by
  intro pins s σ H vs us Q I r h
  obtain ⟨F, ts, z, sub, rv, e, k⟩ := h
  have k0 : ∀ v, Rep G F v z → Q v H := fun v r => k v F H (.refl sub) r
  simp only [biF] at e
  split at e <;> try cases e
  · obtain ⟨v, w, rfl, r1, r2⟩ := reps2 rv
    simp only [Rep] at r1 r2
    subst r1 r2
    exact call_max2 hc pins s σ H _ us Q I r ⟨_, _, rfl, k0 _ (by simp only [Rep])⟩
theorem cr_min2 (hc : X.calm = true) : CallR X (.builtin "min") (rBi G .min2) := by
  intro pins s σ H vs us Q I r h
  obtain ⟨F, ts, z, sub, rv, e, k⟩ := h
  have k0 : ∀ v, Rep G F v z → Q v H := fun v r => k v F H (.refl sub) r
  simp only [biF] at e
  split at e <;> try cases e
  · obtain ⟨v, w, rfl, r1, r2⟩ := reps2 rv
    simp only [Rep] at r1 r2
    subst r1 r2
    exact call_min2 hc pins s σ H _ us Q I r ⟨_, _, rfl, k0 _ (by simp only [Rep])⟩
theorem cr_gcdT : CallR X (.builtin "math.gcd") (rBi G .gcd) := by
  intro pins s σ H vs us Q I r h
  obtain ⟨F, ts, z, sub, rv, e, k⟩ := h
  have k0 : ∀ v, Rep G F v z → Q v H := fun v r => k v F H (.refl sub) r
  simp only [biF] at e
  split at e <;> try cases e
  · obtain ⟨v, w, rfl, r1, r2⟩ := reps2 rv
    simp only [Rep] at r1 r2
    subst r1 r2
    exact cr_gcd pins s σ H _ us Q I r ⟨_, _, rfl, k0 _ (by simp only [Rep])⟩
theorem cr_tuple (hG : X.K = G.K) : CallR X (.type "tuple") (rBi G .tuple) := by
  intro pins s σ H vs us Q I r h
  obtain ⟨F, ts, z, sub, rv, e, k⟩ := h
  have k0 : ∀ v, Rep G F v z → Q v H := fun v r => k v F H (.refl sub) r
  simp only [biF] at e
  split at e <;> try cases e
  · obtain ⟨v, rfl, r1⟩ := reps1 rv
    simp only [Rep] at r1
    obtain ⟨a, vs, rfl, h2, h3⟩ := r1
    refine call_tuple_of pins s σ H _ us Q I r ⟨a, vs, rfl, .inl ⟨.inl (.inl (sub _ _ h2)), fun q hn => ?_⟩⟩
    have gr := Grow.laid (o := .tup vs) sub hn
    refine k _ _ _ gr ?_
    simp only [Rep]
    exact ⟨q, vs, rfl, .inl (.inl upd_same), Reps.mono gr.ff _ _ h3⟩
  · obtain ⟨v, rfl, r1⟩ := reps1 rv
    have r2 := r1
    simp only [Rep] at r1
    obtain ⟨a, vs, rfl, h2, h3⟩ := r1
    exact call_tuple_of pins s σ H _ us Q I r ⟨a, vs, rfl, .inr ⟨by rw [hG]; exact sameSqT sub h2, k0 _ r2⟩⟩
/-- which name calls it -/
def biName : Bi → Str
  | .len => "len" | .abs => "abs" | .int => "int" | .str => "str" | .max2 => "max" | .min2 => "min" | .gcd => "gcd" | .tuple => "tuple"
/-- what the module's names must say of it -/
def BiOk (G : Gx) : Bi → Prop
  | .gcd => G.mg "gcd" = some (.builtin "math.gcd")
  | b => G.mg (biName b) = none
theorem q_bi {bb : Bi} (g : Good X G k N sc W) (hc : (bb = .max2 ∨ bb = .min2) → k.isSome = true) {fs : Es} {p : Pos} {x : Str} (hx : biName bb = x) (hk : BiOk G bb) (hl : sc.names.lookup x = some .globalImplicit) (h : PA X (a :: es) (rd G B W (relEs G) (evEs fs)))
    (he : starEach (a :: es) X.env = (false, eval a X.env) :: starEach es X.env) (hpl : (backTo pos (starEach es X.env)).any (·.1) = false) : PE X (.Call (.Name x p) (a :: es) [] pos) (rdE G B W (.bi bb fs)) := by
  subst hx
  have hg : Gl X (biName bb) := show X.env.scope.names.lookup (biName bb) = some .globalImplicit by rw [g.hsc]; exact hl
  cases bb with
  | len => exact PE.imp (pe_callB (cr_len g.hK) hg (by rw [g.hmg]; exact hk) (by decide +kernel) h (he := he) (hpl := hpl)) fun σ H Q hq => rd_bi hq
  | abs => exact PE.imp (pe_callB cr_abs hg (by rw [g.hmg]; exact hk) (by decide +kernel) h (he := he) (hpl := hpl)) fun σ H Q hq => rd_bi hq
  | int => exact PE.imp (pe_callTy cr_int hg (by rw [g.hmg]; exact hk) (by decide +kernel) h (he := he) (hpl := hpl)) fun σ H Q hq => rd_bi hq
  | str => exact PE.imp (pe_callTy cr_str hg (by rw [g.hmg]; exact hk) (by decide +kernel) h (he := he) (hpl := hpl)) fun σ H Q hq => rd_bi hq
  | max2 => exact PE.imp (pe_callB (cr_max2 (g.calm (hc (.inl rfl)))) hg (by rw [g.hmg]; exact hk) (by decide +kernel) h (he := he) (hpl := hpl)) fun σ H Q hq => rd_bi hq
  | min2 => exact PE.imp (pe_callB (cr_min2 (g.calm (hc (.inr rfl)))) hg (by rw [g.hmg]; exact hk) (by decide +kernel) h (he := he) (hpl := hpl)) fun σ H Q hq => rd_bi hq
  | gcd => exact PE.imp (pe_callBfun cr_gcdT hg (by rw [g.hmg]; exact hk) h (he := he) (hpl := hpl)) fun σ H Q hq => rd_bi hq
  | tuple => exact PE.imp (pe_callTy (cr_tuple g.hK) hg (by rw [g.hmg]; exact hk) (by decide +kernel) h (he := he) (hpl := hpl)) fun σ H Q hq => rd_bi hq

/-! ### len and tuple of a slot's own list -/
variable {i : Nat} {x : Str} {px : Pos}
theorem q_lenB (g : Good X G k N sc W) {p : Pos} (hk : G.mg "len" = none) (hl : sc.names.lookup ("len" : Str) = some .globalImplicit) (hi : N[i]? = some x) (hv : Vis sc x) (hd : (x == ("__debug__" : Str)) = false) (hcd : (x == ("__classdict__" : Str)) = false) :
    PE X (.Call (.Name "len" p) [.Name x px] [] pos) (rdE G B W (.lenB i)) := by
  have hg : Gl X "len" := show X.env.scope.names.lookup ("len" : Str) = some .globalImplicit by rw [g.hsc]; exact hl
  refine PE.imp (pe_callB call_len hg (by rw [g.hmg]; exact hk) (by decide +kernel) (pa_cons (pe_var (i := i) (by rw [g.hN]; exact hi) (by rw [g.hsc]; exact hv) hd hcd) pa_nil)) fun σ H Q hq => ?_
  obtain ⟨F, s, sr, p⟩ := hq
  simp only [evE] at p
  split at p
  · rename_i ts ho
    obtain ⟨a, y, h1, h2, h3, ⟨⟨vs, h4, h5⟩, h6⟩⟩ := own_at sr ho
    exact ⟨.ref a, h3, .ref a, vs.length, rfl, .inl ⟨vs, .inl (.inl h4), rfl⟩, p _ F H (.refl _) sr (by simp only [relE, Rep, h5.length])⟩
  · exact p.elim
theorem q_tupB (g : Good X G k N sc W) {p : Pos} (hk : G.mg "tuple" = none) (hl : sc.names.lookup ("tuple" : Str) = some .globalImplicit) (hi : N[i]? = some x) (hv : Vis sc x) (hd : (x == ("__debug__" : Str)) = false) (hcd : (x == ("__classdict__" : Str)) = false) :
    PE X (.Call (.Name "tuple" p) [.Name x px] [] pos) (rdE G B W (.tupB i)) := by
  have hg : Gl X "tuple" := show X.env.scope.names.lookup ("tuple" : Str) = some .globalImplicit by rw [g.hsc]; exact hl
  refine PE.imp (pe_callTy call_tuple_of hg (by rw [g.hmg]; exact hk) (by decide +kernel) (pa_cons (pe_var (i := i) (by rw [g.hN]; exact hi) (by rw [g.hsc]; exact hv) hd hcd) pa_nil)) fun σ H Q hq => ?_
  obtain ⟨F, s, sr, p⟩ := hq
  simp only [evE] at p
  split at p
  · rename_i ts ho
    obtain ⟨a, y, h1, h2, h3, ⟨⟨vs, h4, h5⟩, h6⟩⟩ := own_at sr ho
    refine ⟨.ref a, h3, a, vs, rfl, .inl ⟨.inl (.inl h4), fun q hn => ?_⟩⟩
    have gr := Grow.laid (o := .tup vs) sr.sub hn
    refine p _ _ _ gr.ff (sr.grow gr) ?_
    simp only [relE, Rep]
    exact ⟨q, vs, rfl, .inl (.inl upd_same), Reps.mono gr.ff _ _ h5⟩
  · exact p.elim

/-! ### isinstance with built-in classes -/
def tyName : Ty → Option String
  | .int => some "int" | .bool => some "bool" | .str => some "str" | .tuple => some "tuple" | .list => some "list" | .own _ => none
def tyOfT : T → Option String
  | .non => some "NoneType" | .bl _ => some "bool" | .int _ => some "int" | .str _ => some "str" | .tup _ => some "tuple" | .lst _ => some "list"
  | _ => none
theorem tyx_of {F H : Hp} {v : V} {t : T} {n : String} (sub : Same F H) (r : Rep G F v t) (h : tyOfT t = some n) : TyX G.K H v (.type n) := by
  cases t with
  | non => simp only [Rep] at r; subst r; cases h; exact .base .non
  | bl _ => simp only [Rep] at r; subst r; cases h; exact .base (.bl _)
  | int _ => simp only [Rep] at r; subst r; cases h; exact .base (.int _)
  | str _ => simp only [Rep] at r; subst r; cases h; exact .base (.str _)
  | tup ts =>
    simp only [Rep] at r
    obtain ⟨a, vs, rfl, h2, h3⟩ := r
    cases h
    rcases h2 with (h2 | ⟨o, h2⟩) | ⟨o, its, m, q1, q2, _⟩
    · exact .base (.tup (sub _ _ h2))
    · exact .fTuple (sub _ _ h2)
    · exact .kTuple q1 q2
  | lst ts =>
    simp only [Rep] at r
    obtain ⟨a, vs, rfl, h2, h3⟩ := r
    cases h
    exact .base (.lst (sub _ _ h2))
  | obj _ _ _ => cases h
  | exo _ _ _ => cases h
  | scr _ => cases h
theorem kit_of_ty {K : PySem.W.Frag} {t : T} {n : String} {y : Ty} {m : String} (h : tyOfT t = some n) (hy : tyName y = some m) : PySem.W.kitOne K (.type n) (.type m) = some (isTy t y) := by
  refine kit_ty ?_
  cases t <;> cases h <;> cases y <;> cases hy <;> first | (show kitB _ _ = some true; decide +kernel) | (show kitB _ _ = some false; decide +kernel)
/-- the class that a name of the tuple or the argument tells -/
inductive TyE (X : Cx) : Expr → Ty → Prop
  | blt {y : Ty} {m : String} {p : Pos} : tyName y = some m → Gl X (Str.ofString m) → X.mg (Str.ofString m) = none → TyE X (.Name (Str.ofString m) p) y
theorem TyE.pe {y : Ty} {e : Expr} (h : TyE X e y) : ∃ m, tyName y = some m ∧ PE X e (tC (.ty m)) := by
  cases h with
  | blt h1 h2 h3 =>
    refine ⟨_, h1, ?_⟩
    cases y <;> cases h1 <;> exact pe_bltn h2 h3 (by decide +kernel) rfl (by decide +kernel) (by decide +kernel)
theorem rd_isi {one : Bool} {ks : List Ty} {σ : L2.St} {H : Hp} {Q : VK} (hq : rdE G B W (.isi ea one ks) σ H Q) :
    rdE G B W ea σ H fun x H1 => ∃ tx F1 s1, SR G B F1 H1 σ s1 ∧ Rep G F1 x tx ∧ ((∀ ts, tx ≠ .scr ts) ∧ ∀ c n ts, tx ≠ .exo c n ts) ∧ ∀ F2 H2, Grow F1 H1 F2 H2 → Q (.bl (ks.any (isTy tx))) H2 := by
  obtain ⟨F, s, sr, p⟩ := hq
  simp only [evE] at p
  refine ⟨F, s, sr, (Pst.bind p).mono ?_⟩
  rintro x H1 ⟨tx, F1, s1, e1, sr1, rx, p1⟩
  refine ⟨tx, F1, s1, sr1, rx, ⟨fun ts z => ?_, fun c n ts z => ?_⟩, fun F2 H2 gr => ?_⟩
  · subst z; exact p1.elim
  · subst z; exact p1.elim
  · cases tx <;> first | exact p1.elim | exact p1 _ F2 H2 gr.ff (sr1.grow gr) (by simp only [relE, Rep])
/-- what is asked of the own classes for isinstance -/
def IsiOk (G : Gx) : Prop := ∀ (F H : Hp) (x : V) (c : Str) (ns : List Str) (ts : List T), Same F H → Rep G F x (.obj c ns ts) → ∃ t, TyX G.K H x t ∧ ∀ y u, tyName y = some u → PySem.W.kitOne G.K t (.type u) = some (isTy (.obj c ns ts) y)
theorem kit_any {K : PySem.W.Frag} {t : Value} {tx : T} (h : ∀ y u, tyName y = some u → PySem.W.kitOne K t (.type u) = some (isTy tx y)) : ∀ (ks : List Ty) (ms : List String), ks.map tyName = ms.map some → PySem.W.kitAny K t (ms.map Value.type) = some (ks.any (isTy tx))
  | [], [], _ => kitAny_nil
  | [], _ :: _, e => by simp at e
  | _ :: _, [], e => by simp at e
  | y :: ks, m :: ms, e => by
    simp only [List.map_cons, List.cons.injEq] at e
    refine kitAny_cons (h y m e.1) (fun hb => ?_) (fun hb => ?_)
    · rw [kit_any h ks ms e.2, List.any_cons, hb, Bool.false_or]
    · rw [List.any_cons, hb, Bool.true_or]
/-- the type of a tree's value, its answers -/
theorem ty_any (ho : IsiOk G) {F H : Hp} {x : V} {tx : T} (sub : Same F H) (r : Rep G F x tx) (ns : (∀ ts, tx ≠ .scr ts) ∧ ∀ c n ts, tx ≠ .exo c n ts) : ∃ t, TyX G.K H x t ∧ ∀ y u, tyName y = some u → PySem.W.kitOne G.K t (.type u) = some (isTy tx y) := by
  cases ht : tyOfT tx with
  | some n => exact ⟨.type n, tyx_of sub r ht, fun y u hy => kit_of_ty ht hy⟩
  | none =>
    cases tx <;> first | (cases ht; done) | skip
    · exact (ns.1 _ rfl).elim
    · exact ho _ _ _ _ _ _ sub r
    · exact (ns.2 _ _ _ rfl).elim
theorem q_isi1 (g : Good X G k N sc W) (ho : IsiOk G) {p : Pos} {y : Ty} {e2 : Expr} (hk : G.mg "isinstance" = none) (hl : sc.names.lookup ("isinstance" : Str) = some .globalImplicit) (ha : PE X a (rdE G B W ea)) (h2 : TyE X e2 y)
    (hs : starEach [a, e2] X.env = (false, eval a X.env) :: starEach [e2] X.env) (hs2 : starEach [e2] X.env = (false, eval e2 X.env) :: starEach [] X.env) (hpl : (backTo pos (starEach [e2] X.env)).any (·.1) = false) :
    PE X (.Call (.Name "isinstance" p) [a, e2] [] pos) (rdE G B W (.isi ea true [y])) := by
  have hg : Gl X "isinstance" := show X.env.scope.names.lookup ("isinstance" : Str) = some .globalImplicit by rw [g.hsc]; exact hl
  obtain ⟨m, hm, pe2⟩ := h2.pe
  refine PE.imp (pe_callB call_isi hg (by rw [g.hmg]; exact hk) (by decide +kernel) (pa_cons ha (pa_cons pe2 pa_nil hs2) hs) (he := hs) (hpl := hpl)) fun σ H Q hq => ?_
  obtain ⟨F, s, sr, p⟩ := rd_isi hq
  refine ⟨F, s, sr, p.mono ?_⟩
  rintro x H1 ⟨tx, F1, s1, sr1, rx, ns, k⟩
  have k1 := k F1 H1 (Grow.refl sr1.sub)
  have he : [y].any (isTy tx) = isTy tx y := by simp
  rw [he] at k1
  obtain ⟨t, h1, h2⟩ := ty_any ho sr1.sub rx ns
  exact ⟨x, .ty m, t, .type m, _, rfl, .ty m, by rw [g.hK]; exact h1, by rw [g.hK]; exact h2 _ _ hm, k1⟩
/-- a row of classes -/
inductive TyEs (X : Cx) : List Expr → List Ty → Prop
  | nil : TyEs X [] []
  | cons {e : Expr} {es : List Expr} {y : Ty} {ys : List Ty} : TyE X e y → TyEs X es ys → starEach (e :: es) X.env = (false, eval e X.env) :: starEach es X.env → TyEs X (e :: es) (y :: ys)
theorem TyEs.pa {es : List Expr} {ys : List Ty} (h : TyEs X es ys) : ∃ ms : List String, ys.map tyName = ms.map some ∧ PA X es fun _ H Q => Q (ms.map V.ty) H := by
  induction h with
  | nil => exact ⟨[], rfl, PA.imp pa_nil fun _ _ _ h => h⟩
  | cons h1 h2 h3 ih =>
    obtain ⟨m, e1, p1⟩ := h1.pe
    obtain ⟨ms, e2, p2⟩ := ih
    exact ⟨m :: ms, by simp [e1, e2], PA.imp (pa_cons p1 p2 h3) fun _ _ _ h => h⟩
theorem paired_cls : ∀ ms : List String, Paired ClsV (ms.map V.ty) (ms.map Value.type)
  | [] => .nil
  | m :: ms => .cons (.ty m) (paired_cls ms)
theorem q_isiT (g : Good X G k N sc W) (ho : IsiOk G) {p p2 : Pos} {ys : List Ty} {x1 : Nat} (hk : G.mg "isinstance" = none) (hl : sc.names.lookup ("isinstance" : Str) = some .globalImplicit) (ha : PE X a (rdE G B W ea)) (h2 : TyEs X es ys) (hlen : ys.length ≤ 100)
    (hs : starEach [a, .Tuple es x1 p2] X.env = (false, eval a X.env) :: starEach [.Tuple es x1 p2] X.env) (hs2 : starEach [.Tuple es x1 p2] X.env = (false, eval (.Tuple es x1 p2) X.env) :: starEach [] X.env) (hpl : (backTo pos (starEach [.Tuple es x1 p2] X.env)).any (·.1) = false) :
    PE X (.Call (.Name "isinstance" p) [a, .Tuple es x1 p2] [] pos) (rdE G B W (.isi ea false ys)) := by
  have hg : Gl X "isinstance" := show X.env.scope.names.lookup ("isinstance" : Str) = some .globalImplicit by rw [g.hsc]; exact hl
  obtain ⟨ms, hm, pa⟩ := h2.pa
  refine PE.imp (pe_callB call_isiT hg (by rw [g.hmg]; exact hk) (by decide +kernel) (pa_cons ha (pa_cons (pe_tup pa) pa_nil hs2) hs) (he := hs) (hpl := hpl)) fun σ H Q hq => ?_
  obtain ⟨F, s, sr, p⟩ := rd_isi hq
  refine ⟨F, s, sr, p.mono ?_⟩
  rintro x H1 ⟨tx, F1, s1, sr1, rx, ns, k⟩
  have el : ms.length = ys.length := by simpa using (congrArg List.length hm).symm
  refine ⟨by rw [List.length_map, el]; exact Nat.le_trans hlen (by decide), fun q hn => ?_⟩
  have gr := Grow.put (o := .tup (ms.map V.ty)) sr1.sub hn
  obtain ⟨t, h1, h2⟩ := ty_any ho gr.sub rx ns
  exact ⟨x, q, ms.map V.ty, t, ms.map Value.type, _, rfl, upd_same, paired_cls ms, by rw [g.hK]; exact h1, by rw [g.hK]; exact kit_any h2 ys ms hm, k F1 _ gr⟩

/-! ### new lists -/
abbrev rdM (G : Gx) (B : Fr0) (W : WX) (m : M) : TE := fun σ H Q => rd G B W (relM G B σ) (evM m) σ H Q
theorem relM_grow {F H : Hp} {σ : L2.St} {s : Sls} {vs : List V} {ts : List T} {Q : VK} (sr : SR G B F H σ s) (r : Reps G F vs ts) (p : ∀ b F' H', Same F F' → SR G B F' H' σ s → relM G B σ s F' H' b ts → Q b H') : ∀ q, H q = none → Q (.ref q) (upd H q (.lst vs)) := fun q hn => by
  obtain ⟨gr, rm⟩ := relM_new sr hn r
  exact p _ F _ (.refl _) (sr.grow gr) rm
theorem q_disp {fs : Es} (h : PA X es (rd G B W (relEs G) (evEs fs))) : PE X (.List es pos) (rdM G B W (.disp fs)) := by
  refine PE.imp (pe_lst h) fun σ H Q hq => ?_
  obtain ⟨F, s, sr, p⟩ := hq
  simp only [evM] at p
  refine ⟨F, s, sr, (Pst.bind p).mono ?_⟩
  rintro xs H1 ⟨ts, F1, s1, e1, sr1, rx, p1⟩
  simp only [relEs] at rx
  split at p1
  · rename_i hl
    exact ⟨by rw [rx.length, ← big_eq]; exact hl, relM_grow sr1 rx p1⟩
  · exact p1.elim
/-- a new list is given up at once -/
theorem q_frz {m : M} {e : Expr} (h : PE X e (rdM G B W m)) : PE X e (rdE G B W (.frz m)) := by
  refine PE.imp h fun σ H Q hq => ?_
  obtain ⟨F, s, sr, p⟩ := hq
  simp only [evE] at p
  refine ⟨F, s, sr, ?_⟩
  cases hm : evM m s with
  | bad => rw [hm] at p; exact p.elim
  | ex _ _ _ _ => rw [hm] at p; exact p
  | ok ts s1 =>
    rw [hm] at p
    rintro v F1 H1 e1 sr1 ⟨a, rfl, ⟨⟨vs, h1, h2⟩, h3⟩, h4, h5, h6⟩
    have sF : Same F1 (upd F1 a (.lst vs)) := fun b u q => by
      by_cases z : b = a
      · subst z; rw [h3] at q; cases q
      · rw [upd_ne z]; exact q
    have own : ∀ {b : Addr} {us : List T}, b ≠ a → LstAt G F1 H1 b us → LstAt G (upd F1 a (.lst vs)) H1 b us := fun {b us} nb l => by
      obtain ⟨⟨ws, k1, k2⟩, k3⟩ := l
      exact ⟨⟨ws, k1, Reps.mono sF us ws k2⟩, by rw [upd_ne nb]; exact k3⟩
    have sr2 : SR G B (upd F1 a (.lst vs)) H1 σ s1 := by
      refine ⟨fun b u q => ?_, sr1.len, fun j t q => ?_, fun j us q => ?_, fun j us q => ?_, sr1.ne, sr1.fr, sr1.pl, sr1.ph, sr1.f0.trans sF, fun b e' n => ?_, fun i c ns ts e => let ⟨a, cls, d, h1, h2, h3⟩ := sr1.xc i c ns ts e; ⟨a, cls, d, h1, h2, h3.imp id fun z => z.mono sF⟩⟩
      · by_cases z : b = a
        · subst z; rw [upd_same] at q; cases q; exact h1
        · rw [upd_ne z] at q; exact sr1.sub _ _ q
      · obtain ⟨v, k1, k2⟩ := sr1.im j t q
        exact ⟨v, k1, Rep.mono sF t v k2⟩
      · obtain ⟨b, k1, k2, k3⟩ := sr1.mu j us q
        exact ⟨b, k1, own (fun z => by subst z; exact h6 j _ q rfl k1) k2, k3⟩
      · obtain ⟨b, k1, k2, k3⟩ := sr1.mp j us q
        exact ⟨b, k1, own (fun z => by subst z; exact h6 j _ q rfl k1) k2, k3⟩
      · by_cases z : b = a
        · subst z; exact h4
        · rw [upd_ne z] at n; exact sr1.nw b e' n
    refine p _ _ H1 (e1.trans sF) sr2 ?_
    simp only [relE, Rep]
    exact ⟨a, vs, rfl, upd_same, Reps.mono sF ts vs h2⟩
/-- list(e) -/
theorem q_lst (g : Good X G k N sc W) {p : Pos} (hk : G.mg "list" = none) (hl : sc.names.lookup ("list" : Str) = some .globalImplicit) (ha : PE X a (rdE G B W ea)) (hs : starEach [a] X.env = (false, eval a X.env) :: starEach [] X.env) :
    PE X (.Call (.Name "list" p) [a] [] pos) (rdM G B W (.lst ea)) := by
  have hg : Gl X "list" := show X.env.scope.names.lookup ("list" : Str) = some .globalImplicit by rw [g.hsc]; exact hl
  refine PE.imp (pe_callTy call_list_of hg (by rw [g.hmg]; exact hk) (by decide +kernel) (pa_cons ha pa_nil hs) (he := hs)) fun σ H Q hq => ?_
  obtain ⟨F, s, sr, p⟩ := hq
  simp only [evM] at p
  refine ⟨F, s, sr, (Pst.bind p).mono ?_⟩
  rintro x H1 ⟨tx, F1, s1, e1, sr1, rx, p1⟩
  cases hi : items tx with
  | none => rw [hi] at p1; exact p1.elim
  | some ts =>
    rw [hi] at p1
    simp only [relE] at rx
    rcases items_cases hi with rfl | rfl | rfl
    · simp only [Rep] at rx
      obtain ⟨a, vs, rfl, h2, h3⟩ := rx
      exact ⟨a, vs, rfl, .inl (.inl (.inl (sr1.sub _ _ h2))), relM_grow sr1 h3 p1⟩
    · simp only [Rep] at rx
      obtain ⟨a, vs, rfl, h2, h3⟩ := rx
      exact ⟨a, vs, rfl, .inr (by rw [g.hK]; exact sameSqT sr1.sub h2), relM_grow sr1 h3 p1⟩
    · simp only [Rep] at rx
      obtain ⟨a, vs, rfl, h2, h3⟩ := rx
      exact ⟨a, vs, rfl, .inl (by rw [g.hK]; exact sr1.sub.seq h2), relM_grow sr1 h3 p1⟩
theorem q_lstB (g : Good X G k N sc W) {p : Pos} (hk : G.mg "list" = none) (hl : sc.names.lookup ("list" : Str) = some .globalImplicit) (hi : N[i]? = some x) (hv : Vis sc x) (hd : (x == ("__debug__" : Str)) = false) (hcd : (x == ("__classdict__" : Str)) = false) :
    PE X (.Call (.Name "list" p) [.Name x px] [] pos) (rdM G B W (.lstB i)) := by
  have hg : Gl X "list" := show X.env.scope.names.lookup ("list" : Str) = some .globalImplicit by rw [g.hsc]; exact hl
  refine PE.imp (pe_callTy call_list_of hg (by rw [g.hmg]; exact hk) (by decide +kernel) (pa_cons (pe_var (i := i) (by rw [g.hN]; exact hi) (by rw [g.hsc]; exact hv) hd hcd) pa_nil)) fun σ H Q hq => ?_
  obtain ⟨F, s, sr, p⟩ := hq
  simp only [evM] at p
  cases ho : ownAt s i with
  | none => rw [ho] at p; exact p.elim
  | some ts =>
    rw [ho] at p
    obtain ⟨a, y, h1, h2, h3, ⟨⟨vs, h4, h5⟩, h6⟩⟩ := own_at sr ho
    exact ⟨.ref a, h3, a, vs, rfl, .inl (.inl (.inl h4)), relM_grow sr h5 p⟩
theorem q_cat (ha : PE X a (rdE G B W ea)) (hb : PE X b (rdE G B W eb)) : PE X (.BinOp a .Add b pos) (rdM G B W (.cat ea eb)) := by
  refine PE.imp (pe_op op_cat ha hb) fun σ H Q hq => ?_
  obtain ⟨F, s, sr, p⟩ := hq
  simp only [evM] at p
  refine ⟨F, s, sr, (Pst.bind p).mono ?_⟩
  rintro x H1 ⟨tx, F1, s1, e1, sr1, rx, p1⟩
  refine ⟨F1, s1, sr1, (Pst.bind p1).mono ?_⟩
  rintro y H2 ⟨ty, F2, s2, e2, sr2, ry, p2⟩
  split at p2
  · simp only [relE, Rep] at rx ry
    obtain ⟨a, vs, rfl, h2, h3⟩ := rx
    obtain ⟨b, ws, rfl, k2, k3⟩ := ry
    split at p2
    · rename_i hl
      exact ⟨a, b, vs, ws, rfl, rfl, sr2.sub _ _ (e2 _ _ h2), sr2.sub _ _ k2, by rw [h3.length, k3.length, ← big_eq]; exact hl, relM_grow sr2 (Reps.append (Reps.mono e2 _ _ h3) k3) p2⟩
    · exact p2.elim
  · exact p2.elim
theorem reps_rep {F : Hp} {vs : List V} {ts : List T} (h : Reps G F vs ts) : ∀ n : Nat, Reps G F (List.replicate n vs).flatten (List.replicate n ts).flatten
  | 0 => by simp [Reps]
  | n + 1 => by
    simp only [List.replicate_succ, List.flatten_cons]
    exact Reps.append h (reps_rep h n)
theorem q_rep (ha : PE X a (rdE G B W ea)) (hb : PE X b (rdE G B W eb)) : PE X (.BinOp a .Mult b pos) (rdM G B W (.rep ea eb)) := by
  refine PE.imp (pe_op op_rep ha hb) fun σ H Q hq => ?_
  obtain ⟨F, s, sr, p⟩ := hq
  simp only [evM] at p
  refine ⟨F, s, sr, (Pst.bind p).mono ?_⟩
  rintro x H1 ⟨tx, F1, s1, e1, sr1, rx, p1⟩
  refine ⟨F1, s1, sr1, (Pst.bind p1).mono ?_⟩
  rintro y H2 ⟨ty, F2, s2, e2, sr2, ry, p2⟩
  split at p2
  · simp only [relE, Rep] at rx ry
    obtain ⟨a, vs, rfl, h2, h3⟩ := rx
    subst ry
    split at p2
    · rename_i hl
      exact ⟨a, _, vs, rfl, rfl, sr2.sub _ _ (e2 _ _ h2), hl.1, hl.2.1, by rw [h3.length, ← big_eq]; exact hl.2.2, relM_grow sr2 (reps_rep (Reps.mono e2 _ _ h3) _) p2⟩
    · exact p2.elim
  · exact p2.elim
theorem q_slcM {lo hi : Option Expr} {el eh : Oe} {p2 : Pos} (ha : PE X a (rdE G B W ea)) (hl : PO X lo (rd G B W relO (evO el))) (hh : PO X hi (rd G B W relO (evO eh))) : PE X (.Subscript a (.Slice lo hi none p2) pos) (rdM G B W (.slc ea el eh)) := by
  refine PE.imp (pe_slice sl_list ha hl hh) fun σ H Q hq => ?_
  refine rd_sl (f := fun x l h s => match x with
    | .lst ts => .ok (cutT ts l h) s
    | _ => .bad) (rel := relM G B σ) ?_ ?_
  · intro F H s x tx l h sr rx p
    cases tx with
    | lst ts =>
      simp only [Rep] at rx
      obtain ⟨a, vs, rfl, h2, h3⟩ := rx
      exact ⟨a, vs, rfl, .inl (.inl (sr.sub _ _ h2)), relM_grow sr (cut_reps h3 l h) p⟩
    | _ => exact p.elim
  · obtain ⟨F, s, sr, p⟩ := hq
    simp only [evM] at p
    exact ⟨F, s, sr, p⟩
end
end FL

/-! FL9: calls of the program's own defs. -/
namespace FL
open PySem PySem.Spec L2

/-- what a call leaves: o is the list that it changes -/
structure CallPost (G : Gx) (H : Hp) (pa : Option Addr) (F F' H' : Hp) (o : List T) : Prop where
  ff : Same F F'
  sub : Same F' H'
  fr : ∀ b u, H b = some u → pa ≠ some b → H' b = some u
  new : ∀ b, F b = none → F' b ≠ none → H b = none
  mp : ∀ a, pa = some a → LstAt G F' H' a o
def RetR (G : Gx) (fresh : Bool) (H : Hp) (pa : Option Addr) (F' H' : Hp) (v : V) (t : T) : Prop :=
  if fresh = true then ∃ a us, v = .ref a ∧ t = .lst us ∧ LstAt G F' H' a us ∧ H a = none ∧ pa ≠ some a else Rep G F' v t
/-- a def's promise by its meaning -/
def spF (G : Gx) (g : FS) : Sp := fun vs H Q E => ∃ F ts s0 pa, startS g.mu ts 0 = some s0 ∧ SR G ⟨H, pa, F, none⟩ F H (vs.map some) s0 ∧ (g.mu = none → pa = none) ∧
  (match g.sem ts with
  | .ok t o => ∀ v F' H', CallPost G H pa F F' H' o → RetR G g.fresh H pa F' H' v t → Q v H'
  | .ex c ns es o => ∀ cls d F' H', CallPost G H pa F F' H' o → ExR G F' cls d c ns es → E cls d H'
  | .bad => False)
/-- the def keeps it -/
structure HasFn (G : Gx) (k : Nat) (g : FS) (ds : List T) : Prop where
  ex : ∃ (f : Addr) (fd : FuncData) (ps : List Str) (dvs : List V) (dsv : List Value), G.mg g.name = some (.ref f) ∧ FnOk G.P G.w G.K G.mg G.base (L2.CX G.P G.w) k f fd ps (spF G g) ∧ PySem.W.keepIn G.K (.ref f) = true ∧
    Binds G.K fd ps dsv ∧ Vals dvs dsv ∧ ∀ F : Hp, Reps G F dvs ds

/-! ### arguments -/
def RelA (G : Gx) (F : Hp) (σ : L2.St) : List V → List AV → Prop
  | vs, [] => vs = []
  | vs, .v t :: r => ∃ v vr, vs = v :: vr ∧ Rep G F v t ∧ RelA G F σ vr r
  | vs, .r i :: r => ∃ v vr, vs = v :: vr ∧ σ[i]? = some (some v) ∧ RelA G F σ vr r
theorem RelA.mono {G : Gx} {F F' : Hp} {σ : L2.St} (e : Same F F') : ∀ {avs : List AV} {vs : List V}, RelA G F σ vs avs → RelA G F' σ vs avs
  | [], vs, h => h
  | .v t :: r, vs, h => by
    obtain ⟨v, vr, h1, h2, h3⟩ := h
    exact ⟨v, vr, h1, Rep.mono e _ _ h2, RelA.mono e h3⟩
  | .r i :: r, vs, h => by
    obtain ⟨v, vr, h1, h2, h3⟩ := h
    exact ⟨v, vr, h1, h2, RelA.mono e h3⟩
section
variable {X : Cx} {G : Gx} {B : Fr0} {W : WX} {k : Option Nat} {N : List Str} {sc : Scope} {pos : Pos}
variable {a b c : Expr} {ea eb ec : E} {es : List Expr}
def relA (G : Gx) (σ : L2.St) : Sls → Hp → Hp → List V → List AV → Prop := fun _ F _ vs avs => RelA G F σ vs avs
abbrev rdA (G : Gx) (B : Fr0) (W : WX) (as : As) : TA := fun σ H Q => rd G B W (relA G σ) (evAs as) σ H Q
theorem q_an : PA X [] (rdA G B W .nil) := by
  refine PA.imp pa_nil fun σ H Q hq => ?_
  obtain ⟨F, s, sr, p⟩ := hq
  simp only [evAs] at p
  exact p [] F H (.refl _) sr rfl
theorem q_ae {as : As} (ha : PE X a (rdE G B W ea)) (hr : PA X es (rdA G B W as)) (hs : starEach (a :: es) X.env = (false, eval a X.env) :: starEach es X.env) : PA X (a :: es) (rdA G B W (.e ea as)) := by
  refine PA.imp (pa_cons ha hr hs) fun σ H Q hq => ?_
  obtain ⟨F, s, sr, p⟩ := hq
  simp only [evAs] at p
  refine ⟨F, s, sr, (Pst.bind p).mono ?_⟩
  rintro x H1 ⟨tx, F1, s1, e1, sr1, rx, p1⟩
  refine ⟨F1, s1, sr1, (Pst.bind p1).mono ?_⟩
  rintro xs H2 ⟨txs, F2, s2, e2, sr2, rxs, p2⟩
  exact p2 (x :: xs) F2 H2 (.refl _) sr2 ⟨x, xs, rfl, Rep.mono e2 _ _ rx, rxs⟩
theorem q_ab (g : Good X G k N sc W) {as : As} {i : Nat} {x : Str} {px : Pos} (hi : N[i]? = some x) (hv : Vis sc x) (hd : (x == ("__debug__" : Str)) = false) (hcd : (x == ("__classdict__" : Str)) = false) (hr : PA X es (rdA G B W as))
    (hs : starEach (.Name x px :: es) X.env = (false, eval (.Name x px) X.env) :: starEach es X.env) : PA X (.Name x px :: es) (rdA G B W (.b i as)) := by
  refine PA.imp (pa_cons (pe_var (i := i) (by rw [g.hN]; exact hi) (by rw [g.hsc]; exact hv) hd hcd) hr hs) fun σ H Q hq => ?_
  obtain ⟨F, s, sr, p⟩ := hq
  simp only [evAs] at p
  split at p
  · rename_i ts ho
    obtain ⟨ad, y, h1, h2, h3, _⟩ := own_at sr ho
    refine ⟨.ref ad, h3, F, s, sr, (Pst.bind p).mono ?_⟩
    rintro xs H2 ⟨txs, F2, s2, e2, sr2, rxs, p2⟩
    exact p2 (.ref ad :: xs) F2 H2 (.refl _) sr2 ⟨_, xs, rfl, h3, rxs⟩
  · exact p.elim

/-! ### the callee's slots, from the caller's -/
/-- which addresses are lent -/
def LentAt (σ : L2.St) (l : List Nat) (a : Addr) : Prop := ∃ i ∈ l, σ[i]? = some (some (.ref a))
theorem lent_own {F H : Hp} {σ : L2.St} {s : Sls} (sr : SR G B F H σ s) : ∀ {avs : List AV} {vs : List V} {ts : List T} {n : Nat} {m : Option Nat}, RelA G F σ vs avs → fill avs s = some ts → ∀ i ∈ lent avs n m, ∃ us a, ownAt s i = some us ∧ σ[i]? = some (some (.ref a)) ∧ LstAt G F H a us
  | [], _, _, _, _, _, _, i, hi => by simp [lent] at hi
  | .v t :: r, vs, ts, n, m, h, f, i, hi => by
    obtain ⟨v, vr, h1, h2, h3⟩ := h
    unfold fill at f
    cases e : fill r s with
    | none => rw [e] at f; cases f
    | some us => exact lent_own sr h3 e i (by simpa only [lent] using hi)
  | .r j :: r, vs, ts, n, m, h, f, i, hi => by
    obtain ⟨v, vr, h1, h2, h3⟩ := h
    unfold fill at f
    cases o : ownAt s j with
    | none => rw [o] at f; cases f
    | some ws =>
      rw [o] at f
      cases e : fill r s with
      | none => simp only [e] at f; cases f
      | some us =>
        unfold lent at hi
        split at hi
        · exact lent_own sr h3 e i hi
        · rcases List.mem_cons.mp hi with rfl | hi
          · obtain ⟨a, y, k1, k2, k3, k4⟩ := own_at sr o
            exact ⟨ws, a, o, k3, k4⟩
          · exact lent_own sr h3 e i hi
/-- the slot that is changed -/
theorem mu_own {F H : Hp} {σ : L2.St} {s : Sls} (sr : SR G B F H σ s) : ∀ {avs : List AV} {vs : List V} {ts : List T} {p : Nat} {i : Nat}, RelA G F σ vs avs → fill avs s = some ts → avs[p]? = some (.r i) → ∃ us a, ownAt s i = some us ∧ σ[i]? = some (some (.ref a)) ∧ LstAt G F H a us ∧ vs[p]? = some (.ref a) ∧ ts[p]? = some (.lst us)
  | [], _, _, _, _, _, _, e => by simp at e
  | .v t :: r, vs, ts, 0, i, h, f, e => by simp at e
  | .v t :: r, vs, ts, p + 1, i, h, f, e => by
    obtain ⟨v, vr, rfl, h2, h3⟩ := h
    unfold fill at f
    cases ef : fill r s with
    | none => rw [ef] at f; cases f
    | some us =>
      rw [ef] at f
      cases f
      obtain ⟨ws, a, k1, k2, k3, k4, k5⟩ := mu_own sr (p := p) (i := i) h3 ef (by simpa using e)
      exact ⟨ws, a, k1, k2, k3, by simpa using k4, by simpa using k5⟩
  | .r j :: r, vs, ts, 0, i, h, f, e => by
    obtain ⟨v, vr, rfl, h2, h3⟩ := h
    simp at e
    subst e
    unfold fill at f
    cases o : ownAt s j with
    | none => rw [o] at f; cases f
    | some ws =>
      rw [o] at f
      cases ef : fill r s with
      | none => simp only [ef] at f; cases f
      | some us =>
        simp only [ef] at f
        cases f
        obtain ⟨a, y, k1, k2, k3, k4⟩ := own_at sr o
        rw [h2] at k3
        cases k3
        exact ⟨ws, a, rfl, h2, k4, rfl, rfl⟩
  | .r j :: r, vs, ts, p + 1, i, h, f, e => by
    obtain ⟨v, vr, rfl, h2, h3⟩ := h
    unfold fill at f
    cases o : ownAt s j with
    | none => rw [o] at f; cases f
    | some ws =>
      rw [o] at f
      cases ef : fill r s with
      | none => simp only [ef] at f; cases f
      | some us =>
        simp only [ef] at f
        cases f
        obtain ⟨ws', a, k1, k2, k3, k4, k5⟩ := mu_own sr (p := p) (i := i) h3 ef (by simpa using e)
        exact ⟨ws', a, k1, k2, k3, by simpa using k4, by simpa using k5⟩
/-- the slots at the callee's entry: the values' trees stand, the changed list is there -/
structure ArgR (G : Gx) (F H : Hp) (m : Option Nat) (pa : Option Addr) (n : Nat) (vs : List V) (ts : List T) : Prop where
  len : vs.length = ts.length
  im : ∀ (i : Nat) (t : T), ts[i]? = some t → m ≠ some (n + i) → ∃ v, vs[i]? = some v ∧ Rep G F v t
  mp : ∀ (i : Nat) (t : T), ts[i]? = some t → m = some (n + i) → ∃ a us, vs[i]? = some (.ref a) ∧ t = .lst us ∧ LstAt G F H a us ∧ pa = some a
end
theorem RelA.len {F : Hp} {σ : L2.St} : ∀ {avs : List AV} {vs : List V}, RelA G F σ vs avs → vs.length = avs.length
  | [], vs, h => by have h : vs = [] := h; subst h; rfl
  | .v t :: r, vs, h => by
    obtain ⟨v, vr, rfl, h2, h3⟩ := h
    simp [RelA.len h3]
  | .r i :: r, vs, h => by
    obtain ⟨v, vr, rfl, h2, h3⟩ := h
    simp [RelA.len h3]
theorem RelA.get {F : Hp} {σ : L2.St} : ∀ {avs : List AV} {vs : List V} {i : Nat} {av : AV}, RelA G F σ vs avs → avs[i]? = some av → ∃ v, vs[i]? = some v ∧ (match av with | .v t => Rep G F v t | .r j => σ[j]? = some (some v))
  | [], vs, i, av, h, e => by simp at e
  | .v t :: r, vs, 0, av, h, e => by
    obtain ⟨v, vr, rfl, h2, h3⟩ := h
    simp at e
    subst e
    exact ⟨v, rfl, h2⟩
  | .v t :: r, vs, i + 1, av, h, e => by
    obtain ⟨v, vr, rfl, h2, h3⟩ := h
    obtain ⟨w, k1, k2⟩ := RelA.get (i := i) h3 (by simpa using e)
    exact ⟨w, by simpa using k1, k2⟩
  | .r j :: r, vs, 0, av, h, e => by
    obtain ⟨v, vr, rfl, h2, h3⟩ := h
    simp at e
    subst e
    exact ⟨v, rfl, h2⟩
  | .r j :: r, vs, i + 1, av, h, e => by
    obtain ⟨v, vr, rfl, h2, h3⟩ := h
    obtain ⟨w, k1, k2⟩ := RelA.get (i := i) h3 (by simpa using e)
    exact ⟨w, by simpa using k1, k2⟩
theorem fill_get {s : Sls} : ∀ {avs : List AV} {ts : List T}, fill avs s = some ts → ts.length = avs.length ∧ ∀ (i : Nat) (t : T), ts[i]? = some t → ∃ av, avs[i]? = some av ∧ (av = .v t ∨ ∃ j us, av = .r j ∧ ownAt s j = some us ∧ t = .lst us)
  | [], ts, h => by
    simp only [fill, Option.some.injEq] at h
    subst h
    exact ⟨rfl, fun i t e => by simp at e⟩
  | .v t :: r, ts, h => by
    unfold fill at h
    cases e : fill r s with
    | none => rw [e] at h; cases h
    | some us =>
      rw [e] at h
      cases h
      obtain ⟨k1, k2⟩ := fill_get e
      refine ⟨by simp [k1], fun i u q => ?_⟩
      cases i with
      | zero =>
        simp at q
        subst q
        exact ⟨_, rfl, .inl rfl⟩
      | succ i =>
        obtain ⟨av, a1, a2⟩ := k2 i u (by simpa using q)
        exact ⟨av, by simpa using a1, a2⟩
  | .r j :: r, ts, h => by
    unfold fill at h
    cases o : ownAt s j with
    | none => rw [o] at h; cases h
    | some ws =>
      rw [o] at h
      cases e : fill r s with
      | none => simp only [e] at h; cases h
      | some us =>
        simp only [e] at h
        cases h
        obtain ⟨k1, k2⟩ := fill_get e
        refine ⟨by simp [k1], fun i u q => ?_⟩
        cases i with
        | zero =>
          simp at q
          subst q
          exact ⟨_, rfl, .inr ⟨j, ws, rfl, o, rfl⟩⟩
        | succ i =>
          obtain ⟨av, a1, a2⟩ := k2 i u (by simpa using q)
          exact ⟨av, by simpa using a1, a2⟩
theorem lent_mem : ∀ {avs : List AV} {n : Nat} {m : Option Nat} {i j : Nat}, avs[i]? = some (.r j) → m ≠ some (n + i) → j ∈ lent avs n m
  | [], _, _, _, _, e, _ => by simp at e
  | .v t :: r, n, m, 0, j, e, _ => by simp at e
  | .v t :: r, n, m, i + 1, j, e, h => by
    unfold lent
    exact lent_mem (i := i) (by simpa using e) (by rw [show n + 1 + i = n + (i + 1) by omega]; exact h)
  | .r q :: r, n, m, 0, j, e, h => by
    simp at e
    subst e
    unfold lent
    rw [if_neg (by simpa using h)]
    exact List.mem_cons_self
  | .r q :: r, n, m, i + 1, j, e, h => by
    unfold lent
    have z := lent_mem (avs := r) (n := n + 1) (m := m) (i := i) (j := j) (by simpa using e) (by rw [show n + 1 + i = n + (i + 1) by omega]; exact h)
    split
    · exact z
    · exact List.mem_cons_of_mem _ z
/-- the callee's slots -/
theorem start_slots {m : Option Nat} : ∀ {ts : List T} {n : Nat}, (∀ (i : Nat) (t : T), ts[i]? = some t → m = some (n + i) → ∃ us, t = .lst us) → ∃ s0, startS m ts n = some s0 ∧ s0.length = ts.length ∧
    ∀ (i : Nat) (x : Sl), s0[i]? = some x → (m ≠ some (n + i) ∧ ∃ t, x = .im t ∧ ts[i]? = some t) ∨ (m = some (n + i) ∧ ∃ us, x = .mp us ∧ ts[i]? = some (.lst us))
  | [], n, h => ⟨[], rfl, rfl, fun i x e => by simp at e⟩
  | t :: ts, n, h => by
    obtain ⟨s1, h1, h2, h3⟩ := start_slots (m := m) (ts := ts) (n := n + 1) fun i u e q => h (i + 1) u (by simpa using e) (by rw [q, show n + 1 + i = n + (i + 1) by omega])
    unfold startS
    by_cases hm : m = some n
    · obtain ⟨us, rfl⟩ := h 0 t rfl hm
      rw [if_pos hm, h1]
      refine ⟨.mp us :: s1, rfl, by simp [h2], fun i x e => ?_⟩
      cases i with
      | zero =>
        simp at e
        subst e
        exact .inr ⟨hm, us, rfl, rfl⟩
      | succ i =>
        rcases h3 i x (by simpa using e) with ⟨k1, u, k2, k3⟩ | ⟨k1, u, k2, k3⟩
        · exact .inl ⟨by rw [show n + (i + 1) = n + 1 + i by omega]; exact k1, u, k2, by simpa using k3⟩
        · exact .inr ⟨by rw [show n + (i + 1) = n + 1 + i by omega]; exact k1, u, k2, by simpa using k3⟩
    · rw [if_neg hm, h1]
      refine ⟨.im t :: s1, rfl, by simp [h2], fun i x e => ?_⟩
      cases i with
      | zero =>
        simp at e
        subst e
        exact .inl ⟨hm, t, rfl, rfl⟩
      | succ i =>
        rcases h3 i x (by simpa using e) with ⟨k1, u, k2, k3⟩ | ⟨k1, u, k2, k3⟩
        · exact .inl ⟨by rw [show n + (i + 1) = n + 1 + i by omega]; exact k1, u, k2, by simpa using k3⟩
        · exact .inr ⟨by rw [show n + (i + 1) = n + 1 + i by omega]; exact k1, u, k2, by simpa using k3⟩
theorem ArgR.start {F H : Hp} {m : Option Nat} {pa : Option Addr} {vs : List V} {ts : List T} (h : ArgR G F H m pa 0 vs ts) (sub : Same F H) (hpa : ∀ a, pa = some a → ∃ ws, H a = some (.lst ws)) :
    ∃ s0, startS m ts 0 = some s0 ∧ SR G ⟨H, pa, F, none⟩ F H (vs.map some) s0 := by
  obtain ⟨s0, h1, h2, h3⟩ := start_slots (m := m) (ts := ts) (n := 0) fun i t e q => by
    obtain ⟨a, us, _, k2, _⟩ := h.mp i t e q
    exact ⟨us, k2⟩
  have hv : ∀ (i : Nat) (v : V), vs[i]? = some v → (vs.map some)[i]? = some (some v) := fun i v e => by
    rw [List.getElem?_map, e]
    rfl
  refine ⟨s0, h1, sub, by rw [h2, List.length_map, h.len], fun i t e => ?_, fun i us e => ?_, fun i us e => ?_, fun i j x y a b ne ei ej ox oy ha hb => ?_, fun b o e _ => e, hpa, fun a e => ?_, .refl _, fun b e n => (n e).elim, fun i c ns ts e => by
    rcases h3 i _ e with ⟨_, u, k2, _⟩ | ⟨_, u, k2, _⟩ <;> cases k2⟩
  · rcases h3 i _ e with ⟨k1, u, k2, k3⟩ | ⟨_, u, k2, _⟩
    · cases k2
      obtain ⟨v, q1, q2⟩ := h.im i t k3 k1
      exact ⟨v, hv i v q1, q2⟩
    · cases k2
  · rcases h3 i _ e with ⟨_, u, k2, _⟩ | ⟨_, u, k2, _⟩ <;> cases k2
  · rcases h3 i _ e with ⟨_, u, k2, _⟩ | ⟨k1, u, k2, k3⟩
    · cases k2
    · cases k2
      obtain ⟨a, us', q1, q2, q3, q4⟩ := h.mp i _ k3 k1
      cases q2
      exact ⟨a, hv i _ q1, q3, q4⟩
  · rcases h3 i _ ei with ⟨_, u, k2, _⟩ | ⟨k1, _⟩
    · subst k2; cases ox
    · rcases h3 j _ ej with ⟨_, u, k2, _⟩ | ⟨k1', _⟩
      · subst k2; cases oy
      · rw [k1] at k1'
        simp at k1'
        exact (ne k1').elim
  · obtain ⟨ws, q⟩ := hpa a e
    show H a ≠ none
    rw [q]
    exact fun z => by cases z
/-- the arguments, as the callee sees them -/
theorem argR_of {F H : Hp} {σ : L2.St} {s : Sls} {avs : List AV} {vs dvs : List V} {ts ds : List T} {m : Option Nat} {mi : Option Nat} (sr : SR G B F H σ s) (ra : RelA G F σ vs avs) (hf : fill avs s = some ts) (hm : muAt avs m = some mi) (hc : ∀ i, mi = some i → i ∉ lent avs 0 m) (hd : ∀ F : Hp, Reps G F dvs ds) :
    ∃ pa : Option Addr, ArgR G (lend F H (LentAt σ (lent avs 0 m))) H m pa 0 (vs ++ dvs) (ts ++ ds) ∧ (mi = none → pa = none) ∧ (∀ i, mi = some i → ∃ us a, ownAt s i = some us ∧ σ[i]? = some (some (.ref a)) ∧ LstAt G F H a us ∧ pa = some a) := by
  have hp : ∀ a, LentAt σ (lent avs 0 m) a → F a = none ∧ ∃ ws, H a = some (.lst ws) := fun a ⟨i, hi, e⟩ => by
    obtain ⟨us, a', k1, k2, ⟨⟨ws, k3, _⟩, k4⟩⟩ := lent_own sr ra hf i hi
    rw [e] at k2
    cases k2
    exact ⟨k4, ws, k3⟩
  obtain ⟨fl, fg⟩ := fill_get hf
  have vl := ra.len
  have hdl : dvs.length = ds.length := (hd F).length
  -- the values that are not the changed list
  have im : ∀ (i : Nat) (t : T), (ts ++ ds)[i]? = some t → m ≠ some (0 + i) → ∃ v, (vs ++ dvs)[i]? = some v ∧ Rep G (lend F H (LentAt σ (lent avs 0 m))) v t := fun i t e nm => by
    by_cases hi : i < ts.length
    · rw [List.getElem?_append_left hi] at e
      obtain ⟨av, a1, a2⟩ := fg i t e
      obtain ⟨v, b1, b2⟩ := ra.get a1
      refine ⟨v, by rw [List.getElem?_append_left (by omega)]; exact b1, ?_⟩
      rcases a2 with rfl | ⟨j, us, rfl, o, rfl⟩
      · exact Rep.mono (lend_sub hp) _ _ b2
      · have hj := lent_mem (n := 0) (m := m) a1 nm
        obtain ⟨us', a, k1, k2, ⟨⟨ws, k3, k4⟩, k5⟩⟩ := lent_own sr ra hf j hj
        rw [o] at k1
        cases k1
        have b2 : σ[j]? = some (some v) := b2
        rw [b2] at k2
        cases k2
        simp only [Rep]
        exact ⟨a, ws, rfl, lend_at ⟨j, hj, b2⟩ k3, Reps.mono (lend_sub hp) _ _ k4⟩
    · have e' : ds[i - ts.length]? = some t := by rw [List.getElem?_append_right (by omega)] at e; exact e
      obtain ⟨v, b1, b2⟩ := (hd (lend F H (LentAt σ (lent avs 0 m)))).get e'
      exact ⟨v, by rw [List.getElem?_append_right (by omega), show i - vs.length = i - ts.length by omega]; exact b1, b2⟩
  have len : (vs ++ dvs).length = (ts ++ ds).length := by
    rw [List.length_append, List.length_append]
    omega
  unfold muAt at hm
  cases m with
  | none =>
    cases hm
    exact ⟨none, ⟨len, im, fun i t _ q => by cases q⟩, fun _ => rfl, fun i q => by cases q⟩
  | some p =>
    simp only at hm
    split at hm
    · rename_i i e
      cases hm
      obtain ⟨us, a, k1, k2, k3, k4, k5⟩ := mu_own sr ra hf e
      refine ⟨some a, ⟨len, im, fun j t q z => ?_⟩, ⟨(fun z => nomatch z), fun j z => ?_⟩⟩
      case refine_2 =>
        cases z
        exact ⟨us, a, k1, k2, k3, rfl⟩
      simp at z
      subst z
      have hpl : p < ts.length := (List.getElem?_eq_some_iff.mp k5).1
      rw [List.getElem?_append_left hpl, k5] at q
      cases q
      refine ⟨a, us, by rw [List.getElem?_append_left (by omega)]; exact k4, rfl, ?_, rfl⟩
      obtain ⟨⟨ws, q1, q2⟩, q3⟩ := k3
      refine ⟨⟨ws, q1, Reps.mono (lend_sub hp) _ _ q2⟩, ?_⟩
      unfold lend
      rw [if_neg]
      · exact q3
      · rintro ⟨j, hj, ej⟩
        obtain ⟨us', a', r1, r2, _⟩ := lent_own sr ra hf j hj
        have nij : i ≠ j := fun z => by subst z; exact hc i rfl hj
        obtain ⟨_, x1, u1, u2, _⟩ := own_at sr k1
        obtain ⟨_, x2, w1, w2, _⟩ := own_at sr r1
        exact sr.ne i j x1 x2 a a nij u1 w1 (by rw [u2]; rfl) (by rw [w2]; rfl) k2 ej rfl
    · cases hm

section
variable {X : Cx} {G : Gx} {B : Fr0} {W : WX} {k : Option Nat} {N : List Str} {sc : Scope} {pos : Pos} {F H F' H' : Hp} {σ : L2.St} {s : Sls} {l : List Nat}
theorem unlend_nil {p : Addr → Prop} (h : ∀ a, ¬ p a) : Same F' (unlend F' p) := fun b u q => by
  unfold FL.unlend FL.less
  rw [if_neg (h b)]
  exact q
theorem reps_un {ts : List T} {vs : List V} (hk : ∀ a, LentAt σ l a → ∃ vs, F' a = some (.lst vs)) (h : l = [] ∨ noLs ts = true) (r : Reps G F' vs ts) : Reps G (unlend F' (LentAt σ l)) vs ts := by
  rcases h with rfl | h
  · exact Reps.mono (unlend_nil fun a ⟨i, hi, _⟩ => by simp at hi) _ _ r
  · exact Reps.unlend hk h r
theorem rep_un {t : T} {v : V} (hk : ∀ a, LentAt σ l a → ∃ vs, F' a = some (.lst vs)) (h : l = [] ∨ noL t = true) (r : Rep G F' v t) : Rep G (unlend F' (LentAt σ l)) v t := by
  rcases h with rfl | h
  · exact Rep.mono (unlend_nil fun a ⟨i, hi, _⟩ => by simp at hi) _ _ r
  · exact Rep.unlend hk h r
theorem unlend_none {p : Addr → Prop} {b : Addr} (h : p b ∨ F' b = none) : unlend F' p b = none := by
  unfold FL.unlend FL.less
  by_cases z : p b
  · rw [if_pos z]
  · rw [if_neg z]
    rcases h with h | h
    · exact (z h).elim
    · exact h
theorem unlend_some {p : Addr → Prop} {b : Addr} {u : HO} (h : unlend F' p b = some u) : ¬ p b ∧ F' b = some u := by
  unfold FL.unlend FL.less at h
  by_cases z : p b
  · rw [if_pos z] at h; cases h
  · rw [if_neg z] at h; exact ⟨z, h⟩
theorem SR.called {pa : Option Addr} {o : List T} {mi : Option Nat} (sr : SR G B F H σ s) (hp : ∀ a, LentAt σ l a → F a = none ∧ ∃ ws, H a = some (.lst ws)) (cp : CallPost G H pa (lend F H (LentAt σ l)) F' H' o)
    (hm0 : mi = none → pa = none) (hm1 : ∀ i, mi = some i → ∃ us a, ownAt s i = some us ∧ σ[i]? = some (some (.ref a)) ∧ LstAt G F H a us ∧ pa = some a) (ho : l = [] ∨ noLs o = true) :
    Same F (unlend F' (LentAt σ l)) ∧ SR G B (unlend F' (LentAt σ l)) H' σ (putMi s o mi) := by
  have hk : ∀ a, LentAt σ l a → ∃ vs, F' a = some (.lst vs) := fun a z => by
    obtain ⟨_, ws, h⟩ := hp a z
    exact ⟨ws, cp.ff _ _ (lend_at z h)⟩
  have nl : ∀ {b : Addr}, ¬ LentAt σ l b → lend F H (LentAt σ l) b = F b := fun {b} z => by unfold lend; rw [if_neg z]
  have sF : Same F (unlend F' (LentAt σ l)) := fun b u q => by
    have z : ¬ LentAt σ l b := fun z => by rw [(hp b z).1] at q; cases q
    unfold FL.unlend FL.less
    rw [if_neg z]
    exact cp.ff _ _ (by rw [nl z]; exact q)
  have sH : Same (unlend F' (LentAt σ l)) H' := fun b u q => cp.sub _ _ (unlend_some q).2
  -- a free place of F that is taken now was free
  have nw : ∀ b, F b = none → unlend F' (LentAt σ l) b ≠ none → H b = none := fun b e n => by
    cases q : unlend F' (LentAt σ l) b with
    | none => exact (n q).elim
    | some u =>
      obtain ⟨z, q'⟩ := unlend_some q
      exact cp.new b (by rw [nl z]; exact e) (by rw [q']; exact fun z => by cases z)
  have out : ∀ {b : Addr} {us : List V}, F b = none → H b = some (.lst us) → unlend F' (LentAt σ l) b = none := fun {b us} e h => by
    cases q : unlend F' (LentAt σ l) b with
    | none => rfl
    | some u =>
      have z := nw b e (by rw [q]; exact fun z => by cases z)
      rw [h] at z
      cases z
  have own : ∀ {b : Addr} {us : List T}, pa ≠ some b → LstAt G F H b us → LstAt G (unlend F' (LentAt σ l)) H' b us := fun {b us} nb h => by
    obtain ⟨⟨ws, k1, k2⟩, k3⟩ := h
    exact ⟨⟨ws, cp.fr _ _ k1 nb, Reps.mono sF _ _ k2⟩, out k3 k1⟩
  have frame : ∀ b u, B.H0 b = some u → B.pa ≠ some b → H' b = some u := fun b u q n => by
    refine cp.fr _ _ (sr.fr b u q n) fun z => ?_
    cases mi with
    | none => rw [hm0 rfl] at z; cases z
    | some i =>
      obtain ⟨us, a, k1, k2, _, k4⟩ := hm1 i rfl
      rw [k4] at z
      cases z
      obtain ⟨_, x, u1, u2, u3, _⟩ := own_at sr k1
      obtain ⟨a', w1, _, w3⟩ := sr.own u1 u2
      rw [k2] at w1
      cases w1
      rcases w3 with w3 | w3
      · rw [w3] at q; cases q
      · exact n w3
  refine ⟨sF, ?_⟩
  -- the slots that stay
  have stay : (∀ i, mi = some i → False) → SR G B (unlend F' (LentAt σ l)) H' σ s := fun hn => by
    have pn : pa = none := by
      cases mi with
      | none => exact hm0 rfl
      | some i => exact (hn i rfl).elim
    subst pn
    refine ⟨sH, sr.len, fun i t e => ?_, fun i us e => ?_, fun i us e => ?_, sr.ne, frame, fun a e => ?_, sr.ph, sr.f0.trans sF, fun b e n => ?_, fun i c ns ts e => let ⟨a, cls, d, h1, h2, h3⟩ := sr.xc i c ns ts e; ⟨a, cls, d, h1, h2, h3.imp id fun z => z.mono sF⟩⟩
    · obtain ⟨v, k1, k2⟩ := sr.im i t e
      exact ⟨v, k1, Rep.mono sF _ _ k2⟩
    · obtain ⟨a, k1, k2, k3⟩ := sr.mu i us e
      exact ⟨a, k1, own (fun z => by cases z) k2, k3⟩
    · obtain ⟨a, k1, k2, k3⟩ := sr.mp i us e
      exact ⟨a, k1, own (fun z => by cases z) k2, k3⟩
    · obtain ⟨ws, q⟩ := sr.pl a e
      exact ⟨ws, cp.fr _ _ q fun z => by cases z⟩
    · by_cases q : F b = none
      · exact sr.free0 (nw b q n)
      · exact sr.nw b e q
  cases mi with
  | none => exact stay fun i z => by cases z
  | some i =>
    obtain ⟨us, a, k1, k2, k3, rfl⟩ := hm1 i rfl
    obtain ⟨⟨ws, c1, c2⟩, c3⟩ := cp.mp a rfl
    -- first the heap with the old list in its place, then the write
    obtain ⟨_, x, u1, u2, _, _⟩ := own_at sr k1
    have self : LstAt G (unlend F' (LentAt σ l)) H' a o := ⟨⟨ws, c1, reps_un hk ho c2⟩, unlend_none (.inr c3)⟩
    have hi : i < s.length := (List.getElem?_eq_some_iff.mp u1).1
    have isome : x.own.isSome = true := by rw [u2]; rfl
    have old : ∀ {j : Nat} {y : Sl}, (putOwn s i o)[j]? = some y → (j = i ∧ ((∃ z, x = .mu z ∧ y = .mu o) ∨ (∃ z, x = .mp z ∧ y = .mp o))) ∨ (j ≠ i ∧ s[j]? = some y) := fun {j y} q => by
      unfold putOwn at q
      rw [u1] at q
      by_cases z : j = i
      · subst z
        cases x with
        | un => cases u2
        | im t => cases u2
        | xc _ _ _ => cases u2
        | mu w =>
          have q : (s.set j (.mu o))[j]? = some y := q
          rw [List.getElem?_set_self hi] at q
          exact .inl ⟨rfl, .inl ⟨w, rfl, (Option.some.inj q).symm⟩⟩
        | mp w =>
          have q : (s.set j (.mp o))[j]? = some y := q
          rw [List.getElem?_set_self hi] at q
          exact .inl ⟨rfl, .inr ⟨w, rfl, (Option.some.inj q).symm⟩⟩
      · refine .inr ⟨z, ?_⟩
        cases x with
        | un => exact q
        | im t => exact q
        | xc _ _ _ => exact q
        | mu w =>
          have q : (s.set i (.mu o))[j]? = some y := q
          rw [List.getElem?_set_ne (Ne.symm z)] at q
          exact q
        | mp w =>
          have q : (s.set i (.mp o))[j]? = some y := q
          rw [List.getElem?_set_ne (Ne.symm z)] at q
          exact q
    have lenp : (putOwn s i o).length = s.length := by
      unfold putOwn
      rw [u1]
      cases x <;> simp
    have nb : ∀ {j : Nat} {y : Sl} {b : Addr}, j ≠ i → s[j]? = some y → y.own.isSome = true → σ[j]? = some (some (.ref b)) → (some a : Option Addr) ≠ some b := fun {j y b} nj e oy h z => by
      cases z
      exact sr.ne j i y x a a nj e u1 oy isome h k2 rfl
    show SR G B (unlend F' (LentAt σ l)) H' σ (putOwn s i o)
    refine ⟨sH, by rw [lenp]; exact sr.len, fun j t q => ?_, fun j zs q => ?_, fun j zs q => ?_, fun j k y z b c ne q r ox oy sj sk => ?_, frame, fun b e => ?_, sr.ph, sr.f0.trans sF, fun b e n => ?_, fun j c ns ts q => by
      rcases old q with ⟨_, ⟨_, _, q'⟩ | ⟨_, _, q'⟩⟩ | ⟨_, q'⟩
      · cases q'
      · cases q'
      · obtain ⟨a, cls, d, h1, h2, h3⟩ := sr.xc j c ns ts q'; exact ⟨a, cls, d, h1, h2, h3.imp id fun z => z.mono sF⟩⟩
    · rcases old q with ⟨rfl, ⟨z, _, q'⟩ | ⟨z, _, q'⟩⟩ | ⟨nj, q'⟩
      · cases q'
      · cases q'
      · obtain ⟨v, r1, r2⟩ := sr.im j t q'
        exact ⟨v, r1, Rep.mono sF _ _ r2⟩
    · rcases old q with ⟨rfl, ⟨z, ex, q'⟩ | ⟨z, _, q'⟩⟩ | ⟨nj, q'⟩
      · cases q'
        subst ex
        obtain ⟨b, r1, _, r3⟩ := sr.mu j z u1
        rw [k2] at r1; cases r1
        exact ⟨a, k2, self, r3⟩
      · cases q'
      · obtain ⟨b, r1, r2, r3⟩ := sr.mu j zs q'
        exact ⟨b, r1, own (nb nj q' rfl r1) r2, r3⟩
    · rcases old q with ⟨rfl, ⟨z, _, q'⟩ | ⟨z, ex, q'⟩⟩ | ⟨nj, q'⟩
      · cases q'
      · cases q'
        subst ex
        obtain ⟨b, r1, _, r3⟩ := sr.mp j z u1
        rw [k2] at r1; cases r1
        exact ⟨a, k2, self, r3⟩
      · obtain ⟨b, r1, r2, r3⟩ := sr.mp j zs q'
        exact ⟨b, r1, own (nb nj q' rfl r1) r2, r3⟩
    · have back : ∀ {j : Nat} {y : Sl}, (putOwn s i o)[j]? = some y → y.own.isSome = true → ∃ y', s[j]? = some y' ∧ y'.own.isSome = true := fun {j y} q oy => by
        rcases old q with ⟨rfl, _⟩ | ⟨nj, q'⟩
        · exact ⟨x, u1, isome⟩
        · exact ⟨y, q', oy⟩
      obtain ⟨y', q1, q2⟩ := back q ox
      obtain ⟨z', r1, r2⟩ := back r oy
      exact sr.ne j k y' z' b c ne q1 r1 q2 r2 sj sk
    · by_cases z : a = b
      · subst z
        exact ⟨ws, c1⟩
      · obtain ⟨vs', q'⟩ := sr.pl b e
        exact ⟨vs', cp.fr _ _ q' fun y => z (Option.some.inj y)⟩
    · by_cases q : F b = none
      · exact sr.free0 (nw b q n)
      · exact sr.nw b e q
end
end FL

/-! FL10: the rule of a call. -/
namespace FL
open PySem PySem.Spec L2
section
variable {X : Cx} {G : Gx} {B : Fr0} {W : WX} {k : Option Nat} {N : List Str} {sc : Scope} {pos : Pos} {F H F' H' : Hp} {σ : L2.St} {s : Sls} {l : List Nat}
variable {a b c : Expr} {ea eb ec : E} {es : List Expr}
/-- what a result of 'after' may be -/
theorem after_cases {g : FS} {avs : List AV} {ds : List T} {fin : Bool} (h : after g avs ds s fin ≠ .bad) : ∃ ts mi, fill avs s = some ts ∧ muAt avs g.mu = some mi ∧ (∀ i, mi = some i → i ∉ lent avs 0 g.mu) ∧
    ((∃ t o, g.sem (ts ++ ds) = .ok t o ∧ after g avs ds s fin = .ok t (putMi s o mi) ∧ (lent avs 0 g.mu = [] ∨ (noLs o = true ∧ (if fin = true then (∃ us, t = .lst us ∧ noLs us = true) else noL t = true)))) ∨
    (∃ c ns es o, g.sem (ts ++ ds) = .ex c ns es o ∧ after g avs ds s fin = .ex c ns es (putMi s o mi) ∧ (lent avs 0 g.mu = [] ∨ (noLs o = true ∧ noLs es = true)))) := by
  unfold after at h ⊢
  cases hf : fill avs s with
  | none => rw [hf] at h; exact (h rfl).elim
  | some ts =>
    cases hm : muAt avs g.mu with
    | none => rw [hf, hm] at h; exact (h rfl).elim
    | some mi =>
      rw [hf, hm] at h
      dsimp only at h ⊢
      split at h
      · exact (h rfl).elim
      · rename_i hc
        refine ⟨ts, mi, rfl, rfl, fun i e => ?_, ?_⟩
        · subst e
          simpa [hasMi] using hc
        · rw [if_neg hc]
          cases hs : g.sem (ts ++ ds) with
          | bad => rw [hs] at h; exact (h rfl).elim
          | ok t o =>
            rw [hs] at h
            dsimp only at h ⊢
            split at h
            · rename_i ok
              refine .inl ⟨t, o, rfl, by rw [if_pos ok], ?_⟩
              simp only [retOk, excOk] at ok
              rw [Bool.or_eq_true, Bool.and_eq_true] at ok
              rcases ok with ok | ⟨ok1, ok2⟩
              · exact .inl (List.isEmpty_iff.mp ok)
              · refine .inr ⟨ok1, ?_⟩
                cases fin with
                | false => simpa using ok2
                | true =>
                  simp only [if_true] at ok2 ⊢
                  split at ok2
                  · exact ⟨_, rfl, ok2⟩
                  · cases ok2
            · exact (h rfl).elim
          | ex c ns es o =>
            rw [hs] at h
            dsimp only at h ⊢
            split at h
            · rename_i ok
              refine .inr ⟨c, ns, es, o, rfl, by rw [if_pos ok], ?_⟩
              simp only [retOk, excOk] at ok
              rw [Bool.or_eq_true, Bool.and_eq_true] at ok
              rcases ok with ok | ok
              · exact .inl (List.isEmpty_iff.mp ok)
              · exact .inr ok
            · exact (h rfl).elim
/-- the callee's promise, from the caller's reading -/
theorem call_sp {g : FS} {avs : List AV} {ds : List T} {fin : Bool} {vs dvs : List V} {Q : VK} (sr : SR G B F H σ s) (ra : RelA G F σ vs avs) (hd : ∀ F : Hp, Reps G F dvs ds)
    (hb : after g avs ds s fin ≠ .bad)
    (hok : ∀ t s' v F' H', after g avs ds s fin = .ok t s' → Same F F' → SR G B F' H' σ s' → (if fin = true then (∃ us, t = .lst us ∧ relM G B σ s' F' H' v us) else Rep G F' v t) → Q v H')
    (hex : ∀ c ns es s' cls d F' H', after g avs ds s fin = .ex c ns es s' → Same F F' → SR G B F' H' σ s' → ExR G F' cls d c ns es → W cls d σ H')
    (hfr : g.fresh = fin) : spF G g (vs ++ dvs) H Q (WE W σ) := by
  obtain ⟨ts, mi, hf, hm, hc, hres⟩ := after_cases hb
  obtain ⟨pa, ar, hm0, hm1⟩ := argR_of sr ra hf hm hc hd
  have hp : ∀ a, LentAt σ (lent avs 0 g.mu) a → F a = none ∧ ∃ ws, H a = some (.lst ws) := fun a ⟨i, hi, e⟩ => by
    obtain ⟨us, a', k1, k2, ⟨⟨ws, k3, _⟩, k4⟩⟩ := lent_own sr ra hf i hi
    rw [e] at k2
    cases k2
    exact ⟨k4, ws, k3⟩
  have hpa : ∀ a, pa = some a → ∃ ws, H a = some (.lst ws) := fun a e => by
    cases mi with
    | none => rw [hm0 rfl] at e; cases e
    | some i =>
      obtain ⟨us, a', _, _, ⟨⟨ws, k1, _⟩, _⟩, k4⟩ := hm1 i rfl
      rw [e] at k4
      cases k4
      exact ⟨ws, k1⟩
  obtain ⟨s0, h1, h2⟩ := ar.start (lend_top sr.sub) hpa
  refine ⟨_, ts ++ ds, s0, pa, h1, h2, fun z => hm0 (by rw [z] at hm; simpa [muAt] using hm.symm), ?_⟩
  rcases hres with ⟨t, o, e1, e2, e3⟩ | ⟨c, ns, es, o, e1, e2, e3⟩
  · rw [e1]
    intro v F' H' cp r
    have ho : lent avs 0 g.mu = [] ∨ noLs o = true := e3.imp id fun z => z.1
    obtain ⟨sF, sr'⟩ := sr.called hp cp hm0 hm1 ho
    have hk : ∀ a, LentAt σ (lent avs 0 g.mu) a → ∃ vs, F' a = some (.lst vs) := fun a z => by
      obtain ⟨_, ws, h⟩ := hp a z
      exact ⟨ws, cp.ff _ _ (lend_at z h)⟩
    refine hok t _ v _ H' e2 sF sr' ?_
    unfold RetR at r
    rw [hfr] at r
    cases fin with
    | false =>
      simp only [Bool.false_eq_true, if_false] at r e3 ⊢
      exact rep_un hk (e3.imp id fun z => z.2) r
    | true =>
      simp only [if_true] at r e3 ⊢
      obtain ⟨a, us, rfl, rfl, ⟨⟨ws, c1, c2⟩, c3⟩, c4, c5⟩ := r
      have hu : lent avs 0 g.mu = [] ∨ noLs us = true := e3.imp id fun ⟨_, us', z1, z2⟩ => by cases z1; exact z2
      refine ⟨us, rfl, a, rfl, ⟨⟨ws, c1, reps_un hk hu c2⟩, unlend_none (.inr c3)⟩, sr.free0 c4, fun z => ?_, fun j x e o' h => ?_⟩
      · obtain ⟨ws', q⟩ := sr.pl a z
        rw [c4] at q
        cases q
      · -- an own slot's list stood ahead of the call
        have back : ∃ y, s[j]? = some y ∧ y.own.isSome = true := by
          cases mi with
          | none => exact ⟨x, e, o'⟩
          | some i =>
            by_cases z : j = i
            · subst z
              obtain ⟨us', a', k1, _⟩ := hm1 j rfl
              obtain ⟨_, y, u1, u2, _⟩ := own_at sr k1
              exact ⟨y, u1, by rw [u2]; rfl⟩
            · refine ⟨x, ?_, o'⟩
              have e : (putOwn s i o)[j]? = some x := e
              unfold putOwn at e
              split at e
              · rw [List.getElem?_set_ne (Ne.symm z)] at e; exact e
              · rw [List.getElem?_set_ne (Ne.symm z)] at e; exact e
              · exact e
        obtain ⟨y, y1, y2⟩ := back
        cases hy : y.own with
        | none => rw [hy] at y2; cases y2
        | some zs =>
          obtain ⟨a', k1, ⟨⟨ws', k2, _⟩, _⟩, _⟩ := sr.own y1 hy
          rw [h] at k1
          cases k1
          rw [c4] at k2
          cases k2
  · rw [e1]
    intro cls d F' H' cp r
    have ho : lent avs 0 g.mu = [] ∨ noLs o = true := e3.imp id fun z => z.1
    obtain ⟨sF, sr'⟩ := sr.called hp cp hm0 hm1 ho
    have hk : ∀ a, LentAt σ (lent avs 0 g.mu) a → ∃ vs, F' a = some (.lst vs) := fun a z => by
      obtain ⟨_, ws, h⟩ := hp a z
      exact ⟨ws, cp.ff _ _ (lend_at z h)⟩
    refine hex c ns es _ cls d _ H' e2 sF sr' ?_
    obtain ⟨C, r1, r2, r3⟩ := r
    refine ⟨C, r1, r2, r3.imp id fun ⟨dx, ws, q1, q2, q3, q4⟩ => ⟨dx, ws, q1, ?_, q3, reps_un hk (e3.imp id fun z => z.2) q4⟩⟩
    unfold FL.unlend FL.less
    rw [if_neg]
    · exact q2
    · intro z
      obtain ⟨ws', q⟩ := hk dx z
      rw [q2] at q
      cases q
end
end FL

/-! FL11: calls as expressions, targets. -/
namespace FL
open PySem PySem.Spec L2
section
variable {X : Cx} {G : Gx} {B : Fr0} {W : WX} {k : Option Nat} {N : List Str} {sc : Scope} {pos : Pos}
variable {a b c : Expr} {ea eb ec : E} {es : List Expr}

theorem passAt' (g : Good X G k N sc W) (hk : k.isSome = true) (σ : L2.St) : PassesAt (L2.CX X.prog X.w) X σ (WE W σ) := passAt (g.tk hk) σ
theorem rd_call {g : FS} {as : As} {ds : List T} {dvs : List V} (hd : ∀ F : Hp, Reps G F dvs ds) {σ : L2.St} {H : Hp} {Q : VK} (hq : rdE G B W (.call g as ds) σ H Q) : tCallSD (spF G g) dvs (WE W) (rdA G B W as) σ H Q := by
  obtain ⟨F, s, sr, p⟩ := hq
  simp only [evE] at p
  by_cases hf : g.fresh = true
  · rw [if_pos hf] at p; exact p.elim
  · rw [if_neg hf] at p
    refine ⟨F, s, sr, (Pst.bind p).mono ?_⟩
    rintro vs H1 ⟨avs, F1, s1, e1, sr1, ra, p1⟩
    refine call_sp (fin := false) sr1 ra hd (fun z => by rw [z] at p1; exact p1) (fun t s' v F' H' e sF sr' r => ?_) (fun c ns es s' cls d F' H' e sF sr' r => ?_) (by simpa using hf)
    · rw [e] at p1
      exact p1 v F' H' sF sr' (by simpa [relE] using r)
    · rw [e] at p1
      exact p1 cls d F' H' sF sr' r
theorem rd_callM {g : FS} {as : As} {ds : List T} {dvs : List V} (hd : ∀ F : Hp, Reps G F dvs ds) {σ : L2.St} {H : Hp} {Q : VK} (hq : rdM G B W (.call g as ds) σ H Q) : tCallSD (spF G g) dvs (WE W) (rdA G B W as) σ H Q := by
  obtain ⟨F, s, sr, p⟩ := hq
  simp only [evM] at p
  by_cases hf : g.fresh = true
  · rw [if_pos hf] at p
    refine ⟨F, s, sr, (Pst.bind p).mono ?_⟩
    rintro vs H1 ⟨avs, F1, s1, e1, sr1, ra, p1⟩
    refine call_sp (fin := true) sr1 ra hd (fun z => by rw [z] at p1; exact p1) (fun t s' v F' H' e sF sr' r => ?_) (fun c ns es s' cls d F' H' e sF sr' r => ?_) hf
    · rw [e] at p1
      simp only [if_true] at r
      obtain ⟨us, rfl, r⟩ := r
      exact p1 v F' H' sF sr' r
    · rw [e] at p1
      exact p1 cls d F' H' sF sr' r
  · rw [if_neg hf] at p; exact p.elim
theorem q_call {n : Nat} (g : Good X G (some n) N sc W) {f : FS} {as : As} {ds : List T} {x : Str} {p : Pos} (hx : f.name = x) (hf : HasFn G n f ds) (hl : sc.names.lookup x = some .globalImplicit) (hd : (x == ("__debug__" : Str)) = false) (h : PA X (a :: es) (rdA G B W as))
    (he : starEach (a :: es) X.env = (false, eval a X.env) :: starEach es X.env) (hpl : (backTo pos (starEach es X.env)).any (·.1) = false) : PE X (.Call (.Name x p) (a :: es) [] pos) (rdE G B W (.call f as ds)) := by
  subst hx
  obtain ⟨fa, fd, ps, dvs, dsv, h1, h2, h3, h4, h5, h6⟩ := hf.ex
  have hg : Gl X f.name := show X.env.scope.names.lookup f.name = some .globalImplicit by rw [g.hsc]; exact hl
  refine PE.imp (pe_callSD (CX := L2.CX X.prog X.w) (k := n) (fd := fd) (ps := ps) (ds := dsv) (by rw [g.hP, g.hw, g.hK, g.hmg, g.hb]; exact h2) (g.room n rfl) hg (by rw [g.hmg]; exact h1) (by rw [g.hK]; exact h3) (by rw [g.hK]; exact h4) h5 (passAt' g rfl) h hd he hpl) fun σ H Q hq => rd_call h6 hq
theorem q_callM {n : Nat} (g : Good X G (some n) N sc W) {f : FS} {as : As} {ds : List T} {x : Str} {p : Pos} (hx : f.name = x) (hf : HasFn G n f ds) (hl : sc.names.lookup x = some .globalImplicit) (hd : (x == ("__debug__" : Str)) = false) (h : PA X (a :: es) (rdA G B W as))
    (he : starEach (a :: es) X.env = (false, eval a X.env) :: starEach es X.env) (hpl : (backTo pos (starEach es X.env)).any (·.1) = false) : PE X (.Call (.Name x p) (a :: es) [] pos) (rdM G B W (.call f as ds)) := by
  subst hx
  obtain ⟨fa, fd, ps, dvs, dsv, h1, h2, h3, h4, h5, h6⟩ := hf.ex
  have hg : Gl X f.name := show X.env.scope.names.lookup f.name = some .globalImplicit by rw [g.hsc]; exact hl
  refine PE.imp (pe_callSD (CX := L2.CX X.prog X.w) (k := n) (fd := fd) (ps := ps) (ds := dsv) (by rw [g.hP, g.hw, g.hK, g.hmg, g.hb]; exact h2) (g.room n rfl) hg (by rw [g.hmg]; exact h1) (by rw [g.hK]; exact h3) (by rw [g.hK]; exact h4) h5 (passAt' g rfl) h hd he hpl) fun σ H Q hq => rd_callM h6 hq

/-! ### targets -/
mutual
def tgS : Tg → List Nat
  | .nm i => [i]
  | .tp gs => tgsS gs
def tgsS : List Tg → List Nat
  | [] => []
  | g :: gs => tgS g ++ tgsS gs
end
/-- but for these slots it is as it was -/
def Off (l : List Nat) (σ σ' : L2.St) : Prop := σ'.length = σ.length ∧ ∀ i, i ∉ l → σ'[i]? = σ[i]?
def rdG (G : Gx) (B : Fr0) (g : Tg) : TG := fun v σ H Q => ∃ F s t s', SR G B F H σ s ∧ Rep G F v t ∧ setTg g t s = some s' ∧ ∀ σ', SR G B F H σ' s' → Off (tgS g) σ σ' → Q σ' H
def rdGs (G : Gx) (B : Fr0) (gs : List Tg) : TGs := fun vs σ H Q => ∃ F s ts s', SR G B F H σ s ∧ Reps G F vs ts ∧ setTgs gs ts s = some s' ∧ ∀ σ', SR G B F H σ' s' → Off (tgsS gs) σ σ' → Q σ' H
theorem PG.imp {e : Expr} {t t' : TG} (h : PG X e t) (k : ∀ v σ H Q, t' v σ H Q → t v σ H Q) : PG X e t' := ⟨fun pins s σ H v u Q I r hw => h.run pins s σ H v u Q I r (k v σ H Q hw)⟩
theorem PGs.imp {e : List Expr} {t t' : TGs} (h : PGs X e t) (k : ∀ v σ H Q, t' v σ H Q → t v σ H Q) : PGs X e t' := ⟨fun pins s σ H v u Q I r hw => h.run pins s σ H v u Q I r (k v σ H Q hw)⟩
theorem g_nm (hN : X.N = N) (nd : N.Nodup) {i : Nat} {x : Str} (hi : N[i]? = some x) (hl : Loc X.env.scope x) (hf : X.fn x = true ∨ X.env.scope.names.lookup x = some .local) : PG X (.Name x pos) (rdG G B (.nm i)) := by
  refine PG.imp (pg_name (i := i) (by rw [hN]; exact nd) (by rw [hN]; exact hi) hl hf) ?_
  rintro v σ H Q ⟨F, s, t, s', sr, r, e, k⟩
  simp only [setTg] at e
  split at e
  · cases e
  · rename_i hm
    cases e
    have hi : i < s.length := by
      unfold isMp at hm
      cases q : s[i]? with
      | none => rw [q] at hm; exact (hm rfl).elim
      | some x => exact (List.getElem?_eq_some_iff.mp q).1
    refine k _ (sr.setIm hi r) ⟨List.length_set, fun j hj => ?_⟩
    simp only [tgS, List.mem_singleton] at hj
    exact List.getElem?_set_ne (Ne.symm hj)
theorem g_nil : PGs X [] (rdGs G B []) := by
  refine PGs.imp pgs_nil ?_
  rintro vs σ H Q ⟨F, s, ts, s', sr, r, e, k⟩
  cases ts with
  | nil =>
    simp only [setTgs] at e
    cases e
    simp only [Reps] at r
    exact ⟨r, k σ sr ⟨rfl, fun _ _ => rfl⟩⟩
  | cons _ _ => simp [setTgs] at e
theorem g_cons {e : Expr} {es : List Expr} {g : Tg} {gs : List Tg} (h1 : PG X e (rdG G B g)) (h2 : PGs X es (rdGs G B gs)) (hs : (assignEach (e :: es) X.env).map (·.2) = assign e X.env :: (assignEach es X.env).map (·.2)) : PGs X (e :: es) (rdGs G B (g :: gs)) := by
  refine PGs.imp (pgs_cons h1 h2 hs) ?_
  rintro vs σ H Q ⟨F, s, ts, s', sr, r, e, k⟩
  cases ts with
  | nil => simp [setTgs] at e
  | cons t ts =>
    simp only [setTgs] at e
    split at e
    · rename_i s1 e1
      simp only [Reps] at r
      obtain ⟨v, vr, rfl, r1, r2⟩ := r
      exact ⟨v, vr, rfl, F, s, t, s1, sr, r1, e1, fun σ' sr' o => ⟨F, s1, ts, s', sr', r2, e, fun σ2 sr2 o2 => k σ2 sr2 ⟨o2.1.trans o.1, fun i hi => by
        simp only [tgsS, List.mem_append, not_or] at hi
        exact (o2.2 i hi.2).trans (o.2 i hi.1)⟩⟩⟩
    · cases e
theorem g_tp {es : List Expr} {kk : Nat} {gs : List Tg} (hG : X.K = G.K) (hc : X.calm = true) (h : PGs X es (rdGs G B gs)) (hn : (assignEach es X.env).length = gs.length) (hst : (assignEach es X.env).findIdx? (·.1) = none) : PG X (.Tuple es kk pos) (rdG G B (.tp gs)) := by
  have hln : ∀ (gs : List Tg) (ts : List T) (s s' : Sls), setTgs gs ts s = some s' → gs.length = ts.length := by
    intro gs
    induction gs with
    | nil => intro ts s s' e; cases ts with
      | nil => rfl
      | cons _ _ => simp [setTgs] at e
    | cons g gs ih => intro ts s s' e; cases ts with
      | nil => simp [setTgs] at e
      | cons t ts =>
        simp only [setTgs] at e
        split at e
        · simp [ih _ _ _ e]
        · cases e
  refine ⟨fun pins sh σ H v u Q I rv hw => ?_⟩
  obtain ⟨F, s, t, s', sr, r, e, k⟩ := hw
  cases t with
  | tup ts =>
    simp only [setTg] at e
    simp only [Rep] at r
    obtain ⟨a, vs, rfl, h2, h3⟩ := r
    have hl := hln _ _ _ _ e
    exact (pg_tup (n := gs.length) hc h hn hst).run pins sh σ H _ u Q I rv ⟨a, vs, rfl, by rw [hG]; exact sameSqT sr.sub h2, by rw [h3.length, hl], F, s, ts, s', sr, h3, e, fun σ' sr' o => k σ' sr' (by simp only [tgS]; exact o)⟩
  | lst ts =>
    simp only [setTg] at e
    simp only [Rep] at r
    obtain ⟨a, vs, rfl, h2, h3⟩ := r
    have hl := hln _ _ _ _ e
    exact (pg_lst (n := gs.length) hc h hn hst).run pins sh σ H _ u Q I rv ⟨a, vs, rfl, .inl (.inl (sr.sub _ _ h2)), by rw [h3.length, hl], F, s, ts, s', sr, h3, e, fun σ' sr' o => k σ' sr' (by simp only [tgS]; exact o)⟩
  | _ => simp [setTg] at e
end
end FL

/-! FL12: what is walked; comprehensions. -/
namespace FL
open PySem PySem.Spec L2

/-- the walk J yields the trees ts, one after another, while F stands -/
structure ItT (G : Gx) (J : L2.It) (ts : List T) (F : Hp) : Prop where
  go : ∀ (i : Nat) (F1 H1 : Hp), Same F F1 → Same F1 H1 → i < ts.length → J.go i H1
  stop : ∀ (F1 H1 : Hp), Same F F1 → Same F1 H1 → J.stop ts.length H1
  yld : ∀ (i : Nat) (F1 H1 : Hp) (x : V) (H' : Hp), Same F F1 → Same F1 H1 → i < ts.length → J.yld i H1 x H' → ∃ F' t, Grow F1 H1 F' H' ∧ ts[i]? = some t ∧ Rep G F' x t
def relI (G : Gx) : Sls → Hp → Hp → L2.It → List T → Prop := fun _ F _ J ts => ItT G J ts F
section
variable {X : Cx} {G : Gx} {B : Fr0} {W : WX} {k : Option Nat} {N : List Str} {sc : Scope} {pos : Pos} {F : Hp} {tg : Expr}
variable {a b c : Expr} {ea eb ec : E} {es : List Expr}
theorem itt_list {a : Addr} {vs : List V} {ts : List T} (h : SqL G.K F a vs) (r : Reps G F vs ts) : ItT G (Itl G.K a) ts F where
  go := fun i F1 H1 e e1 hi => by
    have hl : i < vs.length := by rw [r.length]; exact hi
    exact ⟨vs, vs[i], e1.seq (e.seq h), by simp [hl]⟩
  stop := fun F1 H1 e e1 => ⟨vs, e1.seq (e.seq h), by rw [r.length]; exact Nat.le_refl _⟩
  yld := fun i F1 H1 x H' e e1 hi y => by
    obtain ⟨rfl, y⟩ := y
    have q := y vs (e1.seq (e.seq h))
    obtain ⟨t, h1, h2⟩ := r.got q
    exact ⟨F1, t, .refl e1, h1, Rep.mono e _ _ h2⟩
theorem itt_tup {a : Addr} {vs : List V} {ts : List T} (h : SqT G.K F a vs) (r : Reps G F vs ts) : ItT G (Itt G.K a) ts F where
  go := fun i F1 H1 e e1 hi => by
    have hl : i < vs.length := by rw [r.length]; exact hi
    exact ⟨vs, vs[i], sameSqT e1 (sameSqT e h), by simp [hl]⟩
  stop := fun F1 H1 e e1 => ⟨vs, sameSqT e1 (sameSqT e h), by rw [r.length]; exact Nat.le_refl _⟩
  yld := fun i F1 H1 x H' e e1 hi y => by
    obtain ⟨rfl, y⟩ := y
    have q := y vs (sameSqT e1 (sameSqT e h))
    obtain ⟨t, h1, h2⟩ := r.got q
    exact ⟨F1, t, .refl e1, h1, Rep.mono e _ _ h2⟩
theorem itt_range {lo : Int} {n : Nat} : ItT G (Itr lo n) ((List.range n).map fun k => T.int (lo + (k : Nat))) F where
  go := fun i F1 H1 e e1 hi => by
    rw [List.length_map, List.length_range] at hi
    exact hi
  stop := fun F1 H1 e e1 => by
    rw [List.length_map, List.length_range]
    exact Nat.le_refl _
  yld := fun i F1 H1 x H' e e1 hi y => by
    obtain ⟨rfl, rfl⟩ := y
    rw [List.length_map, List.length_range] at hi
    exact ⟨F1, .int (lo + (i : Nat)), .refl e1, by simp [hi], by simp only [Rep]⟩
theorem itt_str {z : Str} : ItT G (Its z) (signs z) F where
  go := fun i F1 H1 e e1 hi => by
    unfold signs at hi
    show i < z.cps.size
    simpa using hi
  stop := fun F1 H1 e e1 => by
    unfold signs
    show z.cps.size ≤ _
    simp
  yld := fun i F1 H1 x H' e e1 hi y => by
    obtain ⟨rfl, c, h1, rfl⟩ := y
    exact ⟨F1, .str ⟨#[c]⟩, .refl e1, by unfold signs; simp [h1], by simp only [Rep]⟩
theorem itt_enum {a : Addr} {vs : List V} {ts : List T} (h : SqL G.K F a vs) (r : Reps G F vs ts) : ItT G (Ite G.K a) (ts.zipIdx.map fun p => T.tup [.int (p.2 : Nat), p.1]) F where
  go := fun i F1 H1 e e1 hi => by
    rw [List.length_map, List.length_zipIdx] at hi
    have hl : i < vs.length := by rw [r.length]; exact hi
    exact ⟨vs, vs[i], e1.seq (e.seq h), by simp [hl]⟩
  stop := fun F1 H1 e e1 => ⟨vs, e1.seq (e.seq h), by rw [List.length_map, List.length_zipIdx, r.length]; exact Nat.le_refl _⟩
  yld := fun i F1 H1 x H' e e1 hi y => by
    rw [List.length_map, List.length_zipIdx] at hi
    obtain ⟨q, w, rfl, hn, rfl, y⟩ := y
    have q1 := y vs (e1.seq (e.seq h))
    obtain ⟨t, h1, h2⟩ := r.got q1
    have gr := Grow.laid (o := .tup [V.int (i : Nat), w]) e1 hn
    refine ⟨_, .tup [.int (i : Nat), t], gr, ?_, ?_⟩
    · rw [List.getElem?_map, List.getElem?_zipIdx, h1]
      simp
    · simp only [Rep]
      exact ⟨q, _, rfl, .inl (.inl upd_same), Reps.cons (by simp only [Rep]) (Reps.one (Rep.mono gr.ff _ _ (Rep.mono e _ _ h2)))⟩
theorem itt_zip {a b : Addr} {vs ws : List V} {ts us : List T} (h : SqL G.K F a vs) (r : Reps G F vs ts) (h' : SqL G.K F b ws) (r' : Reps G F ws us) : ItT G (Itz G.K a b) ((ts.zip us).map fun p => T.tup [p.1, p.2]) F where
  go := fun i F1 H1 e e1 hi => by
    rw [List.length_map, List.length_zip] at hi
    have hl : i < vs.length := by rw [r.length]; omega
    have hl' : i < ws.length := by rw [r'.length]; omega
    exact ⟨vs, ws, vs[i], ws[i], e1.seq (e.seq h), e1.seq (e.seq h'), by simp [hl], by simp [hl']⟩
  stop := fun F1 H1 e e1 => ⟨vs, ws, e1.seq (e.seq h), e1.seq (e.seq h'), by
    rw [List.length_map, List.length_zip, r.length, r'.length]
    omega⟩
  yld := fun i F1 H1 x H' e e1 hi y => by
    rw [List.length_map, List.length_zip] at hi
    obtain ⟨q, w, w', rfl, hn, rfl, y, y'⟩ := y
    have q1 := y vs (e1.seq (e.seq h))
    have q2 := y' ws (e1.seq (e.seq h'))
    obtain ⟨t, h1, h2⟩ := r.got q1
    obtain ⟨u, h3, h4⟩ := r'.got q2
    have gr := Grow.laid (o := .tup [w, w']) e1 hn
    refine ⟨_, .tup [t, u], gr, ?_, ?_⟩
    · rw [List.getElem?_map, List.getElem?_zip_eq_some (z := (t, u)) |>.mpr ⟨h1, h3⟩]
      rfl
    · simp only [Rep]
      exact ⟨q, _, rfl, .inl (.inl upd_same), Reps.cons (Rep.mono gr.ff _ _ (Rep.mono e _ _ h2)) (Reps.one (Rep.mono gr.ff _ _ (Rep.mono e _ _ h4)))⟩

/-! ### walked things -/
theorem PI.imp {tg e : Expr} {t t' : TI} (h : PI X tg e t) (k : ∀ σ H R, t' σ H R → t σ H R) : PI X tg e t' := ⟨fun pins s σ H R I hw => h.run pins s σ H R I (k σ H R hw)⟩
/-- a list, a tuple, a text -/
def iSeq (K : PySem.W.Frag) (te : TE) : TI := fun σ H R => te σ H fun x H1 => (∃ a, x = .ref a ∧ (∃ xs, SqL K H1 a xs) ∧ R (Itl K a) H1) ∨ (∃ a, x = .ref a ∧ (∃ xs, SqT K H1 a xs) ∧ R (Itt K a) H1) ∨ (∃ z, x = .str z ∧ R (Its z) H1)
theorem pi_seq {l : Expr} {tl : TE} (hl : PE X l tl) : PI X tg l (iSeq X.K tl) := by
  refine ⟨fun pins s σ H R I h => ?_⟩
  refine thn (hl.run pins s σ H _ I h) fun v s1 ⟨x, H1, I1, r1, q1⟩ => ?_
  rcases q1 with ⟨a, e, ⟨xs, hq⟩, q⟩ | ⟨a, e, ⟨xs, hq⟩, q⟩ | ⟨z, e, q⟩
  · subst e
    cases r1
    obtain ⟨its, rv, p, hz⟩ := I1.list hq
    refine PySem.wpAny_pyIter_list p.isList ?_
    refine ⟨s1.heap.objs.size, [s1.heap.objs.size], _, _, H1, rfl, I1.kept (t' := s1.toks) fun b o e => Heap.get?_push_of_some _ e, turn_list a _, ⟨_, Heap.get?_push_size _ rfl, rfl, rfl⟩, fun b hb => ?_, q⟩
    have e : b = s1.heap.objs.size := by simpa using hb
    subst e
    exact I1.fpOk (Nat.le_refl _) (I1.hok.fresh (Nat.le_refl _))
  · subst e
    cases r1
    obtain ⟨its, rv, p, hz⟩ := I1.tuple hq
    refine PySem.wpAny_pyIter_tuple (show s1.heap.IsTuple a its.toArray from p) ?_
    refine ⟨s1.heap.objs.size, [s1.heap.objs.size], _, _, H1, rfl, I1.kept (t' := s1.toks) fun b o e => Heap.get?_push_of_some _ e, turn_tuple a _, ⟨_, Heap.get?_push_size _ rfl, rfl, rfl⟩, fun b hb => ?_, q⟩
    have e : b = s1.heap.objs.size := by simpa using hb
    subst e
    exact I1.fpOk (Nat.le_refl _) (I1.hok.fresh (Nat.le_refl _))
  · subst e
    obtain ⟨t, rfl⟩ := r1
    cases ha : z.cps.all (· < 128)
    · exact PySem.wpAny_pyIter_wide ha (pi_one (tk := s1.toks) I1 _ (turn_str _ z t "str_iterator" (.inr rfl)) ⟨_, Heap.get?_push_size _ rfl, rfl, rfl⟩ q)
    · exact PySem.wpAny_pyIter_ascii ha (pi_one (tk := s1.toks) I1 _ (turn_str _ z t "str_ascii_iterator" (.inl rfl)) ⟨_, Heap.get?_push_size _ rfl, rfl, rfl⟩ q)
abbrev rdI (G : Gx) (B : Fr0) (W : WX) (it : It) : TI := rd G B W (relI G) (evIt it)
theorem i_seq (hG : X.K = G.K) (ha : PE X a (rdE G B W ea)) : PI X tg a (rdI G B W (.seq ea)) := by
  refine PI.imp (pi_seq ha) fun σ H R hq => ?_
  obtain ⟨F, s, sr, p⟩ := hq
  simp only [evIt] at p
  refine ⟨F, s, sr, (Pst.bind p).mono ?_⟩
  rintro x H1 ⟨tx, F1, s1, e1, sr1, rx, p1⟩
  cases tx with
  | str z =>
    simp only [relE, Rep] at rx
    exact .inr (.inr ⟨z, rx, p1 _ F1 H1 (.refl _) sr1 itt_str⟩)
  | tup ts =>
    simp only [relE, Rep] at rx
    obtain ⟨a, vs, rfl, h2, h3⟩ := rx
    rw [hG]
    exact .inr (.inl ⟨a, rfl, ⟨vs, sameSqT sr1.sub h2⟩, p1 _ F1 H1 (.refl _) sr1 (itt_tup h2 h3)⟩)
  | lst ts =>
    simp only [relE, Rep] at rx
    obtain ⟨a, vs, rfl, h2, h3⟩ := rx
    rw [hG]
    exact .inl ⟨a, rfl, ⟨vs, .inl (.inl (sr1.sub _ _ h2))⟩, p1 _ F1 H1 (.refl _) sr1 (itt_list (.inl (.inl h2)) h3)⟩
  | scr ts =>
    simp only [relE, Rep] at rx
    obtain ⟨a, vs, rfl, h2, h3⟩ := rx
    rw [hG]
    exact .inl ⟨a, rfl, ⟨vs, sr1.sub.seq h2⟩, p1 _ F1 H1 (.refl _) sr1 (itt_list h2 h3)⟩
  | _ => exact p1.elim
theorem i_rng1 (g : Good X G k N sc W) {p : Pos} (hk : G.mg "range" = none) (hl : sc.names.lookup ("range" : Str) = some .globalImplicit) (ha : PE X a (rdE G B W ea)) (hs : starEach [a] X.env = [(false, eval a X.env)]) : PI X tg (.Call (.Name "range" p) [a] [] pos) (rdI G B W (.rng1 ea)) := by
  have hg : Gl X "range" := show X.env.scope.names.lookup ("range" : Str) = some .globalImplicit by rw [g.hsc]; exact hl
  refine PI.imp (pi_range1 hg (by rw [g.hmg]; exact hk) (pa_cons ha pa_nil hs) hs) fun σ H R hq => ?_
  obtain ⟨F, s, sr, p⟩ := hq
  simp only [evIt] at p
  refine ⟨F, s, sr, (Pst.bind p).mono ?_⟩
  rintro x H1 ⟨tx, F1, s1, e1, sr1, rx, p1⟩
  cases tx with
  | int j =>
    simp only [relE, Rep] at rx
    subst rx
    simp only at p1
    split at p1
    · rename_i hj
      refine ⟨j, rfl, hj.1, hj.2, p1 _ F1 H1 (.refl _) sr1 ?_⟩
      have z := itt_range (G := G) (F := F1) (lo := 0) (n := j.toNat)
      simpa only [relI, Int.zero_add] using z
    · exact p1.elim
  | _ => exact p1.elim
theorem i_rng2 (g : Good X G k N sc W) {p : Pos} (hk : G.mg "range" = none) (hl : sc.names.lookup ("range" : Str) = some .globalImplicit) (ha : PE X a (rdE G B W ea)) (hb : PE X b (rdE G B W eb)) (hs : starEach [a, b] X.env = [(false, eval a X.env), (false, eval b X.env)]) (hs2 : starEach [b] X.env = [(false, eval b X.env)]) :
    PI X tg (.Call (.Name "range" p) [a, b] [] pos) (rdI G B W (.rng2 ea eb)) := by
  have hg : Gl X "range" := show X.env.scope.names.lookup ("range" : Str) = some .globalImplicit by rw [g.hsc]; exact hl
  refine PI.imp (pi_range2 hg (by rw [g.hmg]; exact hk) (pa_cons ha (pa_cons hb pa_nil hs2) (by rw [hs, hs2])) hs hs2) fun σ H R hq => ?_
  obtain ⟨F, s, sr, p⟩ := hq
  simp only [evIt] at p
  refine ⟨F, s, sr, (Pst.bind p).mono ?_⟩
  rintro x H1 ⟨tx, F1, s1, e1, sr1, rx, p1⟩
  refine ⟨F1, s1, sr1, (Pst.bind p1).mono ?_⟩
  rintro y H2 ⟨ty, F2, s2, e2, sr2, ry, p2⟩
  split at p2
  · simp only [relE, Rep] at rx ry
    subst rx ry
    split at p2
    · rename_i hj
      exact ⟨_, _, rfl, hj, p2 _ F2 H2 (.refl _) sr2 itt_range⟩
    · exact p2.elim
  · exact p2.elim
theorem i_enm (g : Good X G k N sc W) {p tpos : Pos} {elts : List Expr} {kk : Nat} (hk : G.mg "enumerate" = none) (hl : sc.names.lookup ("enumerate" : Str) = some .globalImplicit) (ha : PE X a (rdE G B W ea)) (hs : starEach [a] X.env = [(false, eval a X.env)]) :
    PI X (.Tuple elts kk tpos) (.Call (.Name "enumerate" p) [a] [] pos) (rdI G B W (.enm ea)) := by
  have hg : Gl X "enumerate" := show X.env.scope.names.lookup ("enumerate" : Str) = some .globalImplicit by rw [g.hsc]; exact hl
  refine PI.imp (pi_enum hg (by rw [g.hmg]; exact hk) (pa_cons ha pa_nil hs) hs) fun σ H R hq => ?_
  obtain ⟨F, s, sr, p⟩ := hq
  simp only [evIt] at p
  refine ⟨F, s, sr, (Pst.bind p).mono ?_⟩
  rintro x H1 ⟨tx, F1, s1, e1, sr1, rx, p1⟩
  cases tx with
  | lst ts =>
    simp only [relE, Rep] at rx
    obtain ⟨a, vs, rfl, h2, h3⟩ := rx
    rw [g.hK]
    exact ⟨a, vs, rfl, .inl (.inl (sr1.sub _ _ h2)), p1 _ F1 H1 (.refl _) sr1 (itt_enum (.inl (.inl h2)) h3)⟩
  | _ => exact p1.elim
theorem i_zip (g : Good X G k N sc W) {p tpos : Pos} {elts : List Expr} {kk : Nat} (hk : G.mg "zip" = none) (hl : sc.names.lookup ("zip" : Str) = some .globalImplicit) (ha : PE X a (rdE G B W ea)) (hb : PE X b (rdE G B W eb)) (hs : starEach [a, b] X.env = (false, eval a X.env) :: starEach [b] X.env) (hs2 : starEach [b] X.env = [(false, eval b X.env)]) (hpl : (backTo pos (starEach [b] X.env)).any (·.1) = false) :
    PI X (.Tuple elts kk tpos) (.Call (.Name "zip" p) [a, b] [] pos) (rdI G B W (.zip ea eb)) := by
  have hg : Gl X "zip" := show X.env.scope.names.lookup ("zip" : Str) = some .globalImplicit by rw [g.hsc]; exact hl
  refine PI.imp (pi_zip hg (by rw [g.hmg]; exact hk) (pa_cons ha (pa_cons hb pa_nil hs2) hs) hs hpl) fun σ H R hq => ?_
  obtain ⟨F, s, sr, p⟩ := hq
  simp only [evIt] at p
  refine ⟨F, s, sr, (Pst.bind p).mono ?_⟩
  rintro x H1 ⟨tx, F1, s1, e1, sr1, rx, p1⟩
  refine ⟨F1, s1, sr1, (Pst.bind p1).mono ?_⟩
  rintro y H2 ⟨ty, F2, s2, e2, sr2, ry, p2⟩
  split at p2
  · simp only [relE, Rep] at rx ry
    obtain ⟨a, vs, rfl, h2, h3⟩ := rx
    obtain ⟨b, ws, rfl, k2, k3⟩ := ry
    rw [g.hK]
    exact ⟨a, b, vs, ws, rfl, .inl (.inl (sr2.sub _ _ (e2 _ _ h2))), .inl (.inl (sr2.sub _ _ k2)), p2 _ F2 H2 (.refl _) sr2 (itt_zip (.inl (.inl (e2 _ _ h2))) (Reps.mono e2 _ _ h3) (.inl (.inl k2)) k3)⟩
  · exact p2.elim
end
end FL

/-! FL13: comprehensions. -/
namespace FL
open PySem PySem.Spec L2
section
variable {X : Cx} {G : Gx} {B : Fr0} {W : WX} {k : Option Nat} {N : List Str} {sc : Scope} {pos : Pos} {F H : Hp} {σ : L2.St} {s : Sls}
/-- nothing is let out -/
abbrev W0 : WX := fun _ _ _ _ => False
theorem SR.wipe (h : SR G B F H σ s) : ∀ l : List Nat, SR G B F H (L2.wipe σ l) (wipeS s l)
  | [] => h
  | v :: vs => by
    show SR G B F H ((L2.wipe σ vs).set v none) ((wipeS s vs).set v .un)
    exact (SR.wipe h vs).setUn v none
theorem wipe_get : ∀ (l : List Nat) (σ : L2.St) (i : Nat), i ∉ l → (L2.wipe σ l)[i]? = σ[i]?
  | [], σ, i, _ => rfl
  | v :: vs, σ, i, h => by
    show ((L2.wipe σ vs).set v none)[i]? = σ[i]?
    rw [List.getElem?_set_ne (fun e => h (by rw [e]; exact List.mem_cons_self))]
    exact wipe_get vs σ i fun z => h (List.mem_cons_of_mem _ z)
theorem wipe_in : ∀ (l : List Nat) (σ : L2.St) (i : Nat), i ∈ l → i < σ.length → (L2.wipe σ l)[i]? = some none
  | [], σ, i, h, _ => by simp at h
  | v :: vs, σ, i, h, hl => by
    show ((L2.wipe σ vs).set v none)[i]? = some none
    by_cases e : v = i
    · subst e
      rw [List.getElem?_set_self (by rw [wipe_length]; exact hl)]
    · rw [List.getElem?_set_ne e]
      rcases List.mem_cons.mp h with z | z
      · exact (e z.symm).elim
      · exact wipe_in vs σ i z hl
/-- what is set within the wiped slots is wiped again -/
theorem wipe_off {l m : List Nat} {σ σ' : L2.St} (h : Off m (L2.wipe σ l) σ') (hm : ∀ i ∈ m, i ∈ l) : L2.wipe σ' l = L2.wipe σ l := by
  apply List.ext_getElem?
  intro i
  by_cases hi : i ∈ l
  · by_cases hl : i < σ.length
    · rw [wipe_in l σ i hi hl, wipe_in l σ' i hi (by rw [h.1, wipe_length]; exact hl)]
    · rw [List.getElem?_eq_none (by rw [wipe_length, h.1, wipe_length]; omega), List.getElem?_eq_none (by rw [wipe_length]; omega)]
  · rw [wipe_get l σ' i hi, h.2 i (fun z => hi (hm i z)), wipe_get l σ i hi]
theorem wipeS_get : ∀ (l : List Nat) (s : Sls) (i : Nat), i ∉ l → (wipeS s l)[i]? = s[i]?
  | [], s, i, _ => rfl
  | v :: vs, s, i, h => by
    show ((wipeS s vs).set v .un)[i]? = s[i]?
    rw [List.getElem?_set_ne (fun e => h (by rw [e]; exact List.mem_cons_self))]
    exact wipeS_get vs s i fun z => h (List.mem_cons_of_mem _ z)
theorem backS_len (s0 : Sls) : ∀ (l : List Nat) (s : Sls), (backS s0 s l).length = s.length
  | [], s => rfl
  | v :: vs, s => by
    show ((backS s0 s vs).set v _).length = s.length
    rw [List.length_set]
    exact backS_len s0 vs s
theorem backS_out (s0 : Sls) : ∀ (l : List Nat) (s : Sls) (i : Nat), i ∉ l → (backS s0 s l)[i]? = s[i]?
  | [], s, i, _ => rfl
  | v :: vs, s, i, h => by
    show ((backS s0 s vs).set v _)[i]? = s[i]?
    rw [List.getElem?_set_ne (fun e => h (by rw [e]; exact List.mem_cons_self))]
    exact backS_out s0 vs s i fun z => h (List.mem_cons_of_mem _ z)
theorem backS_in (s0 : Sls) : ∀ (l : List Nat) (s : Sls) (i : Nat) (x : Sl), i ∈ l → (backS s0 s l)[i]? = some x → s0[i]? = some x ∨ x = .un
  | [], s, i, x, h, _ => by simp at h
  | v :: vs, s, i, x, h, e => by
    have e : ((backS s0 s vs).set v (match s0[v]? with | some x => x | none => .un))[i]? = some x := e
    by_cases z : v = i
    · subst z
      by_cases hl : v < (backS s0 s vs).length
      · rw [List.getElem?_set_self hl] at e
        split at e
        · rename_i y hy
          cases e
          exact .inl hy
        · cases e
          exact .inr rfl
      · rw [List.getElem?_eq_none (by simpa using hl)] at e
        cases e
    · rw [List.getElem?_set_ne z] at e
      rcases List.mem_cons.mp h with q | q
      · exact (z q.symm).elim
      · exact backS_in s0 vs s i x q e
theorem noOwn_get {s : Sls} : ∀ {l : List Nat} {i : Nat} {x : Sl}, noOwn s l = true → i ∈ l → s[i]? = some x → x.own = none
  | [], i, x, _, h, _ => by simp at h
  | v :: vs, i, x, n, h, e => by
    unfold noOwn at n
    rw [Bool.and_eq_true] at n
    rcases List.mem_cons.mp h with rfl | h
    · have n1 := n.1
      unfold ownAt at n1
      rw [e] at n1
      simpa using n1
    · exact noOwn_get n.2 h e
/-- the own slots as they stood ahead -/
theorem SR.back {F1 H1 : Hp} {s1 s2 : Sls} {l : List Nat} (h1 : SR G B F1 H1 σ s1) (h2 : SR G B F H (L2.wipe σ l) s2) (e : Same F1 F) (n : noOwn s1 l = true) : SR G B F H σ (backS s1 s2 l) := by
  have cs : ∀ {i : Nat} {x : Sl}, (backS s1 s2 l)[i]? = some x → (i ∈ l ∧ ((s1[i]? = some x ∧ x.own = none) ∨ x = .un)) ∨ (i ∉ l ∧ s2[i]? = some x ∧ (L2.wipe σ l)[i]? = σ[i]?) := fun {i x} q => by
    by_cases hi : i ∈ l
    · refine .inl ⟨hi, ?_⟩
      rcases backS_in s1 l s2 i x hi q with z | z
      · exact .inl ⟨z, noOwn_get n hi z⟩
      · exact .inr z
    · rw [backS_out s1 l s2 i hi] at q
      exact .inr ⟨hi, q, wipe_get l σ i hi⟩
  have own : ∀ {i : Nat} {x : Sl}, (backS s1 s2 l)[i]? = some x → x.own.isSome = true → s2[i]? = some x ∧ (L2.wipe σ l)[i]? = σ[i]? := fun {i x} q o => by
    rcases cs q with ⟨_, ⟨_, z⟩ | z⟩ | ⟨_, z1, z2⟩
    · rw [z] at o; cases o
    · subst z; cases o
    · exact ⟨z1, z2⟩
  refine ⟨h2.sub, by rw [backS_len, h2.len, wipe_length], fun i t q => ?_, fun i ts q => ?_, fun i ts q => ?_, fun i j x y a b ne q r ox oy sj sk => ?_, h2.fr, h2.pl, h2.ph, h2.f0, h2.nw, fun i c ns ts q => by
    rcases cs q with ⟨_, ⟨z, _⟩ | z⟩ | ⟨_, z1, z2⟩
    · obtain ⟨a, cls, d, k1, k2, k3⟩ := h1.xc i c ns ts z; exact ⟨a, cls, d, k1, k2, k3.imp id fun z => z.mono e⟩
    · cases z
    · rw [← z2]; exact h2.xc i c ns ts z1⟩
  · rcases cs q with ⟨_, ⟨z, _⟩ | z⟩ | ⟨_, z1, z2⟩
    · obtain ⟨v, k1, k2⟩ := h1.im i t z
      exact ⟨v, k1, Rep.mono e _ _ k2⟩
    · cases z
    · obtain ⟨v, k1, k2⟩ := h2.im i t z1
      exact ⟨v, by rw [← z2]; exact k1, k2⟩
  · obtain ⟨z1, z2⟩ := own q rfl
    obtain ⟨a, k1, k2, k3⟩ := h2.mu i ts z1
    exact ⟨a, by rw [← z2]; exact k1, k2, k3⟩
  · obtain ⟨z1, z2⟩ := own q rfl
    obtain ⟨a, k1, k2, k3⟩ := h2.mp i ts z1
    exact ⟨a, by rw [← z2]; exact k1, k2, k3⟩
  · obtain ⟨z1, z2⟩ := own q ox
    obtain ⟨z3, z4⟩ := own r oy
    exact h2.ne i j x y a b ne z1 z3 ox oy (by rw [z2]; exact sj) (by rw [z4]; exact sk)
/-- a new object is to stand -/
def Fr0.prot (B : Fr0) (D : Addr) (o : HO) : Fr0 := { B with H0 := upd B.H0 D o }
theorem SR.prot {D : Addr} {o : HO} (h : SR G B F H σ s) (n : H D = none) : SR G (B.prot D o) F (upd H D o) σ s := by
  have hF : F D = none := h.sub.free n
  have h0 : B.H0 D = none := h.free0 n
  have npa : ∀ a, B.pa = some a → a ≠ D := fun a e z => by
    obtain ⟨vs, q⟩ := h.pl a e
    rw [z, n] at q
    cases q
  have gr := Grow.put (o := o) h.sub n
  have g := h.grow gr
  have nown : ∀ {i : Nat} {a : Addr} {ts : List T}, LstAt G F H a ts → a ≠ D := fun {i a ts} ⟨⟨vs, q, _⟩, _⟩ z => by rw [z, n] at q; cases q
  refine ⟨g.sub, g.len, g.im, fun i ts e => ?_, g.mp, g.ne, fun b u e np => ?_, g.pl, fun a e => ?_, g.f0, fun b e q => ?_, g.xc⟩
  · obtain ⟨a, k1, k2, k3⟩ := h.mu i ts e
    obtain ⟨a', k1', k2', _⟩ := g.mu i ts e
    rw [k1] at k1'
    cases k1'
    exact ⟨a, k1, k2', by show upd B.H0 D o a = none; rw [upd_ne (nown (i := i) k2)]; exact k3⟩
  · have e : upd B.H0 D o b = some u := e
    by_cases z : b = D
    · subst z; rw [upd_same] at e ⊢; exact e
    · rw [upd_ne z] at e; exact g.fr b u e np
  · show upd B.H0 D o a ≠ none
    rw [upd_ne (npa a e)]
    exact h.ph a e
  · show upd B.H0 D o b = none
    have z : b ≠ D := fun z => by subst z; exact q hF
    rw [upd_ne z]
    exact h.nw b e q
theorem SR.unprot {D : Addr} {o : HO} (h : SR G (B.prot D o) F H σ s) (h0 : B.H0 D = none) (npa : B.pa ≠ some D) : SR G B F H σ s := by
  have out : ∀ {b : Addr}, upd B.H0 D o b = none → B.H0 b = none := fun {b} e => by
    by_cases z : b = D
    · subst z; exact h0
    · rw [upd_ne z] at e; exact e
  refine ⟨h.sub, h.len, h.im, fun i ts e => ?_, h.mp, h.ne, fun b u e np => ?_, h.pl, fun a e => ?_, h.f0, fun b e q => out (h.nw b e q), h.xc⟩
  · obtain ⟨a, k1, k2, k3⟩ := h.mu i ts e
    exact ⟨a, k1, k2, out k3⟩
  · refine h.fr b u ?_ np
    show upd B.H0 D o b = some u
    have z : b ≠ D := fun z => by subst z; rw [h0] at e; cases e
    rw [upd_ne z]
    exact e
  · have q : upd B.H0 D o a ≠ none := h.ph a e
    have z : a ≠ D := fun z => by subst z; exact npa e
    rw [upd_ne z] at q
    exact q
/-- the new list has grown -/
theorem SR.reprot {D : Addr} {o o' : HO} (h : SR G (B.prot D o) F H σ s) (h0 : B.H0 D = none) (f0 : B.F0 D = none) (npa : B.pa ≠ some D) : SR G (B.prot D o') F (upd H D o') σ s := by
  have hD : F D = none := by
    cases q : F D with
    | none => rfl
    | some u =>
      have z : upd B.H0 D o D = none := h.nw D f0 (by rw [q]; exact fun z => by cases z)
      rw [upd_same] at z
      cases z
  have ne : ∀ {a : Addr} {ts : List T}, (upd B.H0 D o a = none ∨ B.pa = some a) → a ≠ D := fun {a ts} e z => by
    subst z
    rcases e with e | e
    · rw [upd_same] at e; cases e
    · exact npa e
  have own : ∀ {a : Addr} {ts : List T}, a ≠ D → LstAt G F H a ts → LstAt G F (upd H D o') a ts := fun {a ts} n ⟨⟨vs, k1, k2⟩, k3⟩ => ⟨⟨vs, by rw [upd_ne n]; exact k1, k2⟩, k3⟩
  refine ⟨fun b u e => ?_, h.len, h.im, fun i ts e => ?_, fun i ts e => ?_, h.ne, fun b u e np => ?_, fun a e => ?_, fun a e => ?_, h.f0, fun b e q => ?_, h.xc⟩
  · have z : b ≠ D := fun z => by subst z; rw [hD] at e; cases e
    rw [upd_ne z]
    exact h.sub _ _ e
  · obtain ⟨a, k1, k2, k3⟩ := h.mu i ts e
    have z : a ≠ D := ne (ts := ts) (.inl k3)
    refine ⟨a, k1, own z k2, ?_⟩
    have k3 : upd B.H0 D o a = none := k3
    show upd B.H0 D o' a = none
    rw [upd_ne z] at k3 ⊢
    exact k3
  · obtain ⟨a, k1, k2, k3⟩ := h.mp i ts e
    exact ⟨a, k1, own (ne (ts := ts) (.inr k3)) k2, k3⟩
  · have e : upd B.H0 D o' b = some u := e
    by_cases z : b = D
    · subst z; rw [upd_same] at e ⊢; exact e
    · rw [upd_ne z] at e ⊢
      exact h.fr b u (by show upd B.H0 D o b = some u; rw [upd_ne z]; exact e) np
  · obtain ⟨vs, q⟩ := h.pl a e
    exact ⟨vs, by rw [upd_ne (ne (ts := []) (.inr e))]; exact q⟩
  · have q : upd B.H0 D o a ≠ none := h.ph a e
    have z : a ≠ D := ne (ts := []) (.inr e)
    show upd B.H0 D o' a ≠ none
    rw [upd_ne z] at q ⊢
    exact q
  · have z : b ≠ D := fun z => by subst z; exact q hD
    have k : upd B.H0 D o b = none := h.nw b e q
    show upd B.H0 D o' b = none
    rw [upd_ne z] at k ⊢
    exact k

/-! ### the turns -/
/-- readings for any ground -/
def anyB {β : Type} (t : Fr0 → L2.St → Hp → (β → Hp → Prop) → Prop) : L2.St → Hp → (β → Hp → Prop) → Prop := fun σ H Q => ∃ B, t B σ H Q
def gAny (G : Gx) (g : Tg) : TG := fun v σ H Q => ∃ B, rdG G B g v σ H Q
theorem compL_cons {own : List Nat} {s0 : Sls} {g : Tg} {tst : Sls → Rs Bool} {elt : Sls → Rs T} {x : T} {xs acc ts : List T} {s s2 : Sls} (h : compL own s0 g tst elt (x :: xs) acc s = .ok ts s2) :
    ∃ s1, setTg g x s = some s1 ∧ ((∃ s3 y s4, tst s1 = .ok true s3 ∧ elt s3 = .ok y s4 ∧ acc.length < big ∧ compL own s0 g tst elt xs (acc ++ [y]) (wipeS s4 own) = .ok ts s2) ∨
      (∃ s3, tst s1 = .ok false s3 ∧ compL own s0 g tst elt xs acc (wipeS s3 own) = .ok ts s2)) := by
  unfold compL at h
  split at h
  · rename_i s1 e1
    refine ⟨s1, e1, ?_⟩
    split at h
    · rename_i s3 e3
      split at h
      · rename_i y s4 e4
        split at h
        · rename_i hl
          exact .inl ⟨s3, y, s4, e3, e4, hl, h⟩
        · cases h
      · cases h
    · rename_i s3 e3
      exact .inr ⟨s3, e3, h⟩
    · cases h
  · cases h
theorem rd_comp {own : List Nat} {g : Tg} {it : It} {cs : Cs} {elt : E} (hg : ∀ i ∈ tgS g, i ∈ own) {Q : VK} (hq : rdM G B W (.comp own g it cs elt) σ H Q) :
    tLc (rdI G B W it) (gAny G g) (anyB fun B => rd G B W0 relC (evTs cs)) (anyB fun B => rdE G B W0 elt) own σ H Q := by
  obtain ⟨F, s, sr, p⟩ := hq
  simp only [evM] at p
  refine ⟨F, s, sr, (Pst.bind p).mono ?_⟩
  rintro J H1 ⟨xs, F1, s1, e1, sr1, it, p1⟩
  have it : ItT G J xs F1 := it
  split at p1
  · rename_i hno
    intro D hD
    have h0 : B.H0 D = none := sr1.free0 hD
    have hF1 : F1 D = none := sr1.sub.free hD
    have f0 : B.F0 D = none := sr1.f0.free hF1
    have npa : B.pa ≠ some D := fun z => by
      obtain ⟨vs, q⟩ := sr1.pl D z
      rw [hD] at q
      cases q
    -- the end
    cases hc : compL own s1 g (evTs cs) (evE elt) xs [] (wipeS s1 own) with
    | bad => rw [hc] at p1; exact p1.elim
    | ex c ns es s' =>
      -- a comprehension ends or is bad
      exfalso
      clear p1 p it
      have : ∀ (xs acc : List T) (s : Sls), compL own s1 g (evTs cs) (evE elt) xs acc s = .ex c ns es s' → False := by
        intro xs
        induction xs with
        | nil => intro acc s e; unfold compL at e; cases e
        | cons x xs ih =>
          intro acc s e
          unfold compL at e
          split at e
          · split at e
            · split at e
              · split at e
                · exact ih _ _ e
                · cases e
              · cases e
            · exact ih _ _ e
            · cases e
          · cases e
      exact this _ _ _ hc
    | ok ts s2 =>
      rw [hc] at p1
      -- the invariant
      let Inv : Nat → Hp → Prop := fun i H' => ∃ F' s' acc vacc, Same F1 F' ∧ SR G (B.prot D (.lst vacc)) F' H' (L2.wipe σ own) s' ∧ Reps G F' vacc acc ∧ compL own s1 g (evTs cs) (evE elt) (xs.drop i) acc s' = .ok ts s2
      refine ⟨fun i m H' => m = xs.length - i ∧ i ≤ xs.length ∧ Inv i H', ⟨xs.length, by simp, Nat.zero_le _, F1, wipeS s1 own, [], [], .refl _, (sr1.prot hD).wipe own, by simp [Reps], by simpa using hc⟩, ?_⟩
      rintro i m H' ⟨rfl, hi, F', s', acc, vacc, eF, sr', ra, hcl⟩
      have hDl : H' D = some (.lst vacc) := sr'.fr D _ (by show upd B.H0 D (.lst vacc) D = _; rw [upd_same]) npa
      by_cases hlt : i < xs.length
      · refine .inr ⟨it.go i F' H' eF sr'.sub hlt, Inv (i + 1), fun H2 q => ⟨xs.length - (i + 1), by omega, rfl, hlt, q⟩, fun x H2 y => ?_⟩
        obtain ⟨F2, t, gr, ht, rt⟩ := it.yld i F' H' x H2 eF sr'.sub hlt y
        rw [List.drop_eq_getElem_cons hlt] at hcl
        have ht' : xs[i] = t := by
          rw [List.getElem?_eq_getElem hlt] at ht
          exact Option.some.inj ht
        rw [ht'] at hcl
        obtain ⟨s3, h3, hcl⟩ := compL_cons hcl
        have sr2 := sr'.grow gr
        refine ⟨B.prot D (.lst vacc), F2, s', t, s3, sr2, rt, h3, fun σ3 sr3 off => ?_⟩
        have hw := wipe_off off hg
        refine ⟨hw, B.prot D (.lst vacc), F2, s3, sr3, ?_⟩
        -- behind the test
        rcases hcl with ⟨s4, y4, s5, t4, e5, hl, hcl⟩ | ⟨s4, t4, hcl⟩
        · rw [t4]
          rintro b F3 H3 eF3 sr4 rfl
          rw [if_pos rfl]
          refine ⟨B.prot D (.lst vacc), F3, s4, sr4, ?_⟩
          rw [e5]
          intro v F4 H4 eF4 sr5 r
          have hD4 : H4 D = some (.lst vacc) := sr5.fr D _ (by show upd B.H0 D (.lst vacc) D = _; rw [upd_same]) npa
          have eall : Same F' F4 := gr.ff.trans (eF3.trans eF4)
          refine ⟨vacc, hD4, by rw [ra.length, ← big_eq]; exact hl, F4, wipeS s5 own, acc ++ [y4], vacc ++ [v], eF.trans eall, ?_, Reps.append (Reps.mono eall _ _ ra) (Reps.one r), hcl⟩
          have z := (sr5.reprot (o' := .lst (vacc ++ [v])) h0 f0 npa).wipe own
          rw [hw] at z
          exact z
        · rw [t4]
          rintro b F3 H3 eF3 sr4 rfl
          rw [if_neg Bool.false_ne_true]
          have eall : Same F' F3 := gr.ff.trans eF3
          refine ⟨F3, wipeS s4 own, acc, vacc, eF.trans eall, ?_, Reps.mono eall _ _ ra, hcl⟩
          have z := sr4.wipe own
          rw [hw] at z
          exact z
      · have e : i = xs.length := by omega
        subst e
        refine .inl ⟨it.stop F' H' eF sr'.sub, ?_⟩
        rw [List.drop_length] at hcl
        unfold compL at hcl
        cases hcl
        have srB := SR.back sr1 (sr'.unprot h0 npa) eF hno
        have hFD : F' D = none := by
          cases q : F' D with
          | none => rfl
          | some u =>
            have z : upd B.H0 D (.lst vacc) D = none := sr'.nw D f0 (by rw [q]; exact fun z => by cases z)
            rw [upd_same] at z
            cases z
        refine p1 (.ref D) F' H' eF srB ⟨D, rfl, ⟨⟨vacc, hDl, ra⟩, hFD⟩, h0, npa, fun j x q o h => ?_⟩
        -- no slot's own list stands there
        by_cases hj : j ∈ own
        · rcases backS_in s1 own s2 j x hj q with z | z
          · rw [noOwn_get hno hj z] at o
            cases o
          · subst z; cases o
        · rw [backS_out s1 own s2 j hj] at q
          cases ho : x.own with
          | none => rw [ho] at o; cases o
          | some us =>
            obtain ⟨a, k1, _, k3⟩ := sr'.own q ho
            rw [wipe_get own σ j hj, h] at k1
            cases k1
            rcases k3 with k3 | k3
            · have k3 : upd B.H0 D (.lst vacc) D = none := k3
              rw [upd_same] at k3
              cases k3
            · exact npa k3
  · exact p1.elim
end
end FL

/-! FL14: statements. -/
namespace FL
open PySem PySem.Spec L2
/-- what is wanted behind a statement's result -/
def PostS (G : Gx) (B : Fr0) (W : WX) (F : Hp) (r : SO) (D : Ends) : Prop := match r with
  | .nx s' => ∀ σ' F' H', Same F F' → SR G B F' H' σ' s' → D.nx σ' H'
  | .brk s' => ∀ σ' F' H', Same F F' → SR G B F' H' σ' s' → D.bk σ' H'
  | .cnt s' => ∀ σ' F' H', Same F F' → SR G B F' H' σ' s' → D.ct σ' H'
  | .ret t s' => ∀ v σ' F' H', Same F F' → SR G B F' H' σ' s' → Rep G F' v t → D.rt v H'
  | .retF ts s' => ∀ v σ' F' H', Same F F' → SR G B F' H' σ' s' → relM G B σ' s' F' H' v ts → D.rt v H'
  | .ex c ns ts s' => ∀ cls d σ' F' H', Same F F' → SR G B F' H' σ' s' → ExR G F' cls d c ns ts → W cls d σ' H'
  | .bad => False
def rdS (G : Gx) (B : Fr0) (W : WX) (ev : Sls → SO) : TS := fun D σ H => ∃ F s, SR G B F H σ s ∧ PostS G B W F (ev s) D
section
variable {X : Cx} {G : Gx} {B : Fr0} {W : WX} {k : Option Nat} {N : List Str} {sc : Scope} {pos : Pos} {F F' H : Hp} {σ : L2.St} {s : Sls}
variable {a b c e : Expr} {ea eb ec : E} {es : List Expr} {D D' : Ends}
theorem PostS.up {r : SO} (h : PostS G B W F r D) (e : Same F F') : PostS G B W F' r D := by
  cases r with
  | nx s => exact fun σ' F2 H' e2 => h σ' F2 H' (e.trans e2)
  | brk s => exact fun σ' F2 H' e2 => h σ' F2 H' (e.trans e2)
  | cnt s => exact fun σ' F2 H' e2 => h σ' F2 H' (e.trans e2)
  | ret t s => exact fun v σ' F2 H' e2 => h v σ' F2 H' (e.trans e2)
  | retF t s => exact fun v σ' F2 H' e2 => h v σ' F2 H' (e.trans e2)
  | ex c ns ts s => exact fun cls d σ' F2 H' e2 => h cls d σ' F2 H' (e.trans e2)
  | bad => exact h
/-- from an expression's result to a statement's -/
theorem so_bind {α β : Type} {rel : Sls → Hp → Hp → β → α → Prop} {r : Rs α} {kk : α → Sls → SO} (h : PostS G B W F (r.so kk) D) :
    Pst G B W F σ rel r fun b H' => ∃ a F' s', Same F F' ∧ SR G B F' H' σ s' ∧ rel s' F' H' b a ∧ PostS G B W F' (kk a s') D := by
  cases r with
  | ok a s => exact fun b F' H' e sr rl => ⟨a, F', s, e, sr, rl, h.up e⟩
  | ex c ns ts s => exact fun cls d F' H' e sr r => h cls d σ F' H' e sr r
  | bad => exact h
/-- an expression, then what is done with it -/
theorem rd_so {α β : Type} {rel : Sls → Hp → Hp → β → α → Prop} {ev : Sls → Rs α} {kk : α → Sls → SO} (h : rdS G B W (fun s => (ev s).so kk) D σ H) :
    rd G B W rel ev σ H fun b H' => ∃ a F' s', SR G B F' H' σ s' ∧ rel s' F' H' b a ∧ PostS G B W F' (kk a s') D := by
  obtain ⟨F, s, sr, p⟩ := h
  refine ⟨F, s, sr, (so_bind p).mono ?_⟩
  rintro b H' ⟨a, F', s', _, sr', rl, q⟩
  exact ⟨a, F', s', sr', rl, q⟩
theorem isMp_lt {i : Nat} (h : isMp s i = false) : i < s.length := by
  unfold isMp at h
  cases q : s[i]? with
  | none => rw [q] at h; cases h
  | some x => exact (List.getElem?_eq_some_iff.mp q).1

/-! ### stores -/
variable {i : Nat} {x : Str} {px : Pos}
theorem asg_nm {t : T} {v : V} (sr : SR G B F H σ s) (r : Rep G F v t) (p : PostS G B W F (match setTg (.nm i) t s with | some s => .nx s | none => .bad) D) : D.nx (σ.set i (some v)) H := by
  simp only [setTg] at p
  split at p
  · rename_i s' e
    split at e
    · cases e
    · rename_i hm
      cases e
      exact p _ F H (.refl _) (sr.setIm (isMp_lt (by simpa using hm)) r)
  · exact p.elim
theorem s_asg (g : Good X G k N sc W) (hi : N[i]? = some x) (hl : Loc sc x) (hf : X.fn x = true ∨ sc.names.lookup x = some .local) (ha : PE X a (rdE G B W ea)) (hs : swapsWith a (some (.Name x px)) pos.line X.env = pure false) :
    PS X (.Assign [.Name x px] a pos) (rdS G B W (evS (.asg (.nm i) ea))) := by
  refine PS.imp (ps_set (i := i) (by rw [g.hN]; exact g.nd) (by rw [g.hN]; exact hi) (by rw [g.hsc]; exact hl) ha hs (by rw [g.hsc]; exact hf)) fun D σ H hq => ?_
  have hq : rdS G B W (fun s => (evE ea s).so fun t s => match setTg (.nm i) t s with | some s => .nx s | none => .bad) D σ H := by
    obtain ⟨F, s, sr, p⟩ := hq
    simp only [evS] at p
    exact ⟨F, s, sr, p⟩
  obtain ⟨F, s, sr, p⟩ := rd_so (rel := relE G) hq
  refine ⟨F, s, sr, p.mono ?_⟩
  rintro v H' ⟨t, F', s', sr', r, q⟩
  exact asg_nm sr' r q
theorem asg_M {ts : List T} {v : V} (sr : SR G B F H σ s) (r : relM G B σ s F H v ts) (p : PostS G B W F (if isMp s i then .bad else .nx (s.set i (.mu ts))) D) : D.nx (σ.set i (some v)) H := by
  split at p
  · exact p.elim
  · rename_i hm
    obtain ⟨a, rfl, h1, h2, h3, h4⟩ := r
    exact p _ F H (.refl _) (sr.setMu (isMp_lt (by simpa using hm)) h1 h2 h4)
theorem s_asgM (g : Good X G k N sc W) {m : M} (hi : N[i]? = some x) (hl : Loc sc x) (hf : X.fn x = true ∨ sc.names.lookup x = some .local) (ha : PE X a (rdM G B W m)) (hs : swapsWith a (some (.Name x px)) pos.line X.env = pure false) :
    PS X (.Assign [.Name x px] a pos) (rdS G B W (evS (.asgM i m))) := by
  refine PS.imp (ps_set (i := i) (by rw [g.hN]; exact g.nd) (by rw [g.hN]; exact hi) (by rw [g.hsc]; exact hl) ha hs (by rw [g.hsc]; exact hf)) fun D σ H hq => ?_
  have hq : rdS G B W (fun s => (evM m s).so fun ts s => if isMp s i then .bad else .nx (s.set i (.mu ts))) D σ H := by
    obtain ⟨F, s, sr, p⟩ := hq
    simp only [evS] at p
    exact ⟨F, s, sr, p⟩
  obtain ⟨F, s, sr, p⟩ := rd_so (rel := relM G B σ) hq
  refine ⟨F, s, sr, p.mono ?_⟩
  rintro v H' ⟨t, F', s', sr', r, q⟩
  exact asg_M sr' r q
/-- the store that a comprehension on its own line does -/
theorem s_asgMC (g : Good X G k N sc W) {m : M} {t : TE} {y : Expr} (ha : PS X (.Assign [.Name x px] y pos) (tAsg t (gName i))) (hm : ∀ σ H Q, rdM G B W m σ H Q → t σ H Q) :
    PS X (.Assign [.Name x px] y pos) (rdS G B W (evS (.asgM i m))) := by
  refine PS.imp ha fun D σ H hq => hm σ H _ ?_
  have hq : rdS G B W (fun s => (evM m s).so fun ts s => if isMp s i then .bad else .nx (s.set i (.mu ts))) D σ H := by
    obtain ⟨F, s, sr, p⟩ := hq
    simp only [evS] at p
    exact ⟨F, s, sr, p⟩
  obtain ⟨F, s, sr, p⟩ := rd_so (rel := relM G B σ) hq
  refine ⟨F, s, sr, p.mono ?_⟩
  rintro v H' ⟨t, F', s', sr', r, q⟩
  exact asg_M sr' r q
theorem s_asgC (g : Good X G k N sc W) {t : TE} {y : Expr} (ha : PS X (.Assign [.Name x px] y pos) (tAsg t (gName i))) (hm : ∀ σ H Q, rdE G B W ea σ H Q → t σ H Q) :
    PS X (.Assign [.Name x px] y pos) (rdS G B W (evS (.asg (.nm i) ea))) := by
  refine PS.imp ha fun D σ H hq => hm σ H _ ?_
  have hq : rdS G B W (fun s => (evE ea s).so fun t s => match setTg (.nm i) t s with | some s => .nx s | none => .bad) D σ H := by
    obtain ⟨F, s, sr, p⟩ := hq
    simp only [evS] at p
    exact ⟨F, s, sr, p⟩
  obtain ⟨F, s, sr, p⟩ := rd_so (rel := relE G) hq
  refine ⟨F, s, sr, p.mono ?_⟩
  rintro v H' ⟨t, F', s', sr', r, q⟩
  exact asg_nm sr' r q
/-- any target -/
theorem s_asgG {tg : Expr} {gt : Tg} (ha : PE X a (rdE G B W ea)) (hg : PG X tg (rdG G B gt)) (hs : swapsWithSole [tg] a pos.line X.env = pure false) (hw : swappedStores [tg] a X.env = pure none) (h1 : (assignEach [tg] X.env).map (·.2) = [assign tg X.env]) :
    PS X (.Assign [tg] a pos) (rdS G B W (evS (.asg gt ea))) := by
  refine PS.imp (ps_asg ha hg hs hw h1) fun D σ H hq => ?_
  have hq : rdS G B W (fun s => (evE ea s).so fun t s => match setTg gt t s with | some s => .nx s | none => .bad) D σ H := by
    obtain ⟨F, s, sr, p⟩ := hq
    simp only [evS] at p
    exact ⟨F, s, sr, p⟩
  obtain ⟨F, s, sr, p⟩ := rd_so (rel := relE G) hq
  refine ⟨F, s, sr, p.mono ?_⟩
  rintro v H' ⟨t, F', s', sr', r, q⟩
  split at q
  · rename_i s2 e
    exact ⟨F', s', t, s2, sr', r, e, fun σ' sr2 _ => q σ' F' H' (.refl _) sr2⟩
  · exact q.elim
/-- a, b = x, y -/
theorem s_par (hck : k.isSome = true) {j : Nat} {y : Str} {fa fb : Expr} {fs : Es} {py pt : Pos} {kt k2 pt2} (g : Good X G k N sc W) (hi : N[i]? = some x) (hj : N[j]? = some y) (hij : i ≠ j) (hx : sc.names.lookup x = some .local) (hy : sc.names.lookup y = some .local) (ha : PA X [fa, fb] (rd G B W (relEs G) (evEs fs)))
    (hw : swappedStores [.Tuple [.Name x px, .Name y py] kt pt] (.Tuple [fa, fb] k2 pt2) X.env = pure (some [x, y])) :
    PS X (.Assign [.Tuple [.Name x px, .Name y py] kt pt] (.Tuple [fa, fb] k2 pt2) pos) (rdS G B W (evS (.asg (.tp [.nm i, .nm j]) (.tup fs)))) := by
  refine PS.imp (ps_par (i := i) (j := j) (g.calm hck) (by rw [g.hN]; exact g.nd) (by rw [g.hN]; exact hi) (by rw [g.hN]; exact hj) hij (by rw [g.hsc]; exact hx) (by rw [g.hsc]; exact hy) ha hw) fun D σ H hq => ?_
  obtain ⟨F, s, sr, p⟩ := hq
  simp only [evS, evE] at p
  refine ⟨F, s, sr, ?_⟩
  cases h : evEs fs s with
  | bad => rw [h] at p; exact p.elim
  | ex c ns ts s1 => rw [h] at p; exact fun cls d F' H' e sr r => p cls d σ F' H' e sr r
  | ok ts s1 =>
    rw [h] at p
    simp only [Rs.bind] at p
    rintro vs F1 H1 e1 sr1 r
    simp only [relEs] at r
    split at p
    · simp only [Rs.so] at p
      split at p
      · rename_i s2 e
        simp only [setTg] at e
        -- two trees
        cases ts with
        | nil => simp [setTgs] at e
        | cons t ts => cases ts with
          | nil =>
            simp only [setTgs] at e
            split at e
            · cases e
            · cases e
          | cons u ts => cases ts with
            | cons _ _ =>
              simp only [setTgs] at e
              split at e
              · split at e
                · cases e
                · cases e
              · cases e
            | nil =>
              obtain ⟨v, w, rfl, r1, r2⟩ := reps2 r
              refine ⟨v, w, rfl, ?_⟩
              simp only [setTgs, setTg] at e
              split at e
              · rename_i s3 e3
                split at e3
                · cases e3
                · rename_i hm
                  cases e3
                  split at e
                  · rename_i s4 e4
                    split at e4
                    · cases e4
                    · rename_i hm2
                      cases e4
                      cases e
                      have z1 := sr1.setIm (isMp_lt (by simpa using hm)) r1
                      have z2 := z1.setIm (isMp_lt (by simpa using hm2)) r2
                      exact p _ F1 H1 e1 z2
                  · cases e
              · cases e
      · exact p.elim
    · exact p.elim
end
end FL

/-! FL15: further statements, blocks, loops. -/
namespace FL
open PySem PySem.Spec L2
section
variable {X : Cx} {G : Gx} {B : Fr0} {W : WX} {k : Option Nat} {N : List Str} {sc : Scope} {pos : Pos} {F F' H : Hp} {σ : L2.St} {s : Sls}
variable {a b c e : Expr} {ea eb ec : E} {es : List Expr} {D D' : Ends} {i : Nat} {x : Str} {px : Pos}
theorem reps3 {F : Hp} {vs : List V} {t u w : T} (h : Reps G F vs [t, u, w]) : ∃ v1 v2 v3, vs = [v1, v2, v3] ∧ Rep G F v1 t ∧ Rep G F v2 u ∧ Rep G F v3 w := by
  simp only [Reps] at h
  obtain ⟨v, r, rfl, h2, w', r', rfl, h3, w2, r2, rfl, h4, rfl⟩ := h
  exact ⟨v, w', w2, rfl, h2, h3, h4⟩
theorem s_par3 (hck : k.isSome = true) {j l : Nat} {y z : Str} {fa fb fc : Expr} {fs : Es} {py pz pt : Pos} {kt k2 pt2} (g : Good X G k N sc W) (hi : N[i]? = some x) (hj : N[j]? = some y) (hl : N[l]? = some z) (hij : i ≠ j) (hil : i ≠ l) (hjl : j ≠ l) (hx : sc.names.lookup x = some .local) (hy : sc.names.lookup y = some .local) (hz : sc.names.lookup z = some .local)
    (ha : PA X [fa, fb, fc] (rd G B W (relEs G) (evEs fs)))
    (hw : swappedStores [.Tuple [.Name x px, .Name y py, .Name z pz] kt pt] (.Tuple [fa, fb, fc] k2 pt2) X.env = pure (some [x, y, z])) :
    PS X (.Assign [.Tuple [.Name x px, .Name y py, .Name z pz] kt pt] (.Tuple [fa, fb, fc] k2 pt2) pos) (rdS G B W (evS (.asg (.tp [.nm i, .nm j, .nm l]) (.tup fs)))) := by
  refine PS.imp (ps_par3 (i := i) (j := j) (l := l) (g.calm hck) (by rw [g.hN]; exact g.nd) (by rw [g.hN]; exact hi) (by rw [g.hN]; exact hj) (by rw [g.hN]; exact hl) hij hil hjl (by rw [g.hsc]; exact hx) (by rw [g.hsc]; exact hy) (by rw [g.hsc]; exact hz) ha hw) fun D σ H hq => ?_
  obtain ⟨F, s, sr, p⟩ := hq
  simp only [evS, evE] at p
  refine ⟨F, s, sr, ?_⟩
  cases h : evEs fs s with
  | bad => rw [h] at p; exact p.elim
  | ex c ns ts s1 => rw [h] at p; exact fun cls d F' H' e sr r => p cls d σ F' H' e sr r
  | ok ts s1 =>
    rw [h] at p
    simp only [Rs.bind] at p
    rintro vs F1 H1 e1 sr1 r
    simp only [relEs] at r
    split at p
    · simp only [Rs.so] at p
      split at p
      · rename_i s2 e
        simp only [setTg] at e
        have len : ∃ t u w, ts = [t, u, w] := by
          match ts, e with
          | [], e => simp [setTgs] at e
          | [t], e => simp only [setTgs] at e; split at e <;> cases e
          | [t, u], e => simp only [setTgs] at e; split at e <;> first | cases e | (split at e <;> cases e)
          | [t, u, w], e => exact ⟨t, u, w, rfl⟩
          | t :: u :: w :: v :: r, e =>
            simp only [setTgs] at e
            split at e <;> first | cases e | (split at e <;> first | cases e | (split at e <;> cases e))
        obtain ⟨t, u, w, rfl⟩ := len
        obtain ⟨v1, v2, v3, rfl, r1, r2, r3⟩ := reps3 r
        refine ⟨v1, v2, v3, rfl, ?_⟩
        simp only [setTgs, setTg] at e
        split at e
        · rename_i s3 e3
          split at e3
          · cases e3
          · rename_i hm
            cases e3
            split at e
            · rename_i s4 e4
              split at e4
              · cases e4
              · rename_i hm2
                cases e4
                split at e
                · rename_i s5 e5
                  split at e5
                  · cases e5
                  · rename_i hm3
                    cases e5
                    cases e
                    have z1 := sr1.setIm (isMp_lt (by simpa using hm)) r1
                    have z2 := z1.setIm (isMp_lt (by simpa using hm2)) r2
                    have z3 := z2.setIm (isMp_lt (by simpa using hm3)) r3
                    exact p _ F1 H1 e1 z3
                · cases e
            · cases e
        · cases e
      · exact p.elim
    · exact p.elim
theorem pv' (g : Good X G k N sc W) (hi : N[i]? = some x) (hv : Vis sc x) (hd : (x == ("__debug__" : Str)) = false) (hcd : (x == ("__classdict__" : Str)) = false) : PE X (.Name x px) (tVar i) :=
  pe_var (i := i) (by rw [g.hN]; exact hi) (by rw [g.hsc]; exact hv) hd hcd
/-- x[k] = e -/
theorem s_setI (g : Good X G k N sc W) {p2 : Pos} (hi : N[i]? = some x) (hv : Vis sc x) (hd : (x == ("__debug__" : Str)) = false) (hcd : (x == ("__classdict__" : Str)) = false) (hb : PE X b (rdE G B W eb)) (ha : PE X a (rdE G B W ea))
    (hass : ∀ v, assign (.Subscript (.Name x px) b p2) X.env v = (do
      let ov ← holding [v] (eval (.Name x px) X.env)
      let iv ← holding [v, ov] (eval b X.env)
      standAt p2
      holding [v, ov, iv] (setItem ov iv v)
      release [v, ov, iv] []))
    (hs : swapsWithSole [.Subscript (.Name x px) b p2] a pos.line X.env = pure false) : PS X (.Assign [.Subscript (.Name x px) b p2] a pos) (rdS G B W (evS (.setI i eb ea))) := by
  refine PS.imp (ps_asg ha (pg_sub (pv' g hi hv hd hcd) hb set_list hass) hs rfl rfl) fun D σ H hq => ?_
  obtain ⟨F, s, sr, p⟩ := hq
  simp only [evS] at p
  refine ⟨F, s, sr, (so_bind (rel := relE G) p).mono ?_⟩
  rintro v H1 ⟨t, F1, s1, e1, sr1, r, p1⟩
  split at p1
  · rename_i ts0 ho
    obtain ⟨ad, y, h1, h2, h3, _⟩ := own_at sr1 ho
    refine ⟨.ref ad, h3, F1, s1, sr1, (so_bind (rel := relE G) p1).mono ?_⟩
    rintro w H2 ⟨u, F2, s2, e2, sr2, r2, p2⟩
    split at p2
    · rename_i ts j ho2
      obtain ⟨ad', h5, ⟨⟨vs, h6, h7⟩, h8⟩⟩ := sr1.same_own sr2 ho ho2 h3
      cases h5
      simp only [relE, Rep] at r2
      subst r2
      split at p2
      · rename_i n hn
        obtain ⟨_, y2, k1, k2, k3, _⟩ := own_at sr2 ho2
        refine ⟨ad, vs, j, n, rfl, rfl, h6, by rw [h7.length]; exact hn, ?_⟩
        exact p2 _ F2 _ (.refl _) (sr2.write k1 k2 h3 (Reps.set (Rep.mono e2 _ _ r) n h7))
      · exact p2.elim
    · exact p2.elim
  · exact p1.elim
/-- x.append(e) -/
theorem s_app (g : Good X G k N sc W) {apos cpos : Pos} (hi : N[i]? = some x) (hv : Vis sc x) (hd : (x == ("__debug__" : Str)) = false) (hcd : (x == ("__classdict__" : Str)) = false) (ha : PE X a (rdE G B W ea)) (hs : starEach [a] X.env = [(false, eval a X.env)])
    (hline : (apos.endLine == cpos.line) = true) : PS X (.Expr (.Call (.Attribute (.Name x px) "append" apos) [a] [] cpos) pos) (rdS G B W (evS (.app i ea))) := by
  refine PS.imp (ps_expr (pe_bm PySem.F.plainAttrs_list PySem.F.slot_list_append PySem.F.type_list_append mt_append (pv' g hi hv hd hcd) (pa_cons ha pa_nil hs) (hfew := by rw [hs]; rfl) (hline := hline) (hs := hs)) rfl) fun D σ H hq => ?_
  obtain ⟨F, s, sr, p⟩ := hq
  simp only [evS] at p
  split at p
  · rename_i ts0 ho
    obtain ⟨ad, y, h1, h2, h3, ⟨⟨vs0, h40, _⟩, _⟩⟩ := own_at sr ho
    refine ⟨.ref ad, h3, ?_, F, s, sr, (so_bind (rel := relE G) p).mono ?_⟩
    · exact .inl ⟨rfl, _, .inl (.inl h40)⟩
    · rintro v H1 ⟨t, F1, s1, e1, sr1, r, p1⟩
      split at p1
      · rename_i ts ho1
        obtain ⟨ad', h5, ⟨⟨vs, h6, h7⟩, h8⟩⟩ := sr.same_own sr1 ho ho1 h3
        cases h5
        split at p1
        · rename_i hl
          obtain ⟨_, y2, k1, k2, k3, _⟩ := own_at sr1 ho1
          exact ⟨ad, vs, v, rfl, rfl, h6, by rw [h7.length, ← big_eq]; exact hl, p1 _ F1 _ (.refl _) (sr1.write k1 k2 h3 (Reps.append h7 (Reps.one r)))⟩
        · exact p1.elim
      · exact p1.elim
  · exact p.elim

/-! ### small ones -/
theorem s_expr (ha : PE X a (rdE G B W ea)) (hs : swapsWith a none pos.line X.env = pure false) : PS X (.Expr a pos) (rdS G B W (evS (.expr ea))) := by
  refine PS.imp (ps_expr ha hs) fun D σ H hq => ?_
  obtain ⟨F, s, sr, p⟩ := hq
  simp only [evS] at p
  refine ⟨F, s, sr, (so_bind (rel := relE G) p).mono ?_⟩
  rintro v H1 ⟨t, F1, s1, e1, sr1, r, p1⟩
  exact p1 _ F1 H1 (.refl _) sr1
theorem s_doc {y : Str} {j : Nat} {p2 : Pos} : PS X (.Expr (.Constant (.str y) j p2) pos) (rdS G B W (evS .pass)) := by
  refine PS.imp ps_doc fun D σ H hq => ?_
  obtain ⟨F, s, sr, p⟩ := hq
  simp only [evS] at p
  exact p _ F H (.refl _) sr
theorem s_pass : PS X (.Pass pos) (rdS G B W (evS .pass)) := by
  refine PS.imp ps_pass fun D σ H hq => ?_
  obtain ⟨F, s, sr, p⟩ := hq
  simp only [evS] at p
  exact p _ F H (.refl _) sr
theorem s_brk : PS X (.Break pos) (rdS G B W (evS .brk)) := by
  refine PS.imp ps_break fun D σ H hq => ?_
  obtain ⟨F, s, sr, p⟩ := hq
  simp only [evS] at p
  exact p _ F H (.refl _) sr
theorem s_cnt : PS X (.Continue pos) (rdS G B W (evS .cnt)) := by
  refine PS.imp ps_continue fun D σ H hq => ?_
  obtain ⟨F, s, sr, p⟩ := hq
  simp only [evS] at p
  exact p _ F H (.refl _) sr
theorem s_ret (ha : PE X a (rdE G B W ea)) : PS X (.Return (some a) pos) (rdS G B W (evS (.ret ea))) := by
  refine PS.imp (ps_ret ha) fun D σ H hq => ?_
  obtain ⟨F, s, sr, p⟩ := hq
  simp only [evS] at p
  refine ⟨F, s, sr, (so_bind (rel := relE G) p).mono ?_⟩
  rintro v H1 ⟨t, F1, s1, e1, sr1, r, p1⟩
  exact p1 v σ F1 H1 (.refl _) sr1 r
theorem s_retN : PS X (.Return none pos) (rdS G B W (evS .retN)) := by
  refine PS.imp ps_retN fun D σ H hq => ?_
  obtain ⟨F, s, sr, p⟩ := hq
  simp only [evS] at p
  exact p .non σ F H (.refl _) sr (by simp only [Rep])
theorem s_retM {m : M} (ha : PE X a (rdM G B W m)) : PS X (.Return (some a) pos) (rdS G B W (evS (.retM m))) := by
  refine PS.imp (ps_ret ha) fun D σ H hq => ?_
  obtain ⟨F, s, sr, p⟩ := hq
  simp only [evS] at p
  refine ⟨F, s, sr, (so_bind (rel := relM G B σ) p).mono ?_⟩
  rintro v H1 ⟨t, F1, s1, e1, sr1, r, p1⟩
  exact p1 v σ F1 H1 (.refl _) sr1 r
theorem s_retB (g : Good X G k N sc W) {p2 : Pos} (hi : N[i]? = some x) (hv : Vis sc x) (hd : (x == ("__debug__" : Str)) = false) (hcd : (x == ("__classdict__" : Str)) = false) : PS X (.Return (some (.Name x px)) pos) (rdS G B W (evS (.retB i))) := by
  refine PS.imp (ps_ret (pv' g hi hv hd hcd)) fun D σ H hq => ?_
  obtain ⟨F, s, sr, p⟩ := hq
  simp only [evS] at p
  split at p
  · rename_i ts e
    obtain ⟨a, h1, h2, h3⟩ := sr.mu i ts e
    refine ⟨.ref a, h1, ?_⟩
    have hil : i < σ.length := (List.getElem?_eq_some_iff.mp h1).1
    have z := sr.setUn i (some (.ref a))
    refine p (.ref a) _ F H (.refl _) z ⟨a, rfl, h2, h3, fun q => sr.ph a q h3, fun j y q o h => ?_⟩
    by_cases hj : j = i
    · subst hj
      rw [List.getElem?_set_self (by rw [sr.len]; exact hil)] at q
      cases q
      cases o
    · rw [List.getElem?_set_ne (Ne.symm hj)] at q h
      exact sr.ne j i y _ a a hj q e o rfl h h1 rfl
  · exact p.elim
/-! ### blocks -/
variable {st : Stmt} {sts sts2 : List Stmt} {x1 x2 : Sls → SO}
theorem ss_nil : PSs X [] (rdS G B W (evSs [])) := by
  refine PSs.imp pss_nil fun D σ H hq => ?_
  obtain ⟨F, s, sr, p⟩ := hq
  simp only [evSs] at p
  exact p _ F H (.refl _) sr
theorem ss_cons {y : S} {ys : List S} (h1 : PS X st (rdS G B W (evS y))) (h2 : PSs X sts (rdS G B W (evSs ys))) : PSs X (st :: sts) (rdS G B W (evSs (y :: ys))) := by
  refine PSs.imp (pss_cons h1 h2) fun D σ H hq => ?_
  obtain ⟨F, s, sr, p⟩ := hq
  simp only [evSs] at p
  refine ⟨F, s, sr, ?_⟩
  cases h : evS y s with
  | nx s1 =>
    rw [h] at p
    exact fun σ' F' H' e sr' => ⟨F', s1, sr', PostS.up p e⟩
  | brk s1 => rw [h] at p; exact p
  | cnt s1 => rw [h] at p; exact p
  | ret t s1 => rw [h] at p; exact p
  | retF t s1 => rw [h] at p; exact p
  | ex c ns ts s1 => rw [h] at p; exact p
  | bad => rw [h] at p; exact p
theorem s_if {ca : C} {ya yb : List S} (hc : PT X c (rdC G B W ca)) (ha : PSs X sts (rdS G B W (evSs ya))) (hb : PSs X sts2 (rdS G B W (evSs yb))) : PS X (.If c sts sts2 pos) (rdS G B W (evS (.ifS ca ya yb))) := by
  refine PS.imp (ps_if hc ha hb) fun D σ H hq => ?_
  obtain ⟨F, s, sr, p⟩ := hq
  simp only [evS] at p
  refine ⟨F, s, sr, (so_bind (rel := relC) p).mono ?_⟩
  rintro d H1 ⟨d', F1, s1, e1, sr1, rfl, p1⟩
  cases d with
  | true => rw [if_pos rfl] at p1 ⊢; exact ⟨F1, s1, sr1, p1⟩
  | false => rw [if_neg Bool.false_ne_true] at p1 ⊢; exact ⟨F1, s1, sr1, p1⟩
theorem s_for {tg iter : Expr} {gt : Tg} {it : It} {ys : List S} (hp : PassesOwn (model X.prog X.w) X.A X.env X.xe) (hc : X.calm = true) (hi : PI X tg iter (rdI G B W it)) (hg : PG X tg (rdG G B gt)) (hb : PSs X sts (rdS G B W (evSs ys))) (hs : ∀ x, foldedSetIterable iter X.env x = pure x) :
    PS X (.For tg iter sts [] pos) (rdS G B W (evS (.forS gt it ys))) := by
  refine PS.imp (ps_for hp hc hi hg hb hs) fun D σ H hq => ?_
  obtain ⟨F, s, sr, p⟩ := hq
  simp only [evS] at p
  refine ⟨F, s, sr, (so_bind (rel := relI G) p).mono ?_⟩
  rintro J H1 ⟨xs, F1, s1, e1, sr1, it, p1⟩
  have it : ItT G J xs F1 := it
  refine ⟨fun i m σ H => m = xs.length - i ∧ i ≤ xs.length ∧ ∃ F s, Same F1 F ∧ SR G B F H σ s ∧ PostS G B W F (forL gt (evSs ys) (xs.drop i) s) D, ⟨xs.length, by simp, Nat.zero_le _, F1, s1, .refl _, sr1, by simpa using p1⟩, ?_⟩
  rintro i m σ H ⟨rfl, hi, F', s', eF, sr', p'⟩
  by_cases hlt : i < xs.length
  · refine .inr ⟨it.go i F' H eF sr'.sub hlt, fun σ2 H2 => ∃ F s, Same F1 F ∧ SR G B F H2 σ2 s ∧ PostS G B W F (forL gt (evSs ys) (xs.drop (i + 1)) s) D, fun σ2 H2 q => ⟨xs.length - (i + 1), by omega, rfl, hlt, q⟩, fun x H2 y => ?_⟩
    obtain ⟨F2, t, gr, ht, rt⟩ := it.yld i F' H x H2 eF sr'.sub hlt y
    rw [List.drop_eq_getElem_cons hlt] at p'
    have ht' : xs[i] = t := by
      rw [List.getElem?_eq_getElem hlt] at ht
      exact Option.some.inj ht
    rw [ht'] at p'
    unfold forL at p'
    split at p'
    · exact p'.elim
    · rename_i s3 e3
      refine ⟨F2, s', t, s3, sr'.grow gr, rt, e3, fun σ3 sr3 _ => ⟨F2, s3, sr3, ?_⟩⟩
      have p2 := p'.up gr.ff
      cases h : evSs ys s3 with
      | nx s4 => rw [h] at p2; exact fun σ' F3 H' e sr4 => ⟨F3, s4, eF.trans (gr.ff.trans e), sr4, p2.up e⟩
      | cnt s4 => rw [h] at p2; exact fun σ' F3 H' e sr4 => ⟨F3, s4, eF.trans (gr.ff.trans e), sr4, p2.up e⟩
      | brk s4 => rw [h] at p2; exact p2
      | ret t s4 => rw [h] at p2; exact p2
      | retF t s4 => rw [h] at p2; exact p2
      | ex c ns ts s4 => rw [h] at p2; exact p2
      | bad => rw [h] at p2; exact p2
  · have e : i = xs.length := by omega
    subst e
    refine .inl ⟨it.stop F' H eF sr'.sub, ?_⟩
    rw [List.drop_length] at p'
    unfold forL at p'
    exact p' _ F' H (.refl _) sr'
theorem s_whl {ca : C} {n : Nat} {ys : List S} (hp : PassesOwn (model X.prog X.w) X.A X.env X.xe) (hc : PT X c (rdC G B W ca)) (hb : PSs X sts (rdS G B W (evSs ys))) : PS X (.While c sts [] pos) (rdS G B W (evS (.whl n ca ys))) := by
  refine PS.imp (ps_while hp hc hb) fun D σ H hq => ?_
  obtain ⟨F, s, sr, p⟩ := hq
  simp only [evS] at p
  refine ⟨fun m σ H => ∃ F s, SR G B F H σ s ∧ PostS G B W F (whileL (evC ca) (evSs ys) m s) D, ⟨n, F, s, sr, p⟩, ?_⟩
  rintro m σ H ⟨F, s, sr, p⟩
  cases m with
  | zero => exact p.elim
  | succ m =>
    unfold whileL at p
    refine ⟨F, s, sr, (so_bind (rel := relC) p).mono ?_⟩
    rintro d H1 ⟨d', F1, s1, e1, sr1, rfl, p1⟩
    cases d with
    | true =>
      rw [if_pos rfl] at p1 ⊢
      refine ⟨fun σ2 H2 => ∃ F s, SR G B F H2 σ2 s ∧ PostS G B W F (whileL (evC ca) (evSs ys) m s) D, fun σ2 H2 q => ⟨m, Nat.lt_succ_self m, q⟩, F1, s1, sr1, ?_⟩
      cases h : evSs ys s1 with
      | nx s4 => rw [h] at p1; exact fun σ' F3 H' e sr4 => ⟨F3, s4, sr4, PostS.up p1 e⟩
      | cnt s4 => rw [h] at p1; exact fun σ' F3 H' e sr4 => ⟨F3, s4, sr4, PostS.up p1 e⟩
      | brk s4 => rw [h] at p1; exact p1
      | ret t s4 => rw [h] at p1; exact p1
      | retF t s4 => rw [h] at p1; exact p1
      | ex c ns ts s4 => rw [h] at p1; exact p1
      | bad => rw [h] at p1; exact p1
    | false =>
      rw [if_neg Bool.false_ne_true] at p1 ⊢
      exact p1 _ F1 H1 (.refl _) sr1
end
end FL

/-! FL16: a def keeps its meaning. -/
namespace FL
open PySem PySem.Spec L2
/-- a def's own frame (no comprehension's block, no except suite) -/
structure TopX (X : Cx) : Prop where
  fn : ∀ x, X.fn x = true
  pass : PassesOwn (model X.prog X.w) X.A X.env X.xe
  stk : X.stack = X.env :: X.outer
  frm : X.env.frame = some X.env.locals
section
variable {G : Gx} {B : Fr0} {W : WX} {k : Nat} {N : List Str} {F F' H : Hp} {σ : L2.St} {s : Sls}
theorem SR.append (h : SR G B F H σ s) (n : Nat) : SR G B F H (σ ++ List.replicate n none) (s ++ List.replicate n .un) := by
  have old : ∀ {i : Nat} {x : Sl}, (s ++ List.replicate n .un)[i]? = some x → x ≠ .un → s[i]? = some x ∧ (σ ++ List.replicate n none)[i]? = σ[i]? := fun {i x} e nx => by
    by_cases hi : i < s.length
    · rw [List.getElem?_append_left hi] at e
      exact ⟨e, List.getElem?_append_left (by rw [← h.len]; exact hi)⟩
    · rw [List.getElem?_append_right (by omega)] at e
      rw [List.getElem?_replicate] at e
      split at e
      · cases e; exact (nx rfl).elim
      · cases e
  refine ⟨h.sub, by simp [h.len], fun i t e => ?_, fun i ts e => ?_, fun i ts e => ?_, fun i j x y a b ne q r ox oy sj sk => ?_, h.fr, h.pl, h.ph, h.f0, h.nw, fun i c ns ts e => by
    obtain ⟨e1, e2⟩ := old e (fun z => by cases z)
    rw [e2]; exact h.xc i c ns ts e1⟩
  · obtain ⟨e1, e2⟩ := old e (fun z => by cases z)
    rw [e2]; exact h.im i t e1
  · obtain ⟨e1, e2⟩ := old e (fun z => by cases z)
    rw [e2]; exact h.mu i ts e1
  · obtain ⟨e1, e2⟩ := old e (fun z => by cases z)
    rw [e2]; exact h.mp i ts e1
  · obtain ⟨q1, q2⟩ := old q (fun z => by subst z; cases ox)
    obtain ⟨r1, r2⟩ := old r (fun z => by subst z; cases oy)
    rw [q2] at sj
    rw [r2] at sk
    exact h.ne i j x y a b ne q1 r1 ox oy sj sk
theorem startS_len {m : Option Nat} : ∀ {ts : List T} {n : Nat} {s0 : Sls}, startS m ts n = some s0 → s0.length = ts.length
  | [], n, s0, h => by
    have h : some ([] : Sls) = some s0 := h
    cases h
    rfl
  | t :: ts, n, s0, h => by
    unfold startS at h
    split at h
    · split at h
      · cases e : startS m ts (n + 1) with
        | none => rw [e] at h; cases h
        | some s1 =>
          rw [e] at h
          cases h
          simp [startS_len e]
      · cases h
    · cases e : startS m ts (n + 1) with
      | none => rw [e] at h; cases h
      | some s1 =>
        rw [e] at h
        cases h
        simp [startS_len e]
/-- the def's meaning by its body -/
def mkFS (name : Str) (np n : Nat) (mu : Option Nat) (fresh : Bool) (body : List S) : FS := ⟨name, mu, fresh, mkSem np n mu fresh body⟩
theorem mkSem_ne {np n : Nat} {mu : Option Nat} {fresh : Bool} {body : List S} {ts : List T} {s0 : Sls} (h : mkSem np n mu fresh body ts ≠ .bad) (e : startS mu ts 0 = some s0) : ts.length = np ∧
    mkSem np n mu fresh body ts = (match evSs body (s0 ++ List.replicate n .un) with
      | .ret t s => if fresh then .bad else (match outS mu s with | some o => .ok t o | none => .bad)
      | .retF us s => if fresh then (match outS mu s with | some o => .ok (.lst us) o | none => .bad) else .bad
      | .nx s => if fresh then .bad else (match outS mu s with | some o => .ok .non o | none => .bad)
      | .ex c ns es s => (match outS mu s with | some o => .ex c ns es o | none => .bad)
      | _ => .bad) := by
  unfold mkSem at h ⊢
  by_cases hl : ts.length = np
  · rw [if_pos hl] at h ⊢
    rw [e] at h ⊢
    exact ⟨hl, rfl⟩
  · rw [if_neg hl] at h
    exact (h rfl).elim
/-- what the callers want, from the end of the body -/
theorem out_post {m : Option Nat} {pa : Option Addr} {H0 F0 F' H' : Hp} {σ' : L2.St} {s' : Sls} {o : List T} (hm : m = none → pa = none) (sr : SR G ⟨H0, pa, F0, none⟩ F' H' σ' s') (h : outS m s' = some o) : CallPost G H0 pa F0 F' H' o := by
  refine ⟨sr.f0, sr.sub, sr.fr, sr.nw, fun a e => ?_⟩
  unfold outS at h
  cases m with
  | none => rw [hm rfl] at e; cases e
  | some p =>
    simp only at h
    split at h
    · rename_i o' e'
      cases h
      obtain ⟨a', k1, k2, k3⟩ := sr.mp p _ e'
      have k3 : pa = some a' := k3
      rw [e] at k3
      cases k3
      exact k2
    · cases h
theorem fn_ok {x qual : Str} {params : Arguments} {bd : List Stmt} {scope : Scope} {dvs : List V} {kws : List (Str × V)} {f : Addr} {fd : FuncData} {ps : List Str} {np n : Nat} {mu : Option Nat} {fresh : Bool} {ir : List S} {name : Str}
    (FD : FunD G.K x qual params bd scope dvs kws f fd) (S : FnScope N ps scope) (hnp : ps.length = np) (hN : N.length = np + n)
    (hb : ∀ (X : Cx) (W : WX) (B : Fr0), Good X G (some k) N scope W → TopX X → B.xa = none → PSs X bd (rdS G B W (evSs ir))) :
    FnOk G.P G.w G.K G.mg G.base (L2.CX G.P G.w) (k + 1) f fd ps (spF G (mkFS name np n mu fresh ir)) := by
  have lens : ∀ {vs : List V} {H : Hp} {Q : VK} {E : XK}, spF G (mkFS name np n mu fresh ir) vs H Q E → vs.length = np := fun {vs H Q E} h => by
    obtain ⟨F, ts, s0, pa, h1, h2, h3, h4⟩ := h
    have hne : mkSem np n mu fresh ir ts ≠ .bad := fun z => by
      have h4 : (match mkSem np n mu fresh ir ts with | .ok t o => _ | .ex c ns es o => _ | .bad => False) := h4
      rw [z] at h4
      exact h4
    obtain ⟨hl, _⟩ := mkSem_ne hne h1
    have e1 := h2.len
    rw [List.length_map, startS_len h1, hl] at e1
    exact e1.symm
  refine FD.ok (CX := L2.CX G.P G.w) S (fun vs H Q E h => by rw [lens h, hnp]) (fun cdv A outer s H vs Q E hr h => ?_)
  obtain ⟨F, ts, s0, pa, h1, h2, h3, h4⟩ := id h
  have hvl := lens h
  have hne : mkSem np n mu fresh ir ts ≠ .bad := fun z => by
    have h4 : (match mkSem np n mu fresh ir ts with | .ok t o => _ | .ex c ns es o => _ | .bad => False) := h4
    rw [z] at h4
    exact h4
  obtain ⟨hl, he⟩ := mkSem_ne hne h1
  refine ⟨rdS G ⟨H, pa, F, none⟩ (fun cls d _ H => E cls d H) (evSs ir), hb _ _ _ ⟨rfl, rfl, rfl, rfl, rfl, rfl, S.nd, rfl, fun _ => rfl, fun n e => by cases e; exact hr, ?_, fun _ => takes_of rfl rfl rfl rfl⟩ ⟨fun _ => rfl, passes_of rfl, rfl, rfl⟩ rfl, F, s0 ++ List.replicate n .un, ?_, ?_⟩
  · have h := hr.un
    show (A.deeper (PyProof.Rows.envOfC qual scope s.heap.objs.size f cdv)).units + 65 < cLine
    omega
  · have z := h2.append n
    have e : N.length - vs.length = n := by rw [hN, hvl]; omega
    unfold L2.start
    rw [e]
    exact z
  · have h4 : (match mkSem np n mu fresh ir ts with
      | .ok t o => ∀ v F' H', CallPost G H pa F F' H' o → RetR G fresh H pa F' H' v t → Q v H'
      | .ex c ns es o => ∀ cls d F' H', CallPost G H pa F F' H' o → ExR G F' cls d c ns es → E cls d H'
      | .bad => False) := h4
    rw [he] at h4
    cases h : evSs ir (s0 ++ List.replicate n .un) with
    | nx s1 =>
      rw [h] at h4
      intro σ' F' H' e sr'
      cases fresh with
      | true => exact h4.elim
      | false =>
        simp only [Bool.false_eq_true, if_false] at h4
        split at h4
        · rename_i t o hx
          split at hx
          · rename_i o' ho
            cases hx
            exact h4 .non F' H' (out_post h3 sr' ho) (by unfold RetR; simp [Rep])
          · cases hx
        · rename_i hx
          split at hx <;> cases hx
        · exact h4.elim
    | ret t s1 =>
      rw [h] at h4
      intro v σ' F' H' e sr' r
      cases fresh with
      | true => exact h4.elim
      | false =>
        simp only [Bool.false_eq_true, if_false] at h4
        split at h4
        · rename_i t o hx
          split at hx
          · rename_i o' ho
            cases hx
            exact h4 v F' H' (out_post h3 sr' ho) (by unfold RetR; simpa using r)
          · cases hx
        · rename_i hx
          split at hx <;> cases hx
        · exact h4.elim
    | retF us s1 =>
      rw [h] at h4
      rintro v σ' F' H' e sr' ⟨a, rfl, r1, r2, r3, r4⟩
      cases fresh with
      | false => exact h4.elim
      | true =>
        simp only [if_true] at h4
        split at h4
        · rename_i t o hx
          split at hx
          · rename_i o' ho
            cases hx
            refine h4 _ F' H' (out_post h3 sr' ho) ?_
            unfold RetR
            simp only [if_true]
            exact ⟨a, us, rfl, rfl, r1, r2, r3⟩
          · cases hx
        · rename_i hx
          split at hx <;> cases hx
        · exact h4.elim
    | ex c ns es s1 =>
      rw [h] at h4
      intro cls d σ' F' H' e sr' r
      simp only at h4
      split at h4
      · rename_i t o hx
        split at hx <;> cases hx
      · rename_i o hx
        split at hx
        · rename_i o' ho
          cases hx
          exact h4 cls d F' H' (out_post h3 sr' ho) r
        · cases hx
      · exact h4.elim
    | brk s1 => rw [h] at h4; exact h4.elim
    | cnt s1 => rw [h] at h4; exact h4.elim
    | bad => rw [h] at h4; exact h4.elim
end
end FL

/-! FL17: own exceptions whose __init__ says super().__init__(..). -/
namespace FL
open PySem PySem.Spec L2
open PySem.W (Frag)

/-- a def that closes over __class__ -/
abbrev fnOfC (name qual : Str) (params : Arguments) (body : List Stmt) (scope : Scope) (dV kV doc pm : Value) (an : Option Addr) (cdv ct : Value) (cc : Addr) : FuncData :=
  { name, qualname := qual, params, body := .stmts body, scope, globals := mainGlobals, closure := [(("__class__" : Str), cc)], defaults := dV, kwdefaults := kV, doc, pyModule := pm, annotations := an, code := cdv, closureTuple := ct, builtins := builtinsNs }

/-- an argument of super().__init__ -/
inductive XA where | s (x : Str) (j : Nat) (p : Pos) | n (i : Nat) (x : Str) (p : Pos)
def XA.ex : XA → Expr
  | .s x j p => .Constant (.str x) j p
  | .n _ x p => .Name x p
def XA.ok (ps : List Str) (names : List (Str × NameKind)) : XA → Bool
  | .s _ _ _ => true
  | .n i x _ => decide (ps[i]? = some x) && (decide (names.lookup x = some .local) && (!(x == ("__debug__" : Str)) && !(x == ("__classdict__" : Str))))
/-- a field: its name, the parameter -/
structure XF where
  f : Str
  i : Nat
  x : Str
  slf : Str
  p1 : Pos
  p2 : Pos
  p3 : Pos
  p4 : Pos
def XF.st (a : XF) : Stmt := .Assign [.Attribute (.Name a.slf a.p1) a.f a.p2] (.Name a.x a.p3) a.p4
def XF.ok (ps : List Str) (names : List (Str × NameKind)) (a : XF) : Bool :=
  decide (ps[0]? = some a.slf) && (decide (names.lookup a.slf = some .local) && (!(a.slf == ("__debug__" : Str)) && (!(a.slf == ("__classdict__" : Str)) &&
  (decide (ps[a.i]? = some a.x) && (decide (names.lookup a.x = some .local) && (!(a.x == ("__debug__" : Str)) && !(a.x == ("__classdict__" : Str))))))))
def supBody (slf : Str) (xs : List XA) (fs : List XF) (p0 p1 p2 p3 p4 : Pos) : List Stmt :=
  .Expr (.Call (.Attribute (.Call (.Name "super" p0) [] [] p1) "__init__" p2) (xs.map XA.ex) [] p3) p4 :: fs.map XF.st

theorem lookup_map_mem {α : Type} : ∀ {l : List (Str × α)} {x : Str} {v : α}, (l.map (·.1)).Nodup → (x, v) ∈ l → l.lookup x = some v
  | (n, w) :: r, x, v, nd, h => by
    rw [List.map_cons, List.nodup_cons] at nd
    rw [List.lookup_cons]
    rcases List.mem_cons.mp h with e | h
    · cases e
      simp
    · have hm := h
      have ne : (x == n) = false := by
        cases q : x == n with
        | false => rfl
        | true =>
          have q := beq_iff_eq.mp q
          subst q
          exact (nd.1 (List.mem_map.mpr ⟨_, hm, rfl⟩)).elim
      rw [ne]
      exact lookup_map_mem nd.2 h
theorem lookup_rev_zip {ps : List Str} {us : List Value} {i : Nat} {x : Str} {u : Value} (nd : ps.Nodup) (hp : ps[i]? = some x) (hu : us[i]? = some u) (hl : us.length = ps.length) : (ps.zip us).reverse.lookup x = some u := by
  refine lookup_map_mem ?_ (List.mem_reverse.mpr ?_)
  · rw [List.map_reverse, List.map_fst_zip (by omega)]
    unfold List.Nodup
    rw [List.pairwise_reverse]
    exact nd.imp fun h z => h z.symm
  · refine List.mem_of_getElem? (i := i) ?_
    rw [List.getElem?_zip_eq_some]
    exact ⟨hp, hu⟩

def cxS (P : Program) (w : World) (K : Frag) (mg : Str → Option Value) (base : Heap) (N : List Str) (fd : FuncData) (f : Addr) (A : Around) (outer : List Env) (s : Shared) (H : Hp) : Cx where
  prog := P
  w := w
  K := K
  mg := mg
  base := base
  A := A.deeper (callEnv fd s.heap.objs.size f)
  N := N
  s_0 := s
  H_0 := H
  env := callEnv fd s.heap.objs.size f
  outer := outer
  stack := callEnv fd s.heap.objs.size f :: outer
  ex := []
  calm := true
  fn := fun _ => false
  pn := []
  xe := fun _ _ => False

/-- the call's tree -/
def EvSup (xs : List XA) (p0 p1 p2 p3 : Pos) : Prop := ∀ env : Env, eval (.Call (.Attribute (.Call (.Name "super" p0) [] [] p1) "__init__" p2) (xs.map XA.ex) [] p3) env = (do
  let ov ← attributeBase (.Call (.Name "super" p0) [] [] p1) "__init__" env (eval (.Call (.Name "super" p0) [] [] p1) env)
  standAt p2.atName
  let (f, first) ← holding [ov] (getMethod ov "__init__" (do return (← importBound (.Call (.Name "super" p0) [] [] p1) env).getD true))
  callWith p3 f first (backTo p3 (starEach (xs.map XA.ex) env)) [])
/-- what the written part says of such a class -/
structure SupC (P : Program) (K : Frag) (C fI cc : Addr) (fd : FuncData) (ps : List Str) (xs : List XA) (fs : List XF) : Prop where
  ox : OexC K C
  iC : PySem.W.findIn K (.ref C) "__init__" = some (some (.ref fI))
  tI : PySem.W.typeIn K (.ref fI) = some (.type "function")
  up : PySem.W.ks_superIn K C C "__init__" = some (some (.builtin "ValueError.__init__"))
  sub : PySem.W.subIn K (.ref C) (.type "ValueError") = some true
  any : PySem.W.nsIn K PySem.cStatics "thirdparty.any" = some none
  fn : ∃ (oc : Value) (od : Option Addr) (osl : Array (Option Value)) (name qual : Str) (params : Arguments) (scope : Scope) (dV kV doc pm : Value) (an : Option Addr) (cd : Addr) (ct : Value) (slf : Str) (p0 p1 p2 p3 p4 : Pos) (ar : Arg) (vs : Array Value) (o2 : Obj) (file : Str) (tf : Tok),
    fd = fnOfC name qual params (supBody slf xs fs p0 p1 p2 p3 p4) scope dV kV doc pm an (.ref cd) ct cc ∧ K.lookup fI = some ⟨oc, od, .func fd, osl⟩ ∧ PySem.W.codeIn K (.ref cd) qual = true ∧
    scope.kind = .function ∧ scope.isCoroutine = false ∧ scope.isGenerator = false ∧ ps.Nodup ∧ (∀ x ∈ ps, scope.names.lookup x = some .local) ∧ (∀ y ∈ scope.names, y.2 ≠ .cell) ∧ (∀ x, scope.names.lookup x = some .free → x = "__class__") ∧
    scope.names.lookup ("super" : Str) = some .globalImplicit ∧ scope.names.lookup ("__class__" : Str) = some .free ∧ (params.posonlyargs ++ params.args).head? = some ar ∧ ps[0]? = some ar.arg ∧
    K.lookup cd = some o2 ∧ o2.data = .fields vs ∧ vs[2]? = some (.str file tf) ∧ ((P.main.file : Str) == file) = true ∧ (P.main.scope.names.lookup ("super" : Str)).isSome = false ∧
    xs.all (XA.ok ps scope.names) = true ∧ fs.all (XF.ok ps scope.names) = true ∧ (ar.arg == ("__debug__" : Str)) = false ∧ EvSup xs p0 p1 p2 p3
  cell : ∃ o, K.lookup cc = some o ∧ o.data = .cell (some (.ref C))
  bind : Binds K fd ps []
  xs0 : 0 < xs.length
  nf : ∀ x ∈ fs, PySem.W.findIn K (.ref C) x.f = some none
  few : fs.length ≤ 100 ∧ xs.length ≤ 100

section
variable {P : Program} {w : World} {K : Frag} {mg : Str → Option Value} {base : Heap} {fd : FuncData} {f : Addr} {A : Around} {outer : List Env} {s : Shared} {H : Hp} {h0 : Heap} {tk : Nat} {ps : List Str} {us : List Value} {vs : List V} {cc : Addr} {oc : Obj} {C : Addr}
theorem inv_startS (hd : A.handled = none) (e0 : Env0 P w K mg base A outer s H) (hl : vs.length = ps.length) (r : Vals vs us) (nd : ps.Nodup)
    (hk : fd.scope.kind = .function) (hg : fd.globals = mainGlobals) (hb : fd.builtins = builtinsNs) (hc : fd.closure = [(("__class__" : Str), cc)]) (loc : ∀ x ∈ ps, fd.scope.names.lookup x = some .local)
    (nc : ∀ y ∈ fd.scope.names, y.2 ≠ .cell) (fr : ∀ x, fd.scope.names.lookup x = some .free → x = "__class__") (kc : K.lookup cc = some oc) (oc' : oc.data = .cell (some (.ref C)))
    (ns : h0.Ns s.heap.objs.size (fun x => (ps.zip us).reverse.lookup x)) (keep : ∀ b o, s.heap.get? b = some o → h0.get? b = some o) :
    Inv (cxS P w K mg base ps fd f A outer s H) [] (vs.map some) H { s with heap := h0, toks := tk } := by
  have hul : us.length = ps.length := by rw [← hl]; exact (Paired.length r).symm
  have ccb : base.get? cc = some oc := e0.mod.kin _ _ kc
  have ce : (cxS P w K mg base ps fd f A outer s H).env.cells = [(("__class__" : Str), cc)] := hc
  have noA : ∀ b : Addr, b ∉ (cxS P w K mg base ps fd f A outer s H).ex := fun b z => absurd (show b ∈ ([] : List Addr) from z) (by simp)
  have one : ∀ {x : Str} {c : Addr}, (cxS P w K mg base ps fd f A outer s H).env.cells.lookup x = some c → x = "__class__" ∧ c = cc := fun {x c} h => by
    rw [ce, List.lookup_cons] at h
    cases q : x == ("__class__" : Str) with
    | true => rw [q] at h; cases h; exact ⟨beq_iff_eq.mp q, rfl⟩
    | false => rw [q] at h; cases h
  refine ⟨⟨e0.mod, hk, hg, hb, Nat.le_refl _, fun y z c h1 h2 => (one h1).1.trans (one h2).1.symm, fun y hy => ?_, fun y c z h => absurd z (by simp [cxS]), fun _ => hd, Around.frames_deeper e0.frames, .inr ⟨rfl, rfl⟩, fun b z => absurd z (noA b), e0.bs, e0.bsz, fun b _ _ => noA b, fun b z => absurd z (noA b), e0.funs, e0.frf⟩,
    rfl, e0.bare, Un.kept keep, ⟨_, ns, fun i y v h1 h2 h3 => ?_⟩, fun y c h => ?_, e0.hok.fresh (Nat.le_refl _), fun y c h => ?_, fun p hp => absurd (show p ∈ ([] : List (Addr × Obj)) from hp) (by simp), e0.hok.kept keep, ?_⟩
  · have hy : fd.scope.names.lookup y = some .cell ∨ fd.scope.names.lookup y = some .free := hy
    rcases hy with hy | hy
    · exact absurd rfl (nc _ (PySem.mem_of_lookup hy))
    · rw [fr y hy, ce]
      exact ⟨cc, by simp⟩
  · have h1 : ps[i]? = some y := h1
    rw [List.getElem?_map] at h2
    cases e : vs[i]? with
    | none => rw [e] at h2; cases h2
    | some a =>
      rw [e] at h2
      cases h2
      obtain ⟨u, hu, rv⟩ := r.get e
      exact ⟨u, rv, .inl ⟨loc y (List.mem_of_getElem? h1), lookup_rev_zip nd h1 hu hul⟩⟩
  · obtain ⟨_, rfl⟩ := one h
    exact ⟨some (.ref C), oc, keep _ _ (e0.bs _ _ ccb).1, oc'⟩
  · obtain ⟨_, rfl⟩ := one h
    exact (e0.bs _ _ ccb).2
  · show (vs.map some).length = ps.length
    rw [List.length_map, hl]
end

def tXs : List XA → TA
  | [] => tNil
  | .s x _ _ :: r => tCons (tC (.str x)) (tXs r)
  | .n i _ _ :: r => tCons (tVar i) (tXs r)
section
variable {X : Cx}
theorem XA.star {env : Env} (x : XA) (es : List Expr) : starEach (x.ex :: es) env = (false, eval x.ex env) :: starEach es env := by
  cases x <;> rfl
theorem pa_xs {ps : List Str} {names : List (Str × NameKind)} (hN : X.N = ps) (hs : X.env.scope.names = names) : ∀ {xs : List XA}, xs.all (XA.ok ps names) = true → PA X (xs.map XA.ex) (tXs xs)
  | [], _ => pa_nil
  | .s x j p :: r, h => pa_cons pe_str (pa_xs hN hs (by simpa using (Bool.and_eq_true_iff.mp h).2))
  | .n i x p :: r, h => by
    rw [List.all_cons] at h
    obtain ⟨h1, h2⟩ := Bool.and_eq_true_iff.mp h
    unfold XA.ok at h1
    obtain ⟨k1, h1⟩ := Bool.and_eq_true_iff.mp h1
    obtain ⟨k2, h1⟩ := Bool.and_eq_true_iff.mp h1
    obtain ⟨k3, k4⟩ := Bool.and_eq_true_iff.mp h1
    refine pa_cons (pe_var (i := i) (by rw [hN]; exact of_decide_eq_true k1) (.inl (by rw [hs]; exact of_decide_eq_true k2)) (by simpa using k3) (by simpa using k4)) (pa_xs hN hs h2)
theorem xs_run {ps : List Str} {names : List (Str × NameKind)} {vs : List V} {H : Hp} (hl : vs.length = ps.length) : ∀ {xs : List XA}, xs.all (XA.ok ps names) = true → ∃ ws : List V, ws.length = xs.length ∧ ∀ Q : List V → Hp → Prop, Q ws H → tXs xs (vs.map some) H Q
  | [], _ => ⟨[], rfl, fun Q q => q⟩
  | .s x j p :: r, h => by
    obtain ⟨ws, h1, h2⟩ := xs_run (H := H) hl (xs := r) (by simpa using (Bool.and_eq_true_iff.mp h).2)
    exact ⟨.str x :: ws, by simp [h1], fun Q q => h2 _ q⟩
  | .n i x p :: r, h => by
    rw [List.all_cons] at h
    obtain ⟨g1, g2⟩ := Bool.and_eq_true_iff.mp h
    obtain ⟨ws, h1, h2⟩ := xs_run (H := H) hl g2
    unfold XA.ok at g1
    have k1 := of_decide_eq_true (Bool.and_eq_true_iff.mp g1).1
    have hi : i < vs.length := by
      have := (List.getElem?_eq_some_iff.mp k1).1
      omega
    exact ⟨vs[i] :: ws, by simp [h1], fun Q q => ⟨vs[i], by simp [hi], h2 _ q⟩⟩

def tFs (K : Frag) : List XF → TS
  | [] => tNext
  | a :: r => tSeq (tOst K a.f (tVar 0) (tVar a.i)) (tFs K r)
theorem pss_fs {ps : List Str} {names : List (Str × NameKind)} (hN : X.N = ps) (hs : X.env.scope.names = names) : ∀ {fs : List XF}, fs.all (XF.ok ps names) = true → PSs X (fs.map XF.st) (tFs X.K fs)
  | [], _ => pss_nil
  | a :: r, h => by
    rw [List.all_cons] at h
    obtain ⟨h1, h2⟩ := Bool.and_eq_true_iff.mp h
    unfold XF.ok at h1
    obtain ⟨k1, h1⟩ := Bool.and_eq_true_iff.mp h1
    obtain ⟨k2, h1⟩ := Bool.and_eq_true_iff.mp h1
    obtain ⟨k3, h1⟩ := Bool.and_eq_true_iff.mp h1
    obtain ⟨k4, h1⟩ := Bool.and_eq_true_iff.mp h1
    obtain ⟨k5, h1⟩ := Bool.and_eq_true_iff.mp h1
    obtain ⟨k6, h1⟩ := Bool.and_eq_true_iff.mp h1
    obtain ⟨k7, k8⟩ := Bool.and_eq_true_iff.mp h1
    exact pss_cons (ps_ost (pe_var (i := 0) (by rw [hN]; exact of_decide_eq_true k1) (.inl (by rw [hs]; exact of_decide_eq_true k2)) (by simpa using k3) (by simpa using k4))
      (pe_var (i := a.i) (by rw [hN]; exact of_decide_eq_true k5) (.inl (by rw [hs]; exact of_decide_eq_true k6)) (by simpa using k7) (by simpa using k8))) (pss_fs hN hs h2)
/-- the fields as they come to lie -/
def fldsR (vs : List V) : List XF → List (Str × V) → List (Str × V)
  | [], acc => acc
  | a :: r, acc => fldsR vs r ((a.f, (vs[a.i]?).getD .non) :: acc)
theorem fs_old {K : Frag} {ps : List Str} {names : List (Str × NameKind)} {vs : List V} {a C dx : Addr} {D : Ends} (T : OexC K C) (hl : vs.length = ps.length) (h0 : vs[0]? = some (.ref a)) : ∀ {fs : List XF} {acc : List (Str × V)} {H : Hp}, fs.all (XF.ok ps names) = true →
    (∀ x ∈ fs, PySem.W.findIn K (.ref C) x.f = some none) → acc.length + fs.length ≤ 900 → a ≠ dx → H a = some (exo a C (some dx)) → H dx = some (exd dx acc) → D.nx (vs.map some) (upd H dx (exd dx (fldsR vs fs acc))) → tFs K fs D (vs.map some) H
  | [], acc, H, _, _, _, _, _, hd, q => by
    have e : upd H dx (exd dx acc) = H := by
      funext b
      unfold upd
      split
      · rename_i z; rw [z, hd]
      · rfl
    unfold fldsR at q
    rw [e] at q
    exact q
  | x :: r, acc, H, h, nf, hz, ne, ha, hd, q => by
    rw [List.all_cons] at h
    obtain ⟨h1, h2⟩ := Bool.and_eq_true_iff.mp h
    unfold XF.ok at h1
    obtain ⟨_, h1⟩ := Bool.and_eq_true_iff.mp h1
    obtain ⟨_, h1⟩ := Bool.and_eq_true_iff.mp h1
    obtain ⟨_, h1⟩ := Bool.and_eq_true_iff.mp h1
    obtain ⟨_, h1⟩ := Bool.and_eq_true_iff.mp h1
    obtain ⟨k5, _⟩ := Bool.and_eq_true_iff.mp h1
    have hi : x.i < vs.length := by
      have := (List.getElem?_eq_some_iff.mp (of_decide_eq_true k5)).1
      omega
    rw [List.length_cons] at hz
    refine ⟨vs[x.i], by simp [hi], .ref a, by rw [List.getElem?_map, h0]; rfl, a, C, rfl, T, nf x (by simp), .inr ⟨dx, acc, ha, hd, by omega, ?_⟩⟩
    refine fs_old T hl h0 (acc := (x.f, vs[x.i]) :: acc) h2 (fun y hy => nf y (List.mem_cons_of_mem _ hy)) (by simp; omega) ne (by rw [upd_ne ne]; exact ha) upd_same ?_
    have e : fldsR vs (x :: r) acc = fldsR vs r ((x.f, vs[x.i]) :: acc) := by simp [fldsR, hi]
    rw [upd_upd, ← e]
    exact q
theorem fs_new {K : Frag} {ps : List Str} {names : List (Str × NameKind)} {vs : List V} {a C : Addr} {D : Ends} (T : OexC K C) (hl : vs.length = ps.length) (h0 : vs[0]? = some (.ref a)) {fs : List XF} {H : Hp} (h : fs.all (XF.ok ps names) = true)
    (nf : ∀ x ∈ fs, PySem.W.findIn K (.ref C) x.f = some none) (hz : fs.length ≤ 800) (ha : H a = some (exo a C none)) (q0 : fs = [] → D.nx (vs.map some) H)
    (q : fs ≠ [] → ∀ dx, H dx = none → dx ≠ a → D.nx (vs.map some) (upd (upd H dx (exd dx (fldsR vs fs []))) a (exo a C (some dx)))) : tFs K fs D (vs.map some) H := by
  cases fs with
  | nil => exact q0 rfl
  | cons x r =>
    rw [List.all_cons] at h
    obtain ⟨h1, h2⟩ := Bool.and_eq_true_iff.mp h
    unfold XF.ok at h1
    obtain ⟨_, h1⟩ := Bool.and_eq_true_iff.mp h1
    obtain ⟨_, h1⟩ := Bool.and_eq_true_iff.mp h1
    obtain ⟨_, h1⟩ := Bool.and_eq_true_iff.mp h1
    obtain ⟨_, h1⟩ := Bool.and_eq_true_iff.mp h1
    obtain ⟨k5, _⟩ := Bool.and_eq_true_iff.mp h1
    have hi : x.i < vs.length := by
      have := (List.getElem?_eq_some_iff.mp (of_decide_eq_true k5)).1
      omega
    rw [List.length_cons] at hz
    refine ⟨vs[x.i], by simp [hi], .ref a, by rw [List.getElem?_map, h0]; rfl, a, C, rfl, T, nf x (by simp), .inl ⟨ha, fun dx hn ne => ?_⟩⟩
    refine fs_old T hl h0 (acc := [(x.f, vs[x.i])]) (dx := dx) h2 (fun y hy => nf y (List.mem_cons_of_mem _ hy)) (by simp; omega) (Ne.symm ne) upd_same (by rw [upd_ne ne]; exact upd_same) ?_
    have e : fldsR vs (x :: r) [] = fldsR vs r [(x.f, vs[x.i])] := by simp [fldsR, hi]
    have q := q (by simp) dx hn ne
    rw [e] at q
    have e2 : upd (upd (upd H dx (exd dx [(x.f, vs[x.i])])) a (exo a C (some dx))) dx (exd dx (fldsR vs r [(x.f, vs[x.i])])) = upd (upd H dx (exd dx (fldsR vs r [(x.f, vs[x.i])]))) a (exo a C (some dx)) := by
      funext b
      by_cases z1 : b = dx
      · subst z1; rw [upd_same, upd_ne ne, upd_same]
      · rw [upd_ne z1]
        by_cases z2 : b = a
        · subst z2; rw [upd_same, upd_same]
        · rw [upd_ne z2, upd_ne z1, upd_ne z2, upd_ne z1]
    rw [e2]
    exact q
end
end FL

/-! FL18: such an __init__ runs. -/
namespace FL
open PySem PySem.Spec L2
open PySem.W (Frag)
section
open PySem.W
variable {prog : Program} {w : World} {A : Around} {E : Value → Shared → Prop} {h : Heap} {g : Array GenState} {d : Drawn} {t : Nat} {os : OsState}
variable {nm q : Str} {C N : Addr} {bs bm : List Value} {hdct : Bool} {sn : List Str} {sub : List Value} {ab : Bool} {col : Option Bool} {dd : Option Addr} {k0 k1 k2 k3 k5 : Option Value}
theorem call_mw {u e t0 : Addr} {rest : List Value} {Q : Value → Shared → Prop}
    (hC : h.get? C = some (excClassObj nm q C N bs bm hdct sn sub ab col dd k0 k1 k2 k3 k5 "ValueError.__new__")) (he : h.get? e = some (HandSPX.excO C t0)) (hu : h.get? u = some (kxs_mw "ValueError.__init__" e)) (hrest : rest.length ≤ sizeLine)
    (hq : ∀ h' t1, (∀ b o, b ≠ e → h.get? b = some o → h'.get? b = some o) → h'.get? e = some (HandSPX.excO C t1) → Q .none ⟨h', g, d, t, os⟩) :
    wpAny (model prog w) A (call (.ref u) rest) Q E ⟨h, g, d, t, os⟩ := by
  refine wpAny_call (codeAny_of_tree ?_)
  show wpAny _ A.in1 (callAny (.ref u) ⟨rest, []⟩) _ _ _
  simp only [callAny]
  refine wpAny_bind (wpAny_load hu ?_)
  simp only [kxs_mw, show (Value.type "method-wrapper" == Value.type "method" || Value.type "method-wrapper" == Value.type "builtin_function_or_method" || Value.type "method-wrapper" == Value.type "method-wrapper") = true by decide, if_true]
  refine KFB.if_so (by decide) ?_
  refine wpAny_bind (check_bound_init F.excBase_ValueError.toExcCallFacts hC he rfl ?_)
  refine wpAny_bind (wpAny_pure (wpAny_pure ?_))
  refine ⟨plainId_quiet F.excBase_ValueError.init.plain _, codeAny_builtin F.excBase_ValueError.initEntry ?_⟩
  exact exc_init_tree (cls := .ref C) (t0 := t0) (dv := none) (c2 := .none) (c3 := .none) (b4 := .bool false) he hrest fun h' k e' t' => hq h' _ k e'
end
/-- at the end -/
def SupEnd (P : Program) (w : World) (outer : List Env) (H : Hp) (s : Shared) (a C : Addr) (vs : List V) (fs : List XF) (r : Result) (s' : Shared) : Prop := match r with
  | .ok (.ret u) => u = .none ∧ ∃ H2, s'.os = s.os ∧ PyProof.Rows.AllBare s'.gens ∧ Un (frs outer) [] H H2 s.heap s'.heap ∧ HOk P w H2 s'.heap ∧
      ((fs = [] ∧ H2 = H) ∨ (fs ≠ [] ∧ ∃ dx, H dx = none ∧ dx ≠ a ∧ H2 = upd (upd H dx (exd dx (fldsR vs fs []))) a (exo a C (some dx))))
  | _ => False
section
variable {P : Program} {w : World} {K : Frag} {mg : Str → Option Value} {base : Heap} {fd : FuncData} {A : Around} {outer : List Env} {s : Shared} {H : Hp} {ps : List Str} {us : List Value} {vs : List V} {cc C fI a : Addr} {xs : List XA} {fs : List XF} {k : Nat}
theorem sup_init (S : SupC P K C fI cc fd ps xs fs) (mgs : mg "super" = none) (hr : Room (k + 1) A) (e0 : Env0 P w K mg base A outer s H) (hl : (V.ref a :: vs).length = ps.length) (r : Vals vs us) (ea : H a = some (exo a C none)) :
    codeAny (model P w) A (.call (.ref fI) ⟨.ref a :: us, []⟩) (SupEnd P w outer H s a C (.ref a :: vs) fs) s := by
  obtain ⟨oc, od, osl, name, qual, params, scope, dV, kV, doc, pm, an, cd, ct, slf, p0, p1, p2, p3, p4, ar, vsC, o2, file, tf, efd, lk, hcd, hkn, hco, hge, nd, loc, nc, fr, hsu, hkc, har, har0, lkc, o2d, vs2, hfile, htop, hxs, hfs, hdb, hev⟩ := S.fn
  obtain ⟨nm, q, N, bs, bm, sn, sub, ab, col, dd, k0, k1, k2, k3, k5, hCK, hbm⟩ := S.ox.cls
  obtain ⟨occ, lcc, occd⟩ := S.cell
  have KX : K.In s.heap := e0.mod.kin.keeps fun b o e => (e0.bs b o e).1
  have lim : s.heap.NoLimit := e0.mod.nolimit.keeps fun b o e => (e0.bs b o e).1
  have r1 : Vals (V.ref a :: vs) (Value.ref a :: us) := .cons rfl r
  have hul : (Value.ref a :: us).length = ps.length := by rw [← hl]; exact (Paired.length r1).symm
  have sk : fd.scope = scope := by rw [efd]
  refine ks_codeAny_call_defAt (fd := fd) (body := supBody slf xs fs p0 p1 p2 p3 p4) (binds := ps.zip (Value.ref a :: us)) hr.depth (KX _ _ lk) rfl lim (by rw [efd]; exact PySem.W.codeRec_of KX hcd) (by rw [efd])
    (by have z := S.bind s (Value.ref a :: us) KX (by simpa using hul); simpa using z) (by rw [sk]; exact nc) (fun y hy => by rw [sk]; exact loc _ (List.of_mem_zip hy).1) (fun h0 ns keep => ?_) (by rw [sk]; exact hco) (by rw [sk]; exact hge) (by rw [sk]; exact hkn)
  have I : Inv (cxS P w K mg base ps fd fI A outer s H) [] ((V.ref a :: vs).map some) H { s with heap := h0, toks := s.toks + (ps.zip (Value.ref a :: us)).length } :=
    inv_startS (cc := cc) (C := C) hr.hd e0 hl r1 nd (by rw [sk]; exact hkn) (by rw [efd]) (by rw [efd]) (by rw [efd]) (by rw [sk]; exact loc) (by rw [sk]; exact nc) (by rw [sk]; exact fr) lcc occd ns keep
  have hcl : PySem.W.clsIn K C = some { name := nm, bases := bs, mro := .ref C :: bm, ns := N, qualname := q, hasDict := true, slotNames := sn, subclasses := sub, abstract := ab, collection := col, hasDel := false } := by unfold PySem.W.clsIn; rw [hCK] <;> rfl
  have KI : ∀ {pn : List (Addr × Obj)} {σ : L2.St} {H : Hp} {s' : Shared}, Inv (cxS P w K mg base ps fd fI A outer s H) pn σ H s' → K.In s'.heap := fun I => I.kIn
  have kof : ∀ x, (callEnv fd s.heap.objs.size fI).kindOf x = scope.names.lookup x := fun x => by show fd.scope.names.lookup x = _; rw [sk]
  have done : ∀ {fl : Flow} {s' : Shared}, SP (cxS P w K mg base ps fd fI A outer s H) [] { nx := fun _ H2 => (fs = [] ∧ H2 = H) ∨ (fs ≠ [] ∧ ∃ dx, H dx = none ∧ dx ≠ a ∧ H2 = upd (upd H dx (exd dx (fldsR (.ref a :: vs) fs []))) a (exo a C (some dx))), rt := fun _ _ => False } fl s' →
      SupEnd P w outer H s a C (.ref a :: vs) fs (.ok (.ret (match fl with | .ret v => v | _ => .none))) s' := fun {fl s'} hs => by
    cases fl with
    | next =>
      obtain ⟨σ', H', J, q⟩ := hs
      exact ⟨rfl, H', J.os, J.bare, J.base, J.hok, q⟩
    | ret u => obtain ⟨_, _, _, _, _, q⟩ := hs; exact q.elim
    | brk => obtain ⟨_, _, _, q⟩ := hs; exact q.elim
    | cont => obtain ⟨_, _, _, q⟩ := hs; exact q.elim
  refine ks_wpAt_mono (Q := fun fl s' => SP (cxS P w K mg base ps fd fI A outer s H) [] { nx := fun _ H2 => (fs = [] ∧ H2 = H) ∨ (fs ≠ [] ∧ ∃ dx, H dx = none ∧ dx ≠ a ∧ H2 = upd (upd H dx (exd dx (fldsR (.ref a :: vs) fs []))) a (exo a C (some dx))), rt := fun _ _ => False } fl s') (E := fun _ _ => False) ?_ (fun fl s' hs => done hs) (fun _ _ z => z.elim)
  refine ks_wpAt_execs_cons (ks_wpAt_Expr_any (ks_wpAt_MethodCall (pl := (do return (← importBound (.Call (.Name "super" p0) [] [] p1) (callEnv fd s.heap.objs.size fI)).getD true)) (ks_wpAt_super_base (f := fI) (cc := cd) (fd := fd) (ar := ar) (vs := vsC) (file := file) (tf := tf) ((kof _).trans hsu) ((kof _).trans hkc) (by decide +kernel) rfl (KI I _ _ lk) rfl (by rw [efd]; exact har) (by rw [efd]; rfl) (KI I _ _ lkc) o2d vs2 hfile htop ?_) ?_) ?_ ?_)
  · obtain ⟨mb, b1, b2⟩ := I.mod.blt
    refine PySem.W.ks_loadName_global (by show fd.scope.kind = .function; rw [sk]; exact hkn) ((kof _).trans hsu) (Calls.loadGlobal_builtin (by show Heap.Ns _ fd.globals _; rw [show fd.globals = mainGlobals by rw [efd]]; exact I.mod.glob.keeps I.bk) mgs (by show Heap.Ns _ fd.builtins _; rw [show fd.builtins = builtinsNs by rw [efd]]; exact b1.keeps I.bk) ((b2 _ (by decide +kernel)).trans (by decide +kernel : bootBuiltins (Str.ofString "super") = some (.type "super"))) ⟨rfl, ?_⟩)
    refine wpAny_loadName_free (c := cc) (v := .ref C) (by show fd.scope.kind = .function; rw [sk]; exact hkn) ((kof _).trans hkc) (by show (fd.closure).lookup _ = _; rw [show fd.closure = [(("__class__" : Str), cc)] by rw [efd]]; simp) ⟨occ, KI I _ _ lcc, occd⟩ ?_
    have loc0 := loc ar.arg (List.mem_of_getElem? har0)
    refine wpAny_loadName_local (v := .ref a) (by show fd.scope.kind = .function; rw [sk]; exact hkn) ((kof _).trans loc0) ns (lookup_rev_zip nd har0 rfl hul) ?_
    have hC := KI I _ _ hCK
    obtain ⟨t1, ho⟩ := exo_at I.hok ea
    refine ks_wpAny_isType_cls hC rfl ⟨rfl, ?_⟩
    have hmc : PySem.W.mroIn K C (.ref C) = some true := by
      unfold PySem.W.mroIn
      rw [hcl, Option.bind_some]
      simp
    refine ks_wpAny_call_super hC rfl ho rfl (fun c e => by cases e) (PySem.W.looks_mroIn (KI I) hmc) (fun h1 e1 k1 => ?_)
    have I1 := I.kept (h' := h1) (t' := s.toks + (ps.zip (Value.ref a :: us)).length) k1
    have hm := S.up
    unfold PySem.W.ks_superIn at hm
    rw [hcl, Option.bind_some] at hm
    have IA : PySem.W.InstAt h1 a _ C none := ⟨k1 _ _ ho, rfl, rfl, trivial⟩
    refine PySem.W.kxs_getMethod PySem.W.kxs_ValueError e1 (PySem.W.looks_opaque (KI I1) S.any) (l₀ := .ref C :: bm) ?_ rfl (KI I1) hm (IA.type.andThen (PySem.W.looks_subIn (KI I1) S.sub)) (PySem.W.ks_ne (KI I1) IA hcl) (by decide +kernel) ?_
    · exact fun A Q E s k q => wpAny_bind ((PySem.W.looks_clsIn (KI I1) hcl) A _ E s k (wpAny_pure q))
    have k2 : ∀ b o, h1.get? b = some o → (h1.push (PySem.W.kxs_mw "ValueError.__init__" a)).get? b = some o := fun b o e => Heap.get?_push_of_some _ e
    have I2 := I1.kept (h' := h1.push (PySem.W.kxs_mw "ValueError.__init__" a)) (t' := s.toks + (ps.zip (Value.ref a :: us)).length + 1) k2
    have mwAt : (h1.push (PySem.W.kxs_mw "ValueError.__init__" a)).get? h1.objs.size = some (PySem.W.kxs_mw "ValueError.__init__" a) := Heap.get?_push_at rfl rfl
    have nH : H h1.objs.size = none := I1.hok.fresh (Nat.le_refl _)
    have I3 : Inv (cxS P w K mg base ps fd fI A outer s H) [(h1.objs.size, PySem.W.kxs_mw "ValueError.__init__" a)] ((V.ref a :: vs).map some) H _ := I2.pins_of fun p hp => by
      obtain rfl := List.mem_singleton.mp hp
      exact ⟨mwAt, nH, Nat.ne_of_gt I1.lt, I1.nofs (Nat.le_refl _), fun v z => by cases z⟩
    cases xs with
    | nil => exact absurd S.xs0 (by simp)
    | cons x r =>
      obtain ⟨ws, hw1, hw2⟩ := xs_run (ps := ps) (names := scope.names) (H := H) (vs := V.ref a :: vs) hl hxs
      have PAx := pa_xs (X := cxS P w K mg base ps fd fI A outer s H) (ps := ps) (names := scope.names) rfl (by show fd.scope.names = _; rw [sk]) hxs
      rw [List.map_cons] at PAx ⊢
      have sx := XA.star (env := callEnv fd s.heap.objs.size fI) x (r.map XA.ex)
      have plain : ∀ l : List XA, (backTo p3 (starEach (l.map XA.ex) (callEnv fd s.heap.objs.size fI))).any (·.1) = false := fun l => by
        induction l with
        | nil => rfl
        | cons y l ih =>
          rw [List.map_cons, XA.star]
          show (false || (backTo p3 (starEach (l.map XA.ex) _)).any (·.1)) = false
          rw [ih]
          rfl
      rw [sx]
      refine PySem.W.kxs_callWith (i := "ValueError.__init__") (x := a) (by show (false || (backTo p3 (starEach (r.map XA.ex) _)).any (·.1)) = false; rw [plain r]; rfl) ?_
      have z : wpAny (model P w) (A.deeper (callEnv fd s.heap.objs.size fI)) (spliced (backTo p3 (starEach (x.ex :: r.map XA.ex) (callEnv fd s.heap.objs.size fI)))) (AP (cxS P w K mg base ps fd fI A outer s H) [(h1.objs.size, PySem.W.kxs_mw "ValueError.__init__" a)]
          ((V.ref a :: vs).map some) fun ws' H' => ws'.length = (x :: r).length ∧ H' = H) (fun _ _ => False) _ :=
        PAx.run p3 _ _ _ H (fun ws' H' => ws'.length = (x :: r).length ∧ H' = H) I3 (hw2 (fun ws' H' => ws'.length = (x :: r).length ∧ H' = H) ⟨hw1, rfl⟩)
      rw [sx] at z
      refine Calls.evalArgs_plain (thn z fun us1 s4 ⟨vs1, H4, I4, r4, hl4, eH⟩ => ?_)
      subst eH
      obtain ⟨hp4, g4, d4, tk4, os4⟩ := s4
      obtain ⟨t4, ho4⟩ := exo_at I4.hok ea
      have mw4 := (I4.pin (h1.objs.size, PySem.W.kxs_mw "ValueError.__init__" a) (by simp)).1
      refine ⟨mw4, ?_⟩
      refine call_mw (KI I4 _ _ hCK) ho4 mw4 (by show us1.length ≤ sizeLine; rw [← Paired.length r4, hl4, sizeLine_eq]; have := S.few.2; omega) fun h5 t5 k5 hx5 => ?_
      have J := I4.write (t' := tk4) (x := a) (e := a) (o := exo a C none) (by rw [ea]; exact True.intro) (.inl rfl) k5 ⟨_, hx5⟩ (exo_ok hx5)
      have eu : upd H4 a (exo a C none) = H4 := by
        funext b
        by_cases hb : b = a
        · rw [hb, upd_same, ea]
        · rw [upd_ne hb]
      rw [eu] at J
      have J0 : Inv (cxS P w K mg base ps fd fI A outer s H4) [] ((V.ref a :: vs).map some) H4 ⟨h5, g4, d4, tk4, os4⟩ := J.pins_of fun p hp => absurd hp (by simp)
      have PF := pss_fs (X := cxS P w K mg base ps fd fI A outer s H4) (ps := ps) (names := scope.names) rfl (by show fd.scope.names = _; rw [sk]) hfs
      refine wpAt_of_wpAny (PF.run [] _ _ H4 _ J0 (fs_new S.ox hl (by rfl) hfs S.nf (by have := S.few.1; omega) ea (fun e => .inl ⟨e, rfl⟩) (fun ne dx hn na => .inr ⟨ne, dx, hn, na, rfl⟩)))
  · exact hev _
  · simp [interactive, callEnv, newEnv, sk, hkn]
  · cases xs with
    | nil => exact absurd S.xs0 (by simp)
    | cons x r => rfl
end
end FL

/-! FL19: such an exception is made. -/
namespace FL
open PySem PySem.Spec L2
open PySem.W (Frag)
section
variable {X : Cx} {pins : List (Addr × Obj)} {σ : L2.St}
theorem mk_endN {H1 : Hp} {Q : XK} {hp hp2 h2 : Heap} {g1 g2 : Array GenState} {d1 d2 : Drawn} {t1 t2 : Nat} {os1 os2 : OsState} {a C : Addr} (T : Raises X (.ref C)) (I1 : Inv X pins σ H1 ⟨hp, g1, d1, t1, os1⟩)
    (ha : hp.objs.size ≤ a) (k : ∀ b o, hp.get? b = some o → hp2.get? b = some o) (un : Un (frs X.stack) [] (upd H1 a (exo a C none)) (upd H1 a (exo a C none)) hp2 h2) (hok : HOk X.prog X.w (upd H1 a (exo a C none)) h2) (ho : os2 = os1) (hb : PyProof.Rows.AllBare g2)
    (q : Q (.ref C) none H1) : MkP X pins σ Q (.ref a) ⟨h2, g2, d2, t2, os2⟩ := by
  have ea : upd H1 a (exo a C none) a = some (exo a C none) := upd_same
  obtain ⟨t0, hoe⟩ := exo_at hok ea
  have hn : H1 a = none := I1.hok.fresh ha
  obtain ⟨G, g1', g2'⟩ := restrict h2 fun b => decide (b ≠ a)
  have gk : ∀ b, b ≠ a → G.get? b = h2.get? b := fun b hb => g1' b (decide_eq_true hb)
  have ge : G.get? a = none := g2' a (by simp)
  have nha : ∀ {b : Addr} {o : Obj}, hp.get? b = some o → b ≠ a := fun {b o} z => Nat.ne_of_lt (Nat.lt_of_lt_of_le (Heap.lt_size z) ha)
  have up : ∀ {b : Addr}, b ≠ a → H1 b = none → upd H1 a (exo a C none) b = none := fun {b} hb n => by rw [upd_ne hb]; exact n
  have U : Un (frs X.stack) [] H1 H1 hp G := {
    keep := fun b o z n hf hx => by
      rw [gk b (nha z)]
      exact un.keep b o (k b o z) (up (nha z) n) hf hx
    slot := fun b o z n hf hx => by
      rw [gk b (nha z)]
      exact un.slot b o (k b o z) (up (nha z) n) hf hx
    free := fun b o z n hx => n
    there := fun b o z hx => by
      rw [gk b (nha z)]
      exact un.there b o (k b o z) hx
    tups := fun b xs z => z
    frzs := fun b o v z => z
    tbls := fun b ps z => ⟨#[], by rw [z]; simp⟩ }
  have hok3 : HOk X.prog X.w H1 G := fun b o z => by
    have hba : b ≠ a := fun e => by rw [e, hn] at z; cases z
    have z' : upd H1 a (exo a C none) b = some o := by rw [upd_ne hba]; exact z
    have noa : ∀ {c : Addr}, upd H1 a (exo a C none) c = some (.own b) → c ≠ a := fun {c} hc => at_ne ea hc exo_own
    exact (hok b o z').stay (fun c v hc y => by
        have hca : c ≠ a := by
          rcases hc with hc | hc
          · rw [hc]
            exact hba
          · exact noa hc
        rw [gk c hca]
        exact y)
      (fun c hc => by
        have := hc
        rw [upd_ne (noa hc)] at this
        exact this)
      (fun c xs hc => by
        have := hc
        rw [upd_ne (at_ne ea hc exo_tup)] at this
        exact this)
  have J : Inv X pins σ H1 ⟨G, g2, d2, t2, os2⟩ := I1.call' (ch := []) ho U hok3 hb (fun b z => absurd z (by simp))
  refine ⟨a, _, _, ⟨G, g2, d2, t2, os2⟩, _, .ref C, none, rfl, J, fun b o z => ?_, ge, hoe, ⟨rfl, rfl⟩, rfl, rfl, hn, rfl, hb, T, q⟩
  by_cases hba : b = a
  · rw [hba, ge] at z
    cases z
  · exact (gk b hba).symm.trans z
end
theorem fldsR_eq (vs : List V) : ∀ (fs : List XF) (acc : List (Str × V)), fldsR vs fs acc = (fs.reverse.map fun a => (a.f, (vs[a.i]?).getD .non)) ++ acc
  | [], acc => rfl
  | a :: r, acc => by
    unfold fldsR
    rw [fldsR_eq vs r]
    simp
def selOf (fs : List XF) : List (Str × Nat) := fs.reverse.map fun a => (a.f, a.i - 1)
/-- C(..) -/
def tMkX (C : Addr) (np : Nat) (sel : List (Str × Nat)) (ta : TA) : L2.St → Hp → XK → Prop := fun σ H Q => ta σ H fun vs H1 => vs.length = np ∧ ∃ us, selV sel vs = some us ∧ (sel = [] → Q (.ref C) none H1) ∧
  (sel ≠ [] → ∀ d, H1 d = none → Q (.ref C) (some d) (upd H1 d (.xd ((sel.map (·.1)).zip us))))
theorem selV_of {fs : List XF} {vs us : List V} {v0 : V} (h : selV (selOf fs) vs = some us) (pos : ∀ a ∈ fs, 0 < a.i) : us = fs.reverse.map fun a => (((v0 :: vs)[a.i]?).getD .non) := by
  unfold selV selOf at h
  have pos : ∀ a ∈ fs.reverse, 0 < a.i := fun a m => pos a (List.mem_reverse.mp m)
  generalize fs.reverse = l at h pos
  induction l generalizing us with
  | nil => simp at h; simp [h]
  | cons x r ih =>
    rw [List.map_cons, List.mapM_cons] at h
    cases e : vs[x.i - 1]? with
    | none => simp [e] at h
    | some y =>
      cases e2 : (r.map fun a => (a.f, a.i - 1)).mapM fun p => vs[p.2]? with
      | none => simp [e, e2] at h
      | some z =>
        simp [e, e2] at h
        subst h
        rw [List.map_cons, ← ih e2 fun a m => pos a (List.mem_cons_of_mem _ m)]
        have hx := pos x (by simp)
        have e3 : (v0 :: vs)[x.i]? = some y := by
          obtain ⟨n, hn⟩ := Nat.exists_eq_succ_of_ne_zero (Nat.ne_of_gt hx)
          rw [hn, List.getElem?_cons_succ, ← e, hn]; rfl
        rw [e3]
        rfl
section
variable {X : Cx} {es : List Expr} {ta : TA} {x : Str} {C fI cc : Addr} {fd : FuncData} {ps : List Str} {xs : List XA} {fs : List XF} {p pos : Pos} {k : Nat} {E : Value → Shared → Prop}
theorem mk_call {pins : List (Addr × Obj)} {σ : L2.St} {H1 : Hp} {Q : XK} {us : List Value} {vs : List V} {s1 : Shared} (S : SupC X.prog X.K C fI cc fd ps xs fs) (mgs : X.mg "super" = none) (hr : Room (k + 2) X.A) (fpos : ∀ a ∈ fs, 0 < a.i)
    (I1 : Inv X pins σ H1 s1) (r1 : Vals vs us) (hl : vs.length + 1 = ps.length) (hlz : vs.length ≤ 1000)
    (q : ∃ us, selV (selOf fs) vs = some us ∧ (selOf fs = [] → Q (.ref C) none H1) ∧ (selOf fs ≠ [] → ∀ d, H1 d = none → Q (.ref C) (some d) (upd H1 d (.xd (((selOf fs).map (·.1)).zip us))))) :
    wpAny (model X.prog X.w) X.A (call (.ref C) us) (MkP X pins σ Q) E s1 := by
  obtain ⟨nm, qn, N, bs, bm, sn, sub, ab, col, dd, k0, k1, k2, k3, k5, hC, hbm⟩ := S.ox.cls
  obtain ⟨ws, hsel, q0, q1⟩ := q
  obtain ⟨hp, g, dr, tk, os⟩ := s1
  have hsz : hp.objs.size ≤ hp.objs.size + 1 := Nat.le_succ _
  have hn : H1 (hp.objs.size + 1) = none := I1.hok.fresh hsz
  have kk : ∀ b o, hp.get? b = some o → ((hp.push (PySem.W.kdv_tup us)).push (PySem.HandSPX.excO C hp.objs.size)).get? b = some o := fun b o e => Heap.get?_push_of_some _ (Heap.get?_push_of_some _ e)
  have hget : ((hp.push (PySem.W.kdv_tup us)).push (PySem.HandSPX.excO C hp.objs.size)).get? (hp.objs.size + 1) = some (PySem.HandSPX.excO C hp.objs.size) := by heap_get
  have I2 : Inv X pins σ (upd H1 (hp.objs.size + 1) (exo (hp.objs.size + 1) C none)) ⟨(hp.push (PySem.W.kdv_tup us)).push (PySem.HandSPX.excO C hp.objs.size), g, dr, tk, os⟩ :=
    I1.laid (t' := tk) (a := hp.objs.size + 1) (o := exo (hp.objs.size + 1) C none) (h' := (hp.push (PySem.W.kdv_tup us)).push (PySem.HandSPX.excO C hp.objs.size)) kk hsz (exo_ok hget)
  have hus : us.length ≤ sizeLine := by
    rw [← Paired.length r1, sizeLine_eq]
    omega
  have T : Raises X (.ref C) := raises_own S.ox.exC S.ox.tyC
  refine wpAny_call (PySem.HandSPX.call_own F.excBase_ValueError (fun Y => PySem.HandSPX.refsVE_contains Y bm hbm) (I1.kIn _ _ hC) (PySem.W.looks_findIn I1.kIn S.iC) (fun self => PySem.W.bind_fn I1.kIn self S.tI) hus
    (codeAny_mono (sup_init (k := k) S mgs (hr.make C us []) (I2.env0.make C us []) (a := hp.objs.size + 1) (by rw [List.length_cons]; exact hl) r1 upd_same) (fun r s' hq' => ?_)))
  cases r with
  | error er => exact hq'.elim
  | ok fl =>
    cases fl with
    | ret u =>
      obtain ⟨rv, H2, os2, bare2, un2, hok2, hh⟩ := hq'
      obtain ⟨h2, g2, d2, t2, os'⟩ := s'
      refine ⟨rv, ?_⟩
      rcases hh with ⟨e, rfl⟩ | ⟨ne, dx, hd, hda, rfl⟩
      · exact mk_endN T I1 hsz kk un2 hok2 os2 bare2 (q0 (by rw [e]; rfl))
      · have hd1 : H1 dx = none := by rw [upd_ne hda] at hd; exact hd
        have ne' : selOf fs ≠ [] := fun z => by
          unfold selOf at z
          simp at z
          exact ne z
        refine mk_end (fs := fldsR (V.ref (hp.objs.size + 1) :: vs) fs []) (d := dx) T I1 hsz kk un2 hok2 os2 bare2 upd_same (by rw [upd_ne hda]; exact upd_same) hd1 ?_
        have z := q1 ne' dx hd1
        have e1 : fldsR (V.ref (hp.objs.size + 1) :: vs) fs [] = ((selOf fs).map (·.1)).zip ws := by
          rw [fldsR_eq, List.append_nil, selV_of (v0 := V.ref (hp.objs.size + 1)) hsel fpos]
          unfold selOf
          rw [List.map_map, List.zip_map']
          rfl
        have e2 : upd (del (upd (upd (upd H1 (hp.objs.size + 1) (exo (hp.objs.size + 1) C none)) dx (exd dx (fldsR (V.ref (hp.objs.size + 1) :: vs) fs []))) (hp.objs.size + 1) (exo (hp.objs.size + 1) C (some dx))) (hp.objs.size + 1)) dx (.xd (fldsR (V.ref (hp.objs.size + 1) :: vs) fs []))
            = upd H1 dx (.xd (((selOf fs).map (·.1)).zip ws)) := by
          rw [e1]
          funext b
          by_cases z1 : b = dx
          · subst z1; rw [upd_same, upd_same]
          · rw [upd_ne z1, upd_ne z1]
            by_cases z2 : b = hp.objs.size + 1
            · subst z2; rw [del_same, hn]
            · rw [del_ne z2, upd_ne z2, upd_ne z1, upd_ne z2]
        rw [e2]
        exact z
    | next => exact False.elim hq'
    | brk => exact False.elim hq'
    | cont => exact False.elim hq'
theorem pmk_sup {e : Expr} (S : SupC X.prog X.K C fI cc fd ps xs fs) (mgs : X.mg "super" = none) (kC : PySem.W.keepIn X.K (.ref C) = true) (hr : Room (k + 2) X.A) (fpos : ∀ a ∈ fs, 0 < a.i) (hg : Gl X x) (hm : X.mg x = some (.ref C)) (hps : ps.length ≤ 1000)
    (ha : PA X (e :: es) ta) (hdb : (x == ("__debug__" : Str)) = false) (he : starEach (e :: es) X.env = (false, eval e X.env) :: starEach es X.env) (hpl : (backTo pos (starEach es X.env)).any (·.1) = false) :
    PMk X (.Call (.Name x p) (e :: es) [] pos) (tMkX C (ps.length - 1) (selOf fs) ta) := by
  intro pins s σ H Q I h
  refine wpAny_Call_Name_kw (ld_glob I hg hm ?_ hdb)
  refine PySem.W.callWith_K (h₀ := X.base) I.ok.mod.kin kC (thn (ha.run pos pins s σ H _ I h) fun us s1 ⟨vs, H1, I1, r1, hz, q1⟩ => ⟨I1.kIn, ?_⟩) he hpl
  show wpAny _ _ (call (.ref C) us) _ _ _
  have hp0 : 0 < ps.length := by
    obtain ⟨_, _, _, _, _, _, _, _, _, _, _, _, _, _, _, _, _, _, _, _, _, _, _, _, _, _, _, _, _, _, _, _, _, _, _, _, _, _, har0, _⟩ := S.fn
    exact (List.getElem?_eq_some_iff.mp har0).1
  exact mk_call S mgs hr fpos I1 r1 (by omega) (by omega) q1
theorem pmk_sup0 (S : SupC X.prog X.K C fI cc fd ps xs fs) (mgs : X.mg "super" = none) (kC : PySem.W.keepIn X.K (.ref C) = true) (hr : Room (k + 2) X.A) (fpos : ∀ a ∈ fs, 0 < a.i) (hg : Gl X x) (hm : X.mg x = some (.ref C)) (hps : ps.length = 1)
    (hdb : (x == ("__debug__" : Str)) = false) :
    PMk X (.Call (.Name x p) [] [] pos) (tMkX C (ps.length - 1) (selOf fs) tNil) := by
  intro pins s σ H Q I h
  refine wpAny_Call_Name_kw (ld_glob I hg hm ?_ hdb)
  refine PySem.W.callWith_K0 (I.kIn) kC ?_
  show wpAny _ _ (call (.ref C) ([] ++ [])) _ _ _
  exact mk_call S mgs hr fpos I .nil (by simp [hps]) (by simp) h.2
end
end FL

/-! FL20: texts, calls with keywords, raise, try. -/
namespace FL
open PySem PySem.Spec L2
section
variable {X : Cx} {G : Gx} {B : Fr0} {W : WX} {k : Option Nat} {N : List Str} {sc : Scope} {pos : Pos} {F F' H : Hp} {σ : L2.St} {s : Sls}
variable {a b c e : Expr} {ea eb ec : E} {es : List Expr} {D D' : Ends} {i : Nat} {x : Str} {px : Pos}
/-! ### texts -/
theorem q_stw {apos : Pos} (ha : PE X a (rdE G B W ea)) (hb : PE X b (rdE G B W eb)) (hs : starEach [b] X.env = [(false, eval b X.env)]) (hbase : attributeBase a "startswith" X.env (eval a X.env) = eval a X.env) (hline : (apos.endLine == pos.line) = true) :
    PE X (.Call (.Attribute a "startswith" apos) [b] [] pos) (rdE G B W (.stw ea eb)) := by
  refine PE.imp (pe_m1 (by exact PySem.F.slot_str_startswith) (by exact PySem.F.type_str_startswith) mt_startswith ha hb hs hbase hline) fun σ H Q hq => ?_
  obtain ⟨F, s, sr, p⟩ := hq
  simp only [evE] at p
  refine ⟨F, s, sr, (Pst.bind p).mono ?_⟩
  rintro x H1 ⟨tx, F1, s1, e1, sr1, rx, p1⟩
  split at p1
  · simp only [relE, Rep] at rx
    subst rx
    refine ⟨⟨_, rfl⟩, F1, s1, sr1, (Pst.bind p1).mono ?_⟩
    rintro y H2 ⟨ty, F2, s2, e2, sr2, ry, p2⟩
    split at p2
    · simp only [relE, Rep] at ry
      subst ry
      exact ⟨_, _, rfl, rfl, p2 _ F2 H2 (.refl _) sr2 (by simp only [relE, Rep])⟩
    · exact p2.elim
  · exact p1.elim
theorem reps_strs {F : Hp} : ∀ ys : List Str, Reps G F (ys.map V.str) (ys.map T.str)
  | [] => by simp [Reps]
  | y :: ys => by
    simp only [List.map_cons]
    exact Reps.cons (by simp only [Rep]) (reps_strs ys)
theorem q_split {apos : Pos} (ha : PE X a (rdE G B W ea)) (hb : PE X b (rdE G B W eb)) (hs : starEach [b] X.env = [(false, eval b X.env)]) (hbase : attributeBase a "split" X.env (eval a X.env) = eval a X.env) (hline : (apos.endLine == pos.line) = true) :
    PE X (.Call (.Attribute a "split" apos) [b] [] pos) (rdM G B W (.split ea eb)) := by
  refine PE.imp (pe_split ha hb hs hbase hline) fun σ H Q hq => ?_
  obtain ⟨F, s, sr, p⟩ := hq
  simp only [evM] at p
  refine ⟨F, s, sr, (Pst.bind p).mono ?_⟩
  rintro x H1 ⟨tx, F1, s1, e1, sr1, rx, p1⟩
  split at p1
  · simp only [relE, Rep] at rx
    subst rx
    refine ⟨⟨_, rfl⟩, F1, s1, sr1, (Pst.bind p1).mono ?_⟩
    rintro y H2 ⟨ty, F2, s2, e2, sr2, ry, p2⟩
    split at p2
    · simp only [relE, Rep] at ry
      subst ry
      split at p2
      · rename_i v hl
        exact ⟨_, _, rfl, rfl, by have := hl.1; cases h : v.length with
          | zero => omega
          | succ n => rfl, by rw [sizeLine_eq]; have := hl.2; omega, fun q hn => relM_grow sr2 (reps_strs _) p2 q hn⟩
      · exact p2.elim
    · exact p2.elim
  · exact p1.elim
/-! ### f-strings -/
inductive JsR (X : Cx) (G : Gx) (B : Fr0) (W : WX) : List Expr → Es → Prop
  | nil : JsR X G B W [] .nil
  | s {x : Str} {j : Nat} {p : Pos} {es : List Expr} {fs : Es} : JsR X G B W es fs → JsR X G B W (.Constant (.str x) j p :: es) (.cons (.cst (.str x)) fs)
  | f {e : Expr} {ee : E} {p : Pos} {es : List Expr} {fs : Es} : PE X e (rdE G B W ee) → JsR X G B W es fs → JsR X G B W (.FormattedValue e (-1) none p :: es) (.cons ee fs)
theorem rd_js {fs : Es} {acc : Str} {Q : Str → Hp → Prop} (h : rd G B W (fun _ _ _ (b : Str) (a : Str) => b = a) (evJs (.cons ea fs) acc) σ H Q) :
    rd G B W (relE G) (evE ea) σ H fun v H1 => ∃ t F1 s1 y, SR G B F1 H1 σ s1 ∧ Rep G F1 v t ∧ fmtT t = some y ∧ (acc ++ y).length ≤ big ∧ rd G B W (fun _ _ _ (b : Str) (a : Str) => b = a) (evJs fs (acc ++ y)) σ H1 Q := by
  obtain ⟨F, s, sr, p⟩ := h
  simp only [evJs] at p
  refine ⟨F, s, sr, (Pst.bind p).mono ?_⟩
  rintro v H1 ⟨t, F1, s1, e1, sr1, r, p1⟩
  split at p1
  · rename_i y hy
    split at p1
    · rename_i hl
      exact ⟨t, F1, s1, y, sr1, r, hy, hl, F1, s1, sr1, p1⟩
    · exact p1.elim
  · exact p1.elim
theorem js_run {vs : List Expr} {fs : Es} (h : JsR X G B W vs fs) : ∃ ts, PJ X vs ts ∧ ∀ (acc : Str) (σ : L2.St) (H : Hp) (Q : Str → Hp → Prop), rd G B W (fun _ _ _ (b : Str) (a : Str) => b = a) (evJs fs acc) σ H Q → tJs ts acc σ H Q := by
  induction h with
  | nil =>
    refine ⟨[], .nil, fun acc σ H Q h => ?_⟩
    obtain ⟨F, s, sr, p⟩ := h
    simp only [evJs] at p
    exact p acc F H (.refl _) sr rfl
  | @s x j p es fs _ ih =>
    obtain ⟨ts, h1, h2⟩ := ih
    refine ⟨_, .cons pe_str h1, fun acc σ H Q h => ?_⟩
    obtain ⟨F, s, sr, p⟩ := rd_js h
    simp only [evE] at p
    obtain ⟨t, F1, s1, y, sr1, r, hy, hl, q⟩ := p (.str x) F H (.refl _) sr (by simp only [relE, Rep])
    have et : t = .str x := by
      obtain ⟨F0, s0, sr0, p0⟩ := h
      cases t with
      | str z => simp only [Rep] at r; cases r; rfl
      | int z => simp only [Rep] at r; cases r
      | _ => simp [fmtT] at hy
    subst et
    simp only [fmtT] at hy
    split at hy
    · cases hy
      exact ⟨_, rfl, by rw [← big_eq]; exact hl, h2 _ _ _ _ q⟩
    · cases hy
  | @f e ee p es fs he _ ih =>
    obtain ⟨ts, h1, h2⟩ := ih
    refine ⟨_, .cons (pe_fmt he) h1, fun acc σ H Q h => ?_⟩
    obtain ⟨F, s, sr, p⟩ := rd_js h
    refine ⟨F, s, sr, p.mono ?_⟩
    rintro v H1 ⟨t, F1, s1, y, sr1, r, hy, hl, q⟩
    have fin : ∃ z : Str, V.str y = .str z ∧ (acc ++ z).length ≤ sizeLine ∧ tJs ts (acc ++ z) σ H1 Q := ⟨y, rfl, by rw [← big_eq]; exact hl, h2 _ _ _ _ q⟩
    cases t with
    | str z =>
      simp only [Rep] at r
      subst r
      simp only [fmtT] at hy
      split at hy
      · rename_i hz
        cases hy
        exact .inl ⟨_, rfl, by rw [← big_eq]; exact hz, fin⟩
      · cases hy
    | int z =>
      simp only [Rep] at r
      subst r
      simp only [fmtT] at hy
      split at hy
      · rename_i hz
        cases hy
        exact .inr ⟨_, rfl, hz, fin⟩
      · cases hy
    | _ => simp [fmtT] at hy
theorem q_fst {v1 v2 : Expr} {rest : List Expr} {fs : Es} (h : JsR X G B W (v1 :: v2 :: rest) fs) : PE X (.JoinedStr (v1 :: v2 :: rest) pos) (rdE G B W (.fst fs)) := by
  obtain ⟨ts, h1, h2⟩ := js_run h
  refine PE.imp (pe_joined h1) fun σ H Q hq => ?_
  refine h2 _ _ _ _ ?_
  obtain ⟨F, s, sr, p⟩ := hq
  simp only [evE] at p
  refine ⟨F, s, sr, (Pst.bind p).mono ?_⟩
  rintro z H1 ⟨z', F1, s1, e1, sr1, rfl, p1⟩
  exact p1 _ F1 H1 (.refl _) sr1 (by simp only [relE, Rep])
end
end FL

/-! FL21: calls with keywords, raise, the caught exception, try. -/
namespace FL
open PySem PySem.Spec L2
theorem noX_set {s : Sls} (h : noXc s = true) {i : Nat} {c : Str} {ns : List Str} {ts : List T} : s[i]? ≠ some (.xc c ns ts) := by
  intro e
  induction s generalizing i with
  | nil => simp at e
  | cons x r ih =>
    cases i with
    | zero =>
      simp only [List.getElem?_cons_zero, Option.some.injEq] at e
      subst e
      simp [noXc] at h
    | succ n =>
      simp only [List.getElem?_cons_succ] at e
      refine ih ?_ e
      cases x <;> simp_all [noXc]
section
variable {X : Cx} {G : Gx} {B : Fr0} {W : WX} {k : Option Nat} {N : List Str} {sc : Scope} {pos : Pos} {F F' H : Hp} {σ : L2.St} {s : Sls}
variable {a b c e : Expr} {ea eb ec : E} {es : List Expr} {D D' : Ends} {i : Nat} {x : Str} {px : Pos}
theorem SR.setXc (h : SR G B F H σ s) (hx : B.xa = none) {a : Addr} {cls : Value} {d : Option Addr} {c : Str} {ns : List Str} {ts : List T} (hi : i < s.length) (r : ExR G F cls d c ns ts) :
    SR G { B with xa := some (a, cls, d) } F H (σ.set i (some (.ref a))) (s.set i (.xc c ns ts)) := by
  have hi' : i < σ.length := by rw [← h.len]; exact hi
  have old : ∀ {j : Nat} {x : Sl}, (s.set i (.xc c ns ts))[j]? = some x → (j = i ∧ x = .xc c ns ts) ∨ (j ≠ i ∧ s[j]? = some x) := fun {j x} q => by
    by_cases z : j = i
    · subst z
      rw [List.getElem?_set_self hi] at q
      exact .inl ⟨rfl, (Option.some.inj q).symm⟩
    · rw [List.getElem?_set_ne (Ne.symm z)] at q
      exact .inr ⟨z, q⟩
  have sg : ∀ {j : Nat}, j ≠ i → (σ.set i (some (.ref a)))[j]? = σ[j]? := fun {j} n => List.getElem?_set_ne (Ne.symm n)
  refine ⟨h.sub, by rw [List.length_set, List.length_set]; exact h.len, fun j u q => ?_, fun j us q => ?_, fun j us q => ?_, fun j k x y b c ne q r ox oy sj sk => ?_, h.fr, h.pl, h.ph, h.f0, h.nw, fun j c' ns' ts' q => ?_⟩
  · rcases old q with ⟨rfl, q'⟩ | ⟨nj, q'⟩
    · cases q'
    · rw [sg nj]; exact h.im j u q'
  · rcases old q with ⟨rfl, q'⟩ | ⟨nj, q'⟩
    · cases q'
    · rw [sg nj]; exact h.mu j us q'
  · rcases old q with ⟨rfl, q'⟩ | ⟨nj, q'⟩
    · cases q'
    · rw [sg nj]; exact h.mp j us q'
  · rcases old q with ⟨rfl, q'⟩ | ⟨nj, q'⟩
    · subst q'; cases ox
    · rcases old r with ⟨rfl, r'⟩ | ⟨nk, r'⟩
      · subst r'; cases oy
      · rw [sg nj] at sj
        rw [sg nk] at sk
        exact h.ne j k x y b c ne q' r' ox oy sj sk
  · rcases old q with ⟨rfl, q'⟩ | ⟨nj, q'⟩
    · cases q'
      exact ⟨a, cls, d, rfl, List.getElem?_set_self hi', .inr r⟩
    · obtain ⟨_, _, _, z, _⟩ := h.xc j c' ns' ts' q'
      rw [hx] at z; cases z
theorem SR.noX {xa : Option (Addr × Value × Option Addr)} (h : SR G { B with xa := xa } F H σ s) (n : noXc s = true) : SR G B F H σ s :=
  ⟨h.sub, h.len, h.im, h.mu, h.mp, h.ne, h.fr, h.pl, h.ph, h.f0, h.nw, fun j c ns ts q => (noX_set n q).elim⟩
theorem leave_post {xa : Option (Addr × Value × Option Addr)} {r : SO} {W' : WX} (p : PostS G B W F (leaveX i r) D) :
    PostS G { B with xa := xa } W' F r { nx := fun σ' H' => D.nx (σ'.set i none) H', rt := D.rt, bk := fun σ' H' => D.bk (σ'.set i none) H', ct := fun σ' H' => D.ct (σ'.set i none) H' } := by
  cases r with
  | nx s =>
    simp only [leaveX] at p
    split at p
    · rename_i n
      exact fun σ' F' H' e sr => p _ F' H' e ((sr.setUn i none).noX n)
    · exact p.elim
  | brk s =>
    simp only [leaveX] at p
    split at p
    · rename_i n
      exact fun σ' F' H' e sr => p _ F' H' e ((sr.setUn i none).noX n)
    · exact p.elim
  | cnt s =>
    simp only [leaveX] at p
    split at p
    · rename_i n
      exact fun σ' F' H' e sr => p _ F' H' e ((sr.setUn i none).noX n)
    · exact p.elim
  | ret t s =>
    simp only [leaveX] at p
    split at p
    · rename_i n
      exact fun v σ' F' H' e sr r => p v _ F' H' e ((sr.setUn i none).noX n) r
    · exact p.elim
  | retF ts s => exact p.elim
  | ex c ns ts s => exact p.elim
  | bad => exact p.elim

/-! ### the caught exception's attributes -/
/-- the context is a suite, its exception is B's -/
def SuiX (X : Cx) (B : Fr0) : Prop := ∃ (Y : Cx) (a : Addr) (oe : Obj) (cls : Value) (d : Option Addr) (pn : List (Addr × Obj)), X = Y.suite a ((a, oe) :: pn) ∧ B.xa = some (a, cls, d) ∧ Zc cls d oe ∧ ∃ vs, oe.data = .fields vs
theorem fldT_zip {f : Str} {t : T} : ∀ {ns : List Str} {vs : List V} {ts : List T}, Reps G F vs ts → vs.length = ns.length → fldT f ns ts = some t → ∃ v, (ns.zip vs).lookup f = some v ∧ Rep G F v t
  | [], vs, ts, _, _, h => by simp [fldT] at h
  | n :: ns, [], ts, _, hl, _ => by simp at hl
  | n :: ns, v :: vs, [], r, hl, h => by simp [fldT] at h
  | n :: ns, v :: vs, u :: ts, r, hl, h => by
    simp only [Reps] at r
    obtain ⟨v', vr, e, r1, r2⟩ := r
    cases e
    simp only [fldT] at h
    rw [List.zip_cons_cons, List.lookup_cons]
    split at h
    · rename_i e
      cases h
      subst e
      exact ⟨v, by simp, r1⟩
    · rename_i e
      have ne : (f == n) = false := by
        cases q : f == n with
        | false => rfl
        | true => exact (e (beq_iff_eq.mp q).symm).elim
      rw [ne]
      exact fldT_zip r2 (by simpa using hl) h
theorem q_exf (g : Good X G k N sc W) (sx : SuiX X B) {f : Str} {cs : List Str} (hne : Str.empty ∉ cs) (hi : N[i]? = some x) (hv : Vis sc x) (hd : (x == ("__debug__" : Str)) = false) (hcd : (x == ("__classdict__" : Str)) = false)
    (hc : ∀ c ∈ cs, ∀ C, G.mg c = some (.ref C) → XfC G.K C ∧ PySem.W.findIn G.K (.ref C) f = some none) : PE X (.Attribute (.Name x px) f pos) (rdE G B W (.exf i f cs)) := by
  obtain ⟨Y, a, oe, cls, d, pn, rfl, hxa, hz, hf⟩ := sx
  have key : ∀ {σ H Q}, rdE G B W (.exf i f cs) σ H Q → ∃ c C, c ∈ cs ∧ cls = .ref C ∧ G.mg c = some (.ref C) ∧ ∃ F s v t, σ[i]? = some (some (.ref a)) ∧ (∃ dd fs, d = some dd ∧ H dd = some (.xd fs) ∧ fs.lookup f = some v) ∧ Q v H := fun {σ H Q} hq => by
    obtain ⟨F, s, sr, p⟩ := hq
    simp only [evE] at p
    split at p
    · rename_i c ns ts e
      split at p
      · rename_i hm
        obtain ⟨a', cls', d', k1, k2, kk⟩ := sr.xc i c ns ts e
        obtain ⟨C, k3, k4, k5⟩ := kk.resolve_left fun z => hne (by subst z; simpa using hm)
        rw [hxa] at k1
        cases k1
        have p : Pst G B W F σ (relE G) (Rs.of (fldT f ns ts) s) Q := p
        cases ht : fldT f ns ts with
        | none => rw [ht] at p; exact p.elim
        | some t =>
          rw [ht] at p
          rcases k5 with ⟨rfl, rfl, _⟩ | ⟨dx, vs, rfl, h2, h3, h4⟩
          · simp [fldT] at ht
          · obtain ⟨v, l, r⟩ := fldT_zip h4 h3 ht
            exact ⟨c, C, by simpa using hm, k3, k4, F, s, v, t, k2, ⟨dx, _, rfl, sr.sub _ _ h2, l⟩, p v F H (.refl _) sr r⟩
      · exact p.elim
    · exact p.elim
  by_cases hcls : ∃ c C, c ∈ cs ∧ cls = .ref C ∧ G.mg c = some (.ref C)
  · obtain ⟨c, C, h1, rfl, h2⟩ := hcls
    obtain ⟨T, no⟩ := hc c h1 C h2
    have hK : Y.K = G.K := g.hK
    refine PE.imp (pe_xf (X := Y) (C := C) (by rw [hK]; exact T) (by rw [hK]; exact no) hz hf (pe_var (i := i) (by rw [g.hN]; exact hi) (by rw [g.hsc]; exact hv) hd hcd) rfl) fun σ H Q hq => ?_
    obtain ⟨_, _, _, _, _, F, s, v, t, k1, ⟨dd, fs, k2, k3, k4⟩, q⟩ := key hq
    exact ⟨.ref a, k1, rfl, rfl, dd, fs, v, k2, k3, k4, q⟩
  · refine ⟨fun pins s σ H Q I h => ?_⟩
    obtain ⟨c, C, h1, h2, h3, _⟩ := key h
    exact (hcls ⟨c, C, h1, h2, h3⟩).elim

/-! ### try -/
theorem s_try {n : Nat} (g : Good X G (some n) N sc W) (Tx : TopX X) (hB : B.xa = none) {c : Str} {cv : Value} {body suite : List Stmt} {b₀ : Stmt} {np pos' : Pos} {nm : Option Str} {oi : Option Nat} {yes no : List Str} {ib ih : List S}
    (hc : Names X c cv) (hy : ∀ c ∈ yes, ∀ C, G.mg c = some (.ref C) → PySem.W.exmOne G.K (.ref C) cv = some true) (hn : ∀ c ∈ no, ∀ C, G.mg c = some (.ref C) → PySem.W.exmOne G.K (.ref C) cv = some false)
    (hnm : (nm = none ∧ oi = none) ∨ ∃ x i, nm = some x ∧ oi = some i ∧ N[i]? = some x ∧ sc.names.lookup x = some .local)
    (hb : ∀ (X' : Cx) (W' : WX), Good X' G (some n) N sc W' → TopX X' → PSs X' body (rdS G B W' (evSs ib)))
    (hs : ∀ (X' : Cx) (B' : Fr0), Good X' G none N sc (fun _ _ _ _ => False) → (nm.isSome = true → SuiX X' B') → PSs X' (b₀ :: suite) (rdS G B' (fun _ _ _ _ => False) (evSs ih))) :
    PS X (.Try body [.ExceptHandler (some (.Name c np)) nm (b₀ :: suite) pos'] [] [] pos) (rdS G B W (evS (.tryS ib yes no oi ih))) := by
  have gT : ∀ (W' : WX) (pn : List (Addr × Obj)) (xe : Value → Shared → Prop), Takes (X.tr pn xe) W' → Good (X.tr pn xe) G (some n) N sc W' := fun W' pn xe tk =>
    ⟨g.hP, g.hw, g.hb, g.hK, g.hmg, g.hN, g.nd, g.hsc, g.calm, g.room, g.un, fun _ => tk⟩
  have tT : ∀ (pn : List (Addr × Obj)) (xe : Value → Shared → Prop), PassesOwn (model X.prog X.w) X.A X.env xe → TopX (X.tr pn xe) := fun pn xe pp => ⟨Tx.fn, pp, Tx.stk, Tx.frm⟩
  have gS : ∀ (a : Addr) (pn : List (Addr × Obj)), Good (X.suite a pn) G none N sc (fun _ _ _ _ => False) := fun a pn =>
    ⟨g.hP, g.hw, g.hb, g.hK, g.hmg, g.hN, g.nd, g.hsc, fun z => (by cases z), fun _ z => (by cases z), g.un, fun z => (by cases z)⟩
  have ey : ∀ {cls : Value} {d : Option Addr} {c : Str} {ns : List Str} {ts : List T} {F : Hp}, yes.contains c = true → ExR G F cls d c ns ts → PySem.W.exmOne X.K cls cv = some true := fun {cls d c ns ts F} hm r => by
    obtain ⟨C, rfl, h2, _⟩ := r
    rw [g.hK]
    exact hy c (by simpa using hm) C h2
  have en : ∀ {cls : Value} {d : Option Addr} {c : Str} {ns : List Str} {ts : List T} {F : Hp}, no.contains c = true → ExR G F cls d c ns ts → PySem.W.exmOne X.K cls cv = some false := fun {cls d c ns ts F} hm r => by
    obtain ⟨C, rfl, h2, _⟩ := r
    rw [g.hK]
    exact hn c (by simpa using hm) C h2
  rcases hnm with ⟨rfl, rfl⟩ | ⟨x, i, rfl, rfl, hi, hl⟩
  · refine PS.imp (ps_try_only Tx.stk Tx.frm hc (g.tk rfl) (tb := fun W' => rdS G B W' (evSs ib)) (ts := fun _ _ _ => rdS G B (fun _ _ _ _ => False) (evSs ih)) (fun W' pn xe tk pp => hb _ W' (gT W' pn xe tk) (tT pn xe pp))
      (fun a oe cls d pn hz hf => hs _ _ (gS a _) (fun z => by cases z))) fun D σ H hq => ?_
    obtain ⟨F, s, sr, p⟩ := hq
    simp only [evS] at p
    refine ⟨F, s, sr, ?_⟩
    cases h : evSs ib s with
    | nx s1 => rw [h] at p; exact p
    | brk s1 => rw [h] at p; exact p
    | cnt s1 => rw [h] at p; exact p
    | ret t s1 => rw [h] at p; exact p
    | retF t s1 => rw [h] at p; exact p
    | bad => rw [h] at p; exact p
    | ex c' ns ts s1 =>
      rw [h] at p
      simp only at p
      intro cls d σ' F' H' e sr' r
      split at p
      · rename_i hm
        refine ⟨true, ey hm r, fun _ a hn => ⟨F', s1, sr', ?_⟩, fun z => by cases z⟩
        have q := p.up e
        cases hh : evSs ih s1 with
        | ex c2 ns2 ts2 s2 => rw [hh] at q; exact q.elim
        | nx _ => rw [hh] at q; exact q
        | brk _ => rw [hh] at q; exact q
        | cnt _ => rw [hh] at q; exact q
        | ret _ _ => rw [hh] at q; exact q
        | retF _ _ => rw [hh] at q; exact q
        | bad => rw [hh] at q; exact q
      · split at p
        · rename_i hm2
          exact ⟨false, en hm2 r, fun z => (by cases z), fun _ => p cls d σ' F' H' e sr' r⟩
        · exact p.elim
  · refine PS.imp (ps_try_as Tx.stk Tx.frm (by rw [g.hN]; exact g.nd) (by rw [g.hN]; exact hi) (show X.env.scope.names.lookup x = some .local by rw [g.hsc]; exact hl) hc (g.tk rfl) (tb := fun W' => rdS G B W' (evSs ib))
      (ts := fun a cls d => rdS G { B with xa := some (a, cls, d) } (fun _ _ _ _ => False) (evSs ih)) (fun W' pn xe tk pp => hb _ W' (gT W' pn xe tk) (tT pn xe pp))
      (fun a oe cls d pn hz hf => hs _ _ (gS a _) (fun _ => ⟨X, a, oe, cls, d, pn, rfl, rfl, hz, hf⟩))) fun D σ H hq => ?_
    obtain ⟨F, s, sr, p⟩ := hq
    simp only [evS] at p
    refine ⟨F, s, sr, ?_⟩
    cases h : evSs ib s with
    | nx s1 => rw [h] at p; exact p
    | brk s1 => rw [h] at p; exact p
    | cnt s1 => rw [h] at p; exact p
    | ret t s1 => rw [h] at p; exact p
    | retF t s1 => rw [h] at p; exact p
    | bad => rw [h] at p; exact p
    | ex c' ns ts s1 =>
      rw [h] at p
      simp only at p
      intro cls d σ' F' H' e sr' r
      split at p
      · rename_i hm
        split at p
        · exact p.elim
        · rename_i hmp
          exact ⟨true, ey hm r, fun _ a hn => ⟨F', s1.set i (.xc c' ns ts), sr'.setXc hB (isMp_lt (by simpa using hmp)) r, leave_post (p.up e)⟩, fun z => by cases z⟩
      · split at p
        · rename_i hm2
          exact ⟨false, en hm2 r, fun z => (by cases z), fun _ => p cls d σ' F' H' e sr' r⟩
        · exact p.elim
end
end FL

/-! FL22: raise, calls with keywords. -/
namespace FL
open PySem PySem.Spec L2
theorem selV_len {α : Type} : ∀ {sel : List (Str × Nat)} {ts us : List α}, selV sel ts = some us → us.length = sel.length
  | [], ts, us, h => by simp [selV] at h; subst h; rfl
  | p :: r, ts, us, h => by
    unfold selV at h
    rw [List.mapM_cons] at h
    cases e : ts[p.2]? with
    | none => simp [e] at h
    | some t =>
      cases e2 : r.mapM fun p => ts[p.2]? with
      | none => simp [e, e2] at h
      | some z =>
        simp [e, e2] at h
        subst h
        simp [selV_len (show selV r ts = some z from e2)]
theorem reps_get {G : Gx} {F : Hp} : ∀ {vs : List V} {ts : List T} {i : Nat} {t : T}, Reps G F vs ts → ts[i]? = some t → ∃ v, vs[i]? = some v ∧ Rep G F v t
  | vs, [], i, t, r, h => by simp at h
  | vs, u :: ts, 0, t, r, h => by
    simp only [Reps] at r
    obtain ⟨v, vr, rfl, r1, r2⟩ := r
    simp at h
    subst h
    exact ⟨v, rfl, r1⟩
  | vs, u :: ts, i + 1, t, r, h => by
    simp only [Reps] at r
    obtain ⟨v, vr, rfl, r1, r2⟩ := r
    simp only [List.getElem?_cons_succ] at h ⊢
    exact reps_get r2 h
theorem selV_reps {G : Gx} {F : Hp} {vs : List V} {ts : List T} (r : Reps G F vs ts) : ∀ {sel : List (Str × Nat)} {us : List T}, selV sel ts = some us → ∃ ws, selV sel vs = some ws ∧ Reps G F ws us
  | [], us, h => by simp [selV] at h; subst h; exact ⟨[], by simp [selV], by simp [Reps]⟩
  | p :: rest, us, h => by
    unfold selV at h
    rw [List.mapM_cons] at h
    cases e : ts[p.2]? with
    | none => simp [e] at h
    | some t =>
      cases e2 : rest.mapM fun p => ts[p.2]? with
      | none => simp [e, e2] at h
      | some z =>
        simp [e, e2] at h
        subst h
        obtain ⟨v, h1, h2⟩ := reps_get r e
        obtain ⟨ws, h3, h4⟩ := selV_reps r (show selV rest ts = some z from e2)
        refine ⟨v :: ws, ?_, Reps.cons h2 h4⟩
        unfold selV at h3 ⊢
        rw [List.mapM_cons, h1, h3]
        rfl
/-- what the module's names and the written part say of an exception's class -/
structure ExcOk (G : Gx) (c : Str) (np : Nat) (sel : List (Str × Nat)) : Prop where
  ex : ∃ C fI cc fd ps xs fs, SupC G.P G.K C fI cc fd ps xs fs ∧ G.mg c = some (.ref C) ∧ PySem.W.keepIn G.K (.ref C) = true ∧ ps.length = np + 1 ∧ ps.length ≤ 1000 ∧ sel = selOf fs ∧ (∀ a ∈ fs, 0 < a.i) ∧ G.mg "super" = none
section
variable {X : Cx} {G : Gx} {B : Fr0} {W : WX} {k : Option Nat} {N : List Str} {sc : Scope} {pos : Pos} {F F' H : Hp} {σ : L2.St} {s : Sls}
variable {a b c e : Expr} {ea eb ec : E} {es : List Expr} {D D' : Ends} {i : Nat} {x : Str} {px : Pos}
theorem rd_rai {c : Str} {np : Nat} {sel : List (Str × Nat)} {fs : Es} {C : Addr} (hm : G.mg c = some (.ref C)) (h : rdS G B W (evS (.rai c np sel fs)) D σ H) : tMkX C np sel (rd G B W (relEs G) (evEs fs)) σ H fun cls d H' => W cls d σ H' := by
  simp only [evS] at h
  have h := rd_so (rel := relEs G) h
  obtain ⟨F, s, sr, p⟩ := h
  refine ⟨F, s, sr, p.mono ?_⟩
  rintro vs H1 ⟨ts, F1, s1, sr1, r, p1⟩
  simp only [relEs] at r
  split at p1
  · rename_i hl
    cases hs : selV sel ts with
    | none => rw [hs] at p1; exact p1.elim
    | some us =>
      rw [hs] at p1
      obtain ⟨ws, h1, h2⟩ := selV_reps r hs
      refine ⟨by rw [r.length, hl], ws, h1, fun e => ?_, fun ne d hd => ?_⟩
      · subst e
        have : us = [] := List.length_eq_zero_iff.mp (selV_len hs)
        subst this
        exact p1 (.ref C) none σ F1 H1 (.refl _) sr1 ⟨C, rfl, hm, .inl ⟨rfl, rfl, rfl⟩⟩
      · have gr := Grow.laid (o := .xd ((sel.map (·.1)).zip ws)) sr1.sub hd
        exact p1 (.ref C) (some d) σ _ _ gr.ff (sr1.grow gr) ⟨C, rfl, hm, .inr ⟨d, ws, rfl, upd_same, by rw [selV_len h1, List.length_map], Reps.mono gr.ff _ _ h2⟩⟩
  · exact p1.elim
theorem s_rai {n : Nat} (g : Good X G (some (n + 2)) N sc W) {c : Str} {np : Nat} {sel : List (Str × Nat)} {fs : Es} {p p2 : Pos} (ok : ExcOk G c np sel) (hl : sc.names.lookup c = some .globalImplicit) (hdb : (c == ("__debug__" : Str)) = false)
    (ha : PA X (e :: es) (rd G B W (relEs G) (evEs fs))) (he : starEach (e :: es) X.env = (false, eval e X.env) :: starEach es X.env) (hpl : (backTo p2 (starEach es X.env)).any (·.1) = false) :
    PS X (.Raise (some (.Call (.Name c p) (e :: es) [] p2)) none pos) (rdS G B W (evS (.rai c np sel fs))) := by
  obtain ⟨C, fI, cc, fd, ps, xs, fz, S, h1, h2, h3, h4, rfl, h6, h7⟩ := ok.ex
  have hg : Gl X c := show X.env.scope.names.lookup c = some .globalImplicit by rw [g.hsc]; exact hl
  refine PS.imp (ps_raise (g.calm rfl) (g.tk rfl) (pmk_sup (k := n) (C := C) (by rw [g.hP, g.hK]; exact S) (by rw [g.hmg]; exact h7) (by rw [g.hK]; exact h2) (g.room _ rfl) h6 hg (by rw [g.hmg]; exact h1) h4 ha hdb he hpl)) fun D σ H hq => ?_
  have z := rd_rai h1 hq
  rw [show ps.length - 1 = np by omega]
  exact z
theorem s_rai0 {n : Nat} (g : Good X G (some (n + 2)) N sc W) {c : Str} {sel : List (Str × Nat)} {p p2 : Pos} (ok : ExcOk G c 0 sel) (hl : sc.names.lookup c = some .globalImplicit) (hdb : (c == ("__debug__" : Str)) = false) :
    PS X (.Raise (some (.Call (.Name c p) [] [] p2)) none pos) (rdS G B W (evS (.rai c 0 sel .nil))) := by
  obtain ⟨C, fI, cc, fd, ps, xs, fz, S, h1, h2, h3, h4, rfl, h6, h7⟩ := ok.ex
  have hg : Gl X c := show X.env.scope.names.lookup c = some .globalImplicit by rw [g.hsc]; exact hl
  refine PS.imp (ps_raise (g.calm rfl) (g.tk rfl) (pmk_sup0 (k := n) (C := C) (by rw [g.hP, g.hK]; exact S) (by rw [g.hmg]; exact h7) (by rw [g.hK]; exact h2) (g.room _ rfl) h6 hg (by rw [g.hmg]; exact h1) h3 hdb)) fun D σ H hq => ?_
  obtain ⟨F, s, sr, p⟩ := rd_rai h1 hq
  rw [show ps.length - 1 = 0 by omega]
  simp only [evEs] at p
  exact p [] F H (.refl _) sr (by simp only [relEs, Reps])

/-! ### calls with keywords -/
structure HasFnK (G : Gx) (k : Nat) (g : FS) (np : Nat) (ks : List Str) (ar : List AK) : Prop where
  ex : ∃ (f : Addr) (fd : FuncData) (ps : List Str) (gA : List Value → List Value → List Value) (gV : List V → List V → List V), G.mg g.name = some (.ref f) ∧ FnOk G.P G.w G.K G.mg G.base (L2.CX G.P G.w) k f fd ps (spF G g) ∧ PySem.W.keepIn G.K (.ref f) = true ∧
    KBn G.K fd ps np ks gA gV ∧ ∀ (F : Hp) (vs zs : List V) (ts us rs : List T), Reps G F vs ts → Reps G F zs us → ts.length = np → us.length = ks.length → arr ts us ar = some rs → Reps G F (gV vs zs) rs
theorem start_im {F H : Hp} {vs : List V} {ts : List T} (r : Reps G F vs ts) (sub : Same F H) : ∃ s0, startS none ts 0 = some s0 ∧ SR G ⟨H, none, F, none⟩ F H (vs.map some) s0 :=
  ArgR.start ⟨r.length, fun i t e _ => reps_get r e, fun i t e z => by cases z⟩ sub fun a z => by cases z
inductive KwR (X : Cx) (G : Gx) (B : Fr0) (W : WX) : List Keyword → Es → Prop
  | nil : KwR X G B W [] .nil
  | cons {e : Expr} {ee : E} {nm : Option Str} {p : Pos} {ks : List Keyword} {fs : Es} : PE X e (rdE G B W ee) → KwR X G B W ks fs → KwR X G B W (⟨nm, e, p⟩ :: ks) (.cons ee fs)
theorem PK.imp {ks : List Keyword} {t t' : TA} (h : PK X ks t) (k : ∀ σ H Q, t' σ H Q → t σ H Q) : PK X ks t' := ⟨fun p pins s σ H Q I hw => h.run p pins s σ H Q I (k σ H Q hw)⟩
theorem kw_pk {ks : List Keyword} {fs : Es} (h : KwR X G B W ks fs) : PK X ks (rd G B W (relEs G) (evEs fs)) := by
  induction h with
  | nil =>
    refine PK.imp pk_nil fun σ H Q hq => ?_
    obtain ⟨F, s, sr, p⟩ := hq
    simp only [evEs] at p
    exact p [] F H (.refl _) sr (by simp only [relEs, Reps])
  | cons he _ ih =>
    refine PK.imp (pk_cons he ih) fun σ H Q hq => ?_
    obtain ⟨F, s, sr, p⟩ := hq
    simp only [evEs] at p
    refine ⟨F, s, sr, (Pst.bind p).mono ?_⟩
    rintro x H1 ⟨tx, F1, s1, e1, sr1, rx, p1⟩
    refine ⟨F1, s1, sr1, (Pst.bind p1).mono ?_⟩
    rintro xs H2 ⟨txs, F2, s2, e2, sr2, rxs, p2⟩
    exact p2 (x :: xs) F2 H2 (.refl _) sr2 (Reps.cons (Rep.mono e2 _ _ rx) rxs)
theorem q_callK {n np : Nat} (g : Good X G (some n) N sc W) {f : FS} {fs gs : Es} {ar : List AK} {x : Str} {p : Pos} {kws : List Keyword} {ks : List Str} (hx : f.name = x) (hf : HasFnK G n f np ks ar) (hl : sc.names.lookup x = some .globalImplicit) (hd : (x == ("__debug__" : Str)) = false)
    (h : PA X (a :: es) (rd G B W (relEs G) (evEs fs))) (hn : ∀ s ts s', evEs fs s = .ok ts s' → ts.length = np) (hk : KwR X G B W kws gs) (hkn : ∀ s ts s', evEs gs s = .ok ts s' → ts.length = ks.length)
    (hall : (backToKw pos (keywordEach kws X.env)).all (·.1.isSome) = true) (hks : (backToKw pos (keywordEach kws X.env)).filterMap (·.1) = ks)
    (he : starEach (a :: es) X.env = (false, eval a X.env) :: starEach es X.env) (hpl : ((backTo pos (starEach (a :: es) X.env)).any (·.1) || (backToKw pos (keywordEach kws X.env)).any (·.1.isNone)) = false) :
    PE X (.Call (.Name x p) (a :: es) kws pos) (rdE G B W (.callK f fs gs ar)) := by
  subst hx
  obtain ⟨fa, fd, ps, gA, gV, h1, h2, h3, h4, h5⟩ := hf.ex
  have hg : Gl X f.name := show X.env.scope.names.lookup f.name = some .globalImplicit by rw [g.hsc]; exact hl
  refine PE.imp (pe_callN (CX := L2.CX X.prog X.w) (k := n) (n := np) (fd := fd) (ps := ps) (ks := ks) (E := fun _ _ _ => False) (by rw [g.hP, g.hw, g.hK, g.hmg, g.hb]; exact h2) (g.room n rfl) hg (by rw [g.hmg]; exact h1) (by rw [g.hK]; exact h3) (by rw [g.hK]; exact h4)
    (passes_call (g.tk rfl) fun _ _ _ _ z => z.elim) h (kw_pk hk) hall hks hd he hpl) fun σ H Q hq => ?_
  obtain ⟨F, s, sr, p⟩ := hq
  simp only [evE] at p
  split at p
  · exact p.elim
  · rename_i hfm
    refine ⟨F, s, sr, ?_⟩
    have hlen := hn s
    cases e0 : evEs fs s with
    | bad => rw [e0] at p; exact p.elim
    | ex c ns ts s1 => rw [e0] at p; exact p
    | ok ts s1 =>
      rw [e0] at p
      have hl1 := hlen _ _ e0
      intro vs F1 H1 sF1 sr1 rv
      have p1 := p.up sF1
      simp only [relEs] at rv
      refine ⟨F1, s1, sr1, ?_⟩
      simp only [Rs.bind] at p1
      have hlen2 := hkn s1
      cases e2 : evEs gs s1 with
      | bad => rw [e2] at p1; exact p1.elim
      | ex c ns ts s1 => rw [e2] at p1; exact p1
      | ok us s2 =>
        rw [e2] at p1
        simp only at p1
        have hl2 := hlen2 _ _ e2
        intro zs F2 H2 sF2 sr2 rz
        have p2 := p1.up sF2
        simp only [relEs] at rz
        cases ea : arr ts us ar with
        | none => rw [ea] at p2; exact p2.elim
        | some rs =>
          rw [ea] at p2
          simp only at p2
          have rr := h5 F2 vs zs ts us rs (Reps.mono sF2 _ _ rv) rz hl1 hl2 ea
          have hmu : f.mu = none := by
            cases hm : f.mu with
            | none => rfl
            | some _ => rw [hm] at hfm; simp at hfm
          have hfr : f.fresh = false := by
            cases hm : f.fresh with
            | false => rfl
            | true => rw [hm] at hfm; simp at hfm
          obtain ⟨s0, k1, k2⟩ := start_im rr sr2.sub
          refine ⟨rv.length.trans hl1, rz.length.trans hl2, F2, rs, s0, none, by rw [hmu]; exact k1, k2, fun _ => rfl, ?_⟩
          cases hs : f.sem rs with
          | bad => rw [hs] at p2; exact p2.elim
          | ex _ _ _ _ => rw [hs] at p2; exact p2.elim
          | ok t o =>
            rw [hs] at p2
            intro v F' H' cp r
            unfold RetR at r
            rw [hfr, if_neg Bool.false_ne_true] at r
            have gr : Grow F2 H2 F' H' := ⟨cp.ff, cp.sub, fun b u q => cp.fr b u q (fun z => by cases z), cp.new⟩
            exact p2 v F' H' cp.ff (sr2.grow gr) r
end
end FL

/-! FL23: the head's facts: defs, exceptions with super().__init__. -/
namespace FL
open PySem PySem.Spec L2
open PySem.W (Frag)
/-- an exception's class: its name, its __init__ -/
structure XcD where
  c : Str
  name : Str
  qual : Str
  params : Arguments
  scope : Scope
  ps : List Str
  slf : Str
  xs : List XA
  fs : List XF
  p0 : Pos
  p1 : Pos
  p2 : Pos
  p3 : Pos
  p4 : Pos
abbrev FnXc : Type := Option (Str × Str × Arguments × FuncBody × Scope × Addr × List Str × Addr)
def XcD.val (x : XcD) : FnXc := some (x.name, x.qual, x.params, .stmts (supBody x.slf x.xs x.fs x.p0 x.p1 x.p2 x.p3 x.p4), x.scope, mainGlobals, ["__class__"], builtinsNs)
def xcI (K : Frag) (c : Str) : Addr := He.ma K (He.ga K c) "__init__"
def fnX (K : Frag) (c : Str) : FnXc := match K.lookup (xcI K c) with
  | some ⟨_, _, .func fd, _⟩ => some (fd.name, fd.qualname, fd.params, fd.body, fd.scope, fd.globals, fd.closure.map (·.1), fd.builtins)
  | _ => none
def oexB (K : Frag) (C : Addr) : Bool := match K.lookup C with
  | some ⟨.type "type", _, .cls cd, sl⟩ => (match cd.mro, sl.toList with
    | .ref C' :: bm, [_, _, _, _, some (.builtin n), _] => C' == C && (n == "ValueError.__new__" && (!cd.hasDel && (cd.hasDict && PySem.HandSPX.refsVE bm)))
    | _, _ => false)
  | _ => false
theorem oexB_ok {K : Frag} {C : Addr} (h : oexB K C = true) : ∃ nm q N bs bm sn sub ab col dd k0 k1 k2 k3 k5, K.lookup C = some (excClassObj nm q C N bs bm true sn sub ab col dd k0 k1 k2 k3 k5 "ValueError.__new__") ∧ PySem.HandSPX.refsVE bm = true := by
  unfold oexB at h
  split at h
  · rename_i dd cd sl ho
    split at h
    · rename_i C' bm k0 k1 k2 k3 n k5 hm hs
      simp only [Bool.and_eq_true, beq_iff_eq, Bool.not_eq_true'] at h
      obtain ⟨rfl, rfl, hdel, hdi, hv⟩ := h
      obtain ⟨nm, bs, mro, ns, qn, hd, sn, sub, ab, col, del⟩ := cd
      dsimp only at hm hdel hdi
      subst hm hdel hdi
      have hsl : sl = #[k0, k1, k2, k3, some (.builtin "ValueError.__new__"), k5] := by
        obtain ⟨l⟩ := sl
        simp only at hs
        rw [hs]
      subst hsl
      exact ⟨nm, qn, ns, bs, bm, sn, sub, ab, col, dd, k0, k1, k2, k3, k5, ho, hv⟩
    · cases h
  · cases h
def cellB (K : Frag) (C : Addr) : List (Str × Addr) → Bool
  | [(_, cc)] => (match K.lookup cc with
    | some ⟨_, _, .cell (some (.ref C')), _⟩ => C' == C
    | _ => false)
  | _ => false
def fileB (P : Program) (K : Frag) : Value → Bool
  | .ref cd => (match K.lookup cd with
    | some ⟨_, _, .fields vs, _⟩ => (match vs.toList with
      | _ :: _ :: .str file _ :: _ => (P.main.file : Str) == file
      | _ => false)
    | _ => false)
  | _ => false
theorem cellB_ok {K : Frag} {C : Addr} {n : Str} {cc : Addr} (h : cellB K C [(n, cc)] = true) : ∃ o, K.lookup cc = some o ∧ o.data = .cell (some (.ref C)) := by
  unfold cellB at h
  simp only at h
  split at h
  · rename_i hh
    exact ⟨_, hh, by rw [beq_iff_eq.mp h]⟩
  · cases h
theorem fileB_ok {P : Program} {K : Frag} {v : Value} (h : fileB P K v = true) : ∃ (cd : Addr) (o : Obj) (vs : Array Value) (file : Str) (tf : Tok), v = .ref cd ∧ K.lookup cd = some o ∧ o.data = .fields vs ∧ vs[2]? = some (.str file tf) ∧ ((P.main.file : Str) == file) = true := by
  unfold fileB at h
  split at h
  · rename_i cd
    split at h
    · rename_i vs _ hcd
      split at h
      · rename_i b0 b1 file tf rr hv0
        exact ⟨cd, _, vs, file, tf, rfl, hcd, rfl, by rw [← Array.getElem?_toList, hv0]; rfl, h⟩
      · cases h
    · cases h
  · cases h
def noneB : Value → Bool
  | .none => true
  | _ => false
def initB (P : Program) (K : Frag) (qual : Str) (C fI : Addr) : Bool := match K.lookup fI with
  | some ⟨_, _, .func fd, _⟩ => PySem.W.codeIn K fd.code qual && (noneB fd.defaults && (cellB K C fd.closure && fileB P K fd.code))
  | _ => false
/-- the checks of an exception's class -/
def xcB (P : Program) (K : Frag) (x : XcD) : Bool :=
  let C := He.ga K x.c
  oexB K C && (He.eqO (PySem.W.findIn K (.ref C) "__setattr__") (some (some (.builtin "object.__setattr__"))) && (decide (PySem.W.subIn K (.ref C) (.type "BaseException") = some true) && (decide (PySem.W.typeIn K (.ref C) = some (.type "type")) &&
  (PySem.W.keepIn K (.ref C) && (He.eqO (PySem.W.findIn K (.ref C) "__init__") (some (some (.ref (xcI K x.c)))) && (decide (PySem.W.typeIn K (.ref (xcI K x.c)) = some (.type "function")) &&
  (He.eqO (PySem.W.ks_superIn K C C "__init__") (some (some (.builtin "ValueError.__init__"))) && (decide (PySem.W.subIn K (.ref C) (.type "ValueError") = some true) && (He.eqO (PySem.W.nsIn K PySem.cStatics "thirdparty.any") (some none) &&
  (He.eqO (PySem.W.nsIn K mainGlobals x.c) (some (some (.ref C))) && (xfB K C && ((x.fs.all fun a => He.eqO (PySem.W.findIn K (.ref C) a.f) (some none)) && initB P K x.qual C (xcI K x.c)))))))))))))
/-- what is plain in the text -/
structure XcT (P : Program) (x : XcD) : Prop where
  kind : x.scope.kind = .function
  co : x.scope.isCoroutine = false
  gen : x.scope.isGenerator = false
  nd : x.ps.Nodup
  loc : ∀ y ∈ x.ps, x.scope.names.lookup y = some .local
  nc : ∀ y ∈ x.scope.names, y.2 ≠ .cell
  fr : ∀ y ∈ x.scope.names, y.2 = .free → y.1 = "__class__"
  hsu : x.scope.names.lookup ("super" : Str) = some .globalImplicit
  hkc : x.scope.names.lookup ("__class__" : Str) = some .free
  har : ∃ ar, (x.params.posonlyargs ++ x.params.args).head? = some ar ∧ x.ps[0]? = some ar.arg ∧ (ar.arg == ("__debug__" : Str)) = false
  top : (P.main.scope.names.lookup ("super" : Str)).isSome = false
  xs : x.xs.all (XA.ok x.ps x.scope.names) = true
  fs : x.fs.all (XF.ok x.ps x.scope.names) = true
  ev : EvSup x.xs x.p0 x.p1 x.p2 x.p3
  bind : ∀ (kV doc pm cdv ct : Value) (an : Option Addr) (cc : Addr) (us : List Value), us.length = x.ps.length →
    bindArgs (fnOfC x.name x.qual x.params (supBody x.slf x.xs x.fs x.p0 x.p1 x.p2 x.p3 x.p4) x.scope .none kV doc pm an cdv ct cc) ⟨us, []⟩ = pure (x.ps.zip us)
  xs0 : 0 < x.xs.length
  few : x.fs.length ≤ 100 ∧ x.xs.length ≤ 100
theorem supC_of {P : Program} {K : Frag} {x : XcD} (T : XcT P x) (h : xcB P K x = true) (e : fnX K x.c = x.val) : ∃ cc fd, SupC P K (He.ga K x.c) (xcI K x.c) cc fd x.ps x.xs x.fs := by
  unfold xcB at h
  obtain ⟨h1, h⟩ := He.ba h
  obtain ⟨h2, h⟩ := He.ba h
  obtain ⟨h3, h⟩ := He.ba h
  obtain ⟨h4, h⟩ := He.ba h
  obtain ⟨h5, h⟩ := He.ba h
  obtain ⟨h6, h⟩ := He.ba h
  obtain ⟨h7, h⟩ := He.ba h
  obtain ⟨h8, h⟩ := He.ba h
  obtain ⟨h9, h⟩ := He.ba h
  obtain ⟨h10, h⟩ := He.ba h
  obtain ⟨h11, h⟩ := He.ba h
  obtain ⟨h12, h⟩ := He.ba h
  obtain ⟨h12, h⟩ := He.ba h
  unfold initB at h
  unfold fnX at e
  cases q : K.lookup (xcI K x.c) with
  | none => rw [q] at h; cases h
  | some o =>
    obtain ⟨oc, od, dt, osl⟩ := o
    rw [q] at h e
    cases dt with
    | func fd =>
      obtain ⟨n1, n2, n3, n4, n5, n6, n7, n8, n9, n10, n11, n12, n13, n14, n15⟩ := fd
      have e2 : (some (n1, n2, n3, n4, n5, n6, n7.map (·.1), n15) : FnXc) = some (x.name, x.qual, x.params, FuncBody.stmts (supBody x.slf x.xs x.fs x.p0 x.p1 x.p2 x.p3 x.p4), x.scope, mainGlobals, [("__class__" : Str)], builtinsNs) := e
      simp only [Option.some.injEq, Prod.mk.injEq] at e2
      obtain ⟨g1, g2, g3, g4, g5, g6, g7, g8⟩ := e2
      subst g1 g2 g3 g4 g5 g6 g8
      obtain ⟨k1, k⟩ := He.ba (show (PySem.W.codeIn K n13 x.qual && _) = true from h)
      obtain ⟨k2, k⟩ := He.ba k
      obtain ⟨k3, k4⟩ := He.ba k
      obtain ⟨yn, cc, rfl⟩ : ∃ yn cc, n7 = [(yn, cc)] := by
        cases n7 with
        | nil => cases g7
        | cons y r => cases r with
          | cons _ _ => simp at g7
          | nil => exact ⟨y.1, y.2, rfl⟩
      have g9 : yn = ("__class__" : Str) := by
        have := congrArg List.head? g7
        simpa using this
      subst g9
      have d0 : n8 = .none := by
        have k2 : noneB n8 = true := k2
        unfold noneB at k2
        cases n8 <;> first | rfl | cases k2
      subst d0
      obtain ⟨cd, o2, vs, file, tf, rfl, hcd, hcd2, hv, hf⟩ := fileB_ok k4
      obtain ⟨ar, a1, a2, a3⟩ := T.har
      refine ⟨cc, _, ⟨oexB_ok h1, He.eqO_ok h2, of_decide_eq_true h3, of_decide_eq_true h4, h5⟩, He.eqO_ok h6, of_decide_eq_true h7, He.eqO_ok h8, of_decide_eq_true h9, He.eqO_ok h10,
        ⟨oc, od, osl, x.name, x.qual, x.params, x.scope, .none, n9, n10, n11, n12, cd, n14, x.slf, x.p0, x.p1, x.p2, x.p3, x.p4, ar, vs, _, file, tf, rfl, q, k1, T.kind, T.co, T.gen, T.nd, T.loc, T.nc, fun y hy => T.fr _ (PySem.mem_of_lookup hy) rfl, T.hsu, T.hkc, a1, a2, hcd, hcd2, hv, hf, T.top, T.xs, T.fs, a3, T.ev⟩,
        cellB_ok k3, .all fun us hl => T.bind _ _ _ _ _ _ _ us hl, T.xs0, fun a m => He.eqO_ok (List.all_eq_true.mp h12 a m), T.few⟩
    | _ => cases h
end FL

/-! FL24: the head's hook; the rules as a program prints them. -/
namespace FL
open PySem PySem.Spec L2
open PySem.W (Frag)
/-! ### the hook -/
abbrev AlX : Type := He.AlD × (Bool × List FnXc)
def obsXK (P : Program) (fa : List He.Fa) (fn : List He.DefD) (xs : List XcD) (chk : Frag → Bool) (K : Frag) : AlX := (He.obsD fa fn K, ((xs.all fun x => xcB P K x) && chk K, xs.map fun x => fnX K x.c))
def valX (fn : List He.DefD) (xs : List XcD) : AlX := (He.valD fn, (true, xs.map XcD.val))
def SaysX (P : Program) (fa : List He.Fa) (fn : List He.DefD) (xs : List XcD) (chk : Frag → Bool) (K : Frag) : Prop := obsXK P fa fn xs chk K = valX fn xs
def obsXG (P : Program) (n : Nat) (fa : List He.Fa) (fn : List He.DefD) (xs : List XcD) (chk : Frag → Bool) (g : Addr → Option Obj) : AlX := obsXK P fa fn xs chk (He.frG g (PySem.cStatics :: He.asD g n))
def hookX (P : Program) (n : Nat) (fa : List He.Fa) (fn : List He.DefD) (xs : List XcD) (chk : Frag → Bool) : PySem.W.Hook where
  α := AlX
  obs := fun s => obsXG P n fa fn xs chk s.heap.get?
  val := fun _ => valX fn xs
  says := fun _ h => ∃ K : Frag, K.In h ∧ SaysX P fa fn xs chk K
  of := fun _ _ e => ⟨_, He.frG_in, e⟩
  keeps := fun _ _ _ ⟨K, hK, c⟩ k => ⟨K, PySem.W.Frag.In.keeps hK k, c⟩
theorem obsXG_eq {P : Program} {n : Nat} {fa : List He.Fa} {fn : List He.DefD} {xs : List XcD} {chk : Frag → Bool} {g : Addr → Option Obj} {s : Shared} (h : ∀ a, g a = s.heap.get? a) : obsXG P n fa fn xs chk g = (hookX P n fa fn xs chk).obs s := by
  have e : g = s.heap.get? := funext h
  rw [e] <;> rfl
section
variable {P : Program} {fa : List He.Fa} {fn : List He.DefD} {xs : List XcD} {chk : Frag → Bool} {K : Frag} {h : Heap} {mg : Str → Option Value}
theorem SaysX.D (c : SaysX P fa fn xs chk K) : He.SaysD fa fn K := congrArg (fun z : AlX => z.1) c
theorem SaysX.ck (c : SaysX P fa fn xs chk K) : chk K = true := (He.ba (congrArg (fun z : AlX => z.2.1) c)).2
theorem SaysX.xc (c : SaysX P fa fn xs chk K) (i : Nat) {x : XcD} (h : xs[i]? = some x) : xcB P K x = true ∧ fnX K x.c = x.val := by
  have c1 := (He.ba (show ((xs.all fun x => xcB P K x) && chk K) = true from congrArg (fun z : AlX => z.2.1) c)).1
  have e : (xs.map fun x => fnX K x.c) = xs.map XcD.val := congrArg (fun z : AlX => z.2.2) c
  have e2 : (xs.map fun x => fnX K x.c)[i]? = (xs.map XcD.val)[i]? := by rw [e]
  rw [List.getElem?_map, List.getElem?_map, h] at e2
  exact ⟨List.all_eq_true.mp c1 x (List.mem_of_getElem? h), Option.some.inj e2⟩
theorem xc_mg {x : XcD} (X : K.In h) (Gl : h.Ns mainGlobals mg) (hx : xcB P K x = true) : mg x.c = some (.ref (He.ga K x.c)) := by
  unfold xcB at hx
  obtain ⟨_, hx⟩ := He.ba hx
  obtain ⟨_, hx⟩ := He.ba hx
  obtain ⟨_, hx⟩ := He.ba hx
  obtain ⟨_, hx⟩ := He.ba hx
  obtain ⟨_, hx⟩ := He.ba hx
  obtain ⟨_, hx⟩ := He.ba hx
  obtain ⟨_, hx⟩ := He.ba hx
  obtain ⟨_, hx⟩ := He.ba hx
  obtain ⟨_, hx⟩ := He.ba hx
  obtain ⟨_, hx⟩ := He.ba hx
  obtain ⟨h11, _⟩ := He.ba hx
  exact PySem.W.mg_of X Gl (He.eqO_ok h11)
theorem xc_keep {x : XcD} (hx : xcB P K x = true) : PySem.W.keepIn K (.ref (He.ga K x.c)) = true := by
  unfold xcB at hx
  obtain ⟨_, hx⟩ := He.ba hx
  obtain ⟨_, hx⟩ := He.ba hx
  obtain ⟨_, hx⟩ := He.ba hx
  obtain ⟨_, hx⟩ := He.ba hx
  exact (He.ba hx).1
theorem xc_xf {x : XcD} (hx : xcB P K x = true) : XfC K (He.ga K x.c) ∧ ∀ a ∈ x.fs, PySem.W.findIn K (.ref (He.ga K x.c)) a.f = some none := by
  unfold xcB at hx
  obtain ⟨_, hx⟩ := He.ba hx
  obtain ⟨_, hx⟩ := He.ba hx
  obtain ⟨_, hx⟩ := He.ba hx
  obtain ⟨_, hx⟩ := He.ba hx
  obtain ⟨_, hx⟩ := He.ba hx
  obtain ⟨_, hx⟩ := He.ba hx
  obtain ⟨_, hx⟩ := He.ba hx
  obtain ⟨_, hx⟩ := He.ba hx
  obtain ⟨_, hx⟩ := He.ba hx
  obtain ⟨_, hx⟩ := He.ba hx
  obtain ⟨_, hx⟩ := He.ba hx
  obtain ⟨h1, hx⟩ := He.ba hx
  exact ⟨xfB_ok h1, fun a m => He.eqO_ok (List.all_eq_true.mp (He.ba hx).1 a m)⟩
end
theorem excOk_of {G : Gx} {x : XcD} {h : Heap} (X : G.K.In h) (Gl : h.Ns mainGlobals G.mg) (T : XcT G.P x) (hx : xcB G.P G.K x = true) (e : fnX G.K x.c = x.val) (np : Nat) (hp : x.ps.length = np + 1) (hp2 : x.ps.length ≤ 1000) (sel : List (Str × Nat)) (hs : sel = selOf x.fs)
    (hpos : ∀ a ∈ x.fs, 0 < a.i) (hsup : G.mg "super" = none) : ExcOk G x.c np sel := by
  obtain ⟨cc, fd, S⟩ := supC_of T hx e
  exact ⟨_, _, cc, fd, _, _, _, S, xc_mg X Gl hx, xc_keep hx, hp, hp2, hs, hpos, hsup⟩

/-! ### rows of trees -/
def notStar : Expr → Bool
  | .Starred _ _ => false
  | _ => true
theorem star_of {a : Expr} {es : List Expr} {env : Env} (h : notStar a = true) : starEach (a :: es) env = (false, eval a env) :: starEach es env := by
  cases a <;> first | rfl | cases h
theorem plain_of {pos : Pos} {env : Env} : ∀ {es : List Expr}, es.all notStar = true → (backTo pos (starEach es env)).any (·.1) = false
  | [], _ => rfl
  | a :: es, h => by
    rw [List.all_cons] at h
    obtain ⟨h1, h2⟩ := Bool.and_eq_true_iff.mp h
    rw [star_of h1]
    show (false || (backTo pos (starEach es env)).any (·.1)) = false
    rw [plain_of h2]
    rfl
def notSlice : Expr → Bool
  | .Slice .. => false
  | .Constant .. => true
  | .Name .. => true
  | .BinOp .. => true
  | .UnaryOp .. => true
  | .Subscript .. => true
  | .Call .. => true
  | _ => false
theorem ix_of {b : Expr} (h : notSlice b = true) : PlainIx b := by
  cases b <;> first | (intro _ _; rfl) | cases h

/-! ### names -/
structure Vr (N : List Str) (sc : Scope) (i : Nat) (x : Str) : Prop where
  hi : N[i]? = some x
  hl : Loc sc x
  hd : (x == ("__debug__" : Str)) = false
  hcd : (x == ("__classdict__" : Str)) = false
theorem Vr.vis {N : List Str} {sc : Scope} {i : Nat} {x : Str} (v : Vr N sc i x) : Vis sc x := v.hl.imp id .inl
/-- a comprehension's name that the def holds -/
structure Vf (N : List Str) (sc : Scope) (i : Nat) (x : Str) : Prop where
  hi : N[i]? = some x
  vis : Vis sc x
  hd : (x == ("__debug__" : Str)) = false
  hcd : (x == ("__classdict__" : Str)) = false
theorem Vr.f {N : List Str} {sc : Scope} {i : Nat} {x : Str} (v : Vr N sc i x) : Vf N sc i x := ⟨v.hi, v.vis, v.hd, v.hcd⟩
def vrB (N : List Str) (sc : Scope) (i : Nat) (x : Str) : Bool := decide (N[i]? = some x) && ((match sc.names.lookup x with | some .local => true | some .cell => true | _ => false) && (!(x == ("__debug__" : Str)) && !(x == ("__classdict__" : Str))))
theorem vr_of {N : List Str} {sc : Scope} {i : Nat} {x : Str} (h : vrB N sc i x = true) : Vr N sc i x := by
  unfold vrB at h
  obtain ⟨h1, h⟩ := Bool.and_eq_true_iff.mp h
  obtain ⟨h2, h⟩ := Bool.and_eq_true_iff.mp h
  obtain ⟨h3, h4⟩ := Bool.and_eq_true_iff.mp h
  refine ⟨of_decide_eq_true h1, ?_, by simpa using h3, by simpa using h4⟩
  split at h2 <;> first | exact .inl (by assumption) | exact .inr (by assumption) | cases h2
def vfB (N : List Str) (sc : Scope) (i : Nat) (x : Str) : Bool := decide (N[i]? = some x) && ((match sc.names.lookup x with | some .local => true | some .cell => true | some .free => true | _ => false) && (!(x == ("__debug__" : Str)) && !(x == ("__classdict__" : Str))))
theorem vf_of {N : List Str} {sc : Scope} {i : Nat} {x : Str} (h : vfB N sc i x = true) : Vf N sc i x := by
  unfold vfB at h
  obtain ⟨h1, h⟩ := Bool.and_eq_true_iff.mp h
  obtain ⟨h2, h⟩ := Bool.and_eq_true_iff.mp h
  obtain ⟨h3, h4⟩ := Bool.and_eq_true_iff.mp h
  refine ⟨of_decide_eq_true h1, ?_, by simpa using h3, by simpa using h4⟩
  split at h2 <;> first | exact .inl (by assumption) | exact .inr (.inl (by assumption)) | exact .inr (.inr (by assumption)) | cases h2
structure Gb (sc : Scope) (x : Str) : Prop where
  hl : sc.names.lookup x = some .globalImplicit
  hd : (x == ("__debug__" : Str)) = false
def gbB (sc : Scope) (x : Str) : Bool := (match sc.names.lookup x with | some .globalImplicit => true | _ => false) && !(x == ("__debug__" : Str))
theorem gb_of {sc : Scope} {x : Str} (h : gbB sc x = true) : Gb sc x := by
  unfold gbB at h
  obtain ⟨h1, h2⟩ := Bool.and_eq_true_iff.mp h
  refine ⟨?_, by simpa using h2⟩
  split at h1
  · assumption
  · cases h1
def lcB (sc : Scope) (x : Str) : Bool := match sc.names.lookup x with | some .local => true | _ => false
theorem lc_of {sc : Scope} {x : Str} (h : lcB sc x = true) : sc.names.lookup x = some .local := by
  unfold lcB at h
  split at h
  · assumption
  · cases h
end FL

/-! FL25: comprehensions in place, a def told. -/
namespace FL
open PySem PySem.Spec L2
open PySem.W (Frag)
section
variable {X : Cx} {G : Gx} {B : Fr0} {W : WX} {k : Option Nat} {N : List Str} {sc : Scope} {pos : Pos} {F F' H : Hp} {σ : L2.St} {s : Sls}
variable {a b c e : Expr} {ea eb ec : E} {es : List Expr} {D D' : Ends} {i : Nat} {x : Str} {px : Pos}
theorem Good.blk (g : Good X G k N sc W) {scope : Scope} {s : Shared} {H : Hp} {cl : List (Str × Addr)} {C : Addr} {fp : List Addr} : Good (X.blk s H scope (compEnvC scope cl C X.env) fp) G k N (relS scope sc) W0 :=
  ⟨g.hP, g.hw, g.hb, g.hK, g.hmg, g.hN, g.nd, by rw [← g.hsc]; rfl, g.calm, g.room, g.un, fun _ u s' ⟨_, _, _, _, _, _, _, _, _, _, _, _, _, _, _, _, w⟩ => w.elim⟩
theorem PTs.imp {ifs : List Expr} {t t' : TT} (h : PTs X ifs t) (k : ∀ σ H Q, t' σ H Q → t σ H Q) : PTs X ifs t' := ⟨fun pins s σ H Q I hw => h.run pins s σ H Q I (k σ H Q hw)⟩
theorem t_nil : PTs X [] (rd G B W relC (evTs .nil)) := by
  refine PTs.imp pts_nil fun σ H Q hq => ?_
  obtain ⟨F, s, sr, p⟩ := hq
  simp only [evTs] at p
  exact p true F H (.refl _) sr rfl
theorem t_one {ca : C} (h : PT X c (rdC G B W ca)) : PTs X [c] (rd G B W relC (evTs (.cons ca .nil))) := by
  refine PTs.imp (pts_one h) fun σ H Q hq => ?_
  obtain ⟨F, s, sr, p⟩ := hq
  simp only [evTs] at p
  exact ⟨F, s, sr, p⟩
/-- what stands within a comprehension -/
def InBlk (G : Gx) (k : Option Nat) (N : List Str) (sc scope : Scope) (tg : Expr) (ifs : List Expr) (elt : Expr) (gt : Tg) (cs : Cs) (ee : E) : Prop :=
  ∀ (X' : Cx) (B' : Fr0), Good X' G k N (relS scope sc) W0 → PG X' tg (rdG G B' gt) ∧ PTs X' ifs (rd G B' W0 relC (evTs cs)) ∧ PE X' elt (rdE G B' W0 ee)
theorem q_comp {n : Nat} (g : Good X G (some n) N sc W) {elt tg iter : Expr} {ifs : List Expr} {scope : Scope} {own : List (Str × Nat)} {gt : Tg} {it : It} {cs : Cs} {ee : E} (hi : PI X tg iter (rdI G B W it)) (ok : blkC N sc scope own = true)
    (hb : InBlk G (some n) N sc scope tg ifs elt gt cs ee) (ho : ∀ i ∈ tgS gt, i ∈ own.map (·.2)) (hs : ∀ x, foldedSetIterable iter X.env x = pure x) : PE X (.ListComp elt [⟨tg, iter, ifs, 0⟩] scope pos) (rdM G B W (.comp (own.map (·.2)) gt it cs ee)) := by
  refine PE.imp (pe_lc (g.calm rfl) (by rw [g.hN]; exact g.nd) hi (by rw [g.hN, g.hsc]; exact blkOk_by ok) (fun s H C cl fp => ⟨fun pins s σ H v u Q I r ⟨B', hw⟩ => (hb _ B' g.blk).1.run pins s σ H v u Q I r hw⟩)
    (fun s H C cl fp => ⟨fun pins s σ H Q I ⟨B', hw⟩ => (hb _ B' g.blk).2.1.run pins s σ H Q I hw⟩) (fun s H C cl fp => ⟨fun pins s σ H Q I ⟨B', hw⟩ => (hb _ B' g.blk).2.2.run pins s σ H Q I hw⟩) hs) fun σ H Q hq => rd_comp ho hq
/-- name = [..], the name a local of the def -/
theorem s_setLc {n : Nat} (g : Good X G (some n) N sc W) {y : Str} {py spos : Pos} {elt tg iter : Expr} {ifs : List Expr} {scope : Scope} {own : List (Str × Nat)} {gt : Tg} {it : It} {cs : Cs} {ee : E} (hy : N[i]? = some y) (hyl : sc.names.lookup y = some .local) (hk : sc.kind = .function) (hl : (py.line == pos.line) = true)
    (hn : (scope.names.any fun (n, k) => n == y && (k == .local || k == .cell)) = false) (hi : PI X tg iter (rdI G B W it)) (ok : blkC N sc scope own = true)
    (hb : InBlk G (some n) N sc scope tg ifs elt gt cs ee) (ho : ∀ i ∈ tgS gt, i ∈ own.map (·.2)) (hs : ∀ x, foldedSetIterable iter X.env x = pure x) :
    PS X (.Assign [.Name y py] (.ListComp elt [⟨tg, iter, ifs, 0⟩] scope pos) spos) (rdS G B W (evS (.asgM i (.comp (own.map (·.2)) gt it cs ee)))) :=
  s_asgMC g (ps_setLc (g.calm rfl) (by rw [g.hN]; exact g.nd) (by rw [g.hN]; exact hy) (by rw [g.hsc]; exact hyl) (sw_true (by rw [g.hsc]; exact hk) (by rw [g.hsc]; exact hyl) hl hn) hi (by rw [g.hN, g.hsc]; exact blkOk_by ok) (fun s H C cl fp => ⟨fun pins s σ H v u Q I r ⟨B', hw⟩ => (hb _ B' g.blk).1.run pins s σ H v u Q I r hw⟩)
    (fun s H C cl fp => ⟨fun pins s σ H Q I ⟨B', hw⟩ => (hb _ B' g.blk).2.1.run pins s σ H Q I hw⟩) (fun s H C cl fp => ⟨fun pins s σ H Q I ⟨B', hw⟩ => (hb _ B' g.blk).2.2.run pins s σ H Q I hw⟩) hs) fun σ H Q hq => rd_comp ho hq
end
/-! ### defs -/
/-- a def's body is read so -/
def BodyOk (G : Gx) (k : Nat) (N : List Str) (sc : Scope) (bd : List Stmt) (ir : List S) : Prop := ∀ (X : Cx) (W : WX) (B : Fr0), Good X G (some k) N sc W → TopX X → B.xa = none → PSs X bd (rdS G B W (evSs ir))
section
variable {G : Gx} {x qual : Str} {params : Arguments} {bd : List Stmt} {scope : Scope} {dvs : List V} {kws : List (Str × V)} {f : Addr} {fd : FuncData} {N ps : List Str} {np n k : Nat} {mu : Option Nat} {fresh : Bool} {ir : List S}
theorem hasFn_of {dv : List V} {ds : List T} (F : FunD G.K x qual params bd scope dvs kws f fd) (S : FnScope N ps scope) (hnp : ps.length = np) (hN : N.length = np + n) (hm : G.mg x = some (.ref f)) (hb : BodyOk G k N scope bd ir)
    (b : ∃ dsv, Vals dv dsv ∧ Binds G.K fd ps dsv) (hd : ∀ F : Hp, Reps G F dv ds) : HasFn G (k + 1) (mkFS x np n mu fresh ir) ds := by
  obtain ⟨dsv, b1, b2⟩ := b
  exact ⟨f, fd, ps, dv, dsv, hm, fn_ok F S hnp hN hb, F.kp, b2, b1, hd⟩
theorem HasFn.mono {g : FS} {ds : List T} {j k : Nat} (h : HasFn G j g ds) (l : j ≤ k) : HasFn G k g ds := by
  obtain ⟨f, fd, ps, dvs, dsv, h1, h2, h3⟩ := h.ex
  exact ⟨f, fd, ps, dvs, dsv, h1, h2.mono l, h3⟩
theorem HasFnK.mono {g : FS} {np : Nat} {ks : List Str} {ar : List AK} {j k : Nat} (h : HasFnK G j g np ks ar) (l : j ≤ k) : HasFnK G k g np ks ar := by
  obtain ⟨f, fd, ps, gA, gV, h1, h2, h3⟩ := h.ex
  exact ⟨f, fd, ps, gA, gV, h1, h2.mono l, h3⟩
end
/-- the plain ground: no own classes -/
def mkG (P : Program) (w : World) (base : Heap) (K : Frag) (mg : Str → Option Value) : Gx := ⟨P, w, base, K, mg, fun _ => none⟩
theorem mkG_isi {P : Program} {w : World} {base : Heap} {K : Frag} {mg : Str → Option Value} : IsiOk (mkG P w base K mg) := fun F H x c ns ts _ r => by
  simp only [Rep, mkG] at r
  obtain ⟨_, _, _, _, _, h, _⟩ := r
  cases h
end FL

/-! FL26: a loop over a slot's own list. -/
namespace FL
open PySem PySem.Spec L2
section
variable {X : Cx} {G : Gx} {B : Fr0} {W : WX} {k : Option Nat} {N : List Str} {sc : Scope} {pos : Pos} {F F' H : Hp} {σ : L2.St} {s : Sls}
variable {a b c e : Expr} {ea eb ec : E} {es : List Expr} {D D' : Ends} {i : Nat} {x : Str} {px : Pos} {sts : List Stmt}
/-- the list at a is held -/
def Fr0.hold (B : Fr0) (a : Addr) (vs : List V) : Fr0 := { H0 := upd B.H0 a (.lst vs), pa := B.pa, F0 := B.F0, xa := some (a, .none, none) }
theorem SR.hold {ad : Addr} {vs : List V} {ts : List T} (h : SR G B F H σ s) (hx : B.xa = none) (e : s[i]? = some (.mu ts)) (hs : σ[i]? = some (some (.ref ad))) (hv : H ad = some (.lst vs)) (hF : F ad = none) (h0 : B.H0 ad = none) :
    SR G (B.hold ad vs) F H σ (s.set i (.xc Str.empty [] [])) := by
  have hi : i < s.length := (List.getElem?_eq_some_iff.mp e).1
  have old : ∀ {j : Nat} {x : Sl}, (s.set i (.xc Str.empty [] []))[j]? = some x → (j = i ∧ x = .xc Str.empty [] []) ∨ (j ≠ i ∧ s[j]? = some x) := fun {j x} q => by
    by_cases z : j = i
    · subst z
      rw [List.getElem?_set_self hi] at q
      exact .inl ⟨rfl, (Option.some.inj q).symm⟩
    · rw [List.getElem?_set_ne (Ne.symm z)] at q
      exact .inr ⟨z, q⟩
  have npa : B.pa ≠ some ad := fun z => h.ph ad z h0
  refine ⟨h.sub, by rw [List.length_set]; exact h.len, fun j u q => ?_, fun j us q => ?_, fun j us q => ?_, fun j k x y b c ne q r ox oy sj sk => ?_, fun b u q np => ?_, h.pl, fun b q => ?_, h.f0, fun b q n => ?_, fun j c' ns' ts' q => ?_⟩
  · rcases old q with ⟨rfl, q'⟩ | ⟨nj, q'⟩
    · cases q'
    · exact h.im j u q'
  · rcases old q with ⟨rfl, q'⟩ | ⟨nj, q'⟩
    · cases q'
    · obtain ⟨b, k1, k2, k3⟩ := h.mu j us q'
      have nb : b ≠ ad := h.ne j i _ _ b ad nj q' e rfl rfl k1 hs
      exact ⟨b, k1, k2, by show upd B.H0 ad _ b = none; rw [upd_ne nb]; exact k3⟩
  · rcases old q with ⟨rfl, q'⟩ | ⟨nj, q'⟩
    · cases q'
    · exact h.mp j us q'
  · rcases old q with ⟨rfl, q'⟩ | ⟨nj, q'⟩
    · subst q'; cases ox
    · rcases old r with ⟨rfl, r'⟩ | ⟨nk, r'⟩
      · subst r'; cases oy
      · exact h.ne j k x y b c ne q' r' ox oy sj sk
  · have q : upd B.H0 ad (.lst vs) b = some u := q
    by_cases z : b = ad
    · subst z; rw [upd_same] at q; cases q; exact hv
    · rw [upd_ne z] at q; exact h.fr b u q np
  · show upd B.H0 ad _ b ≠ none
    have nb : b ≠ ad := fun z => npa (by rw [← z]; exact q)
    rw [upd_ne nb]; exact h.ph b q
  · show upd B.H0 ad _ b = none
    have nb : b ≠ ad := fun z => n (by rw [z]; exact hF)
    rw [upd_ne nb]; exact h.nw b q n
  · rcases old q with ⟨rfl, q'⟩ | ⟨nj, q'⟩
    · cases q'
      exact ⟨ad, .none, none, rfl, hs, .inl rfl⟩
    · obtain ⟨_, _, _, z, _⟩ := h.xc j c' ns' ts' q'
      rw [hx] at z; cases z
theorem SR.free1 {ad : Addr} {vs : List V} (h : SR G (B.hold ad vs) F H σ s) (hF0 : B.F0 ad = none) : F ad = none := by
  cases q : F ad with
  | none => rfl
  | some u =>
    have z : upd B.H0 ad (.lst vs) ad = none := h.nw ad hF0 (by rw [q]; exact fun z => by cases z)
    rw [upd_same] at z
    cases z
/-- let go, the slot unset -/
theorem SR.unhold {ad : Addr} {vs : List V} (h : SR G (B.hold ad vs) F H σ s) (h0 : B.H0 ad = none) (npa : B.pa ≠ some ad) (hh : heldX i s = true) : SR G B F H σ (s.set i .un) := by
  unfold heldX at hh
  obtain ⟨h1, h2⟩ := Bool.and_eq_true_iff.mp hh
  have old : ∀ {j : Nat} {x : Sl}, (s.set i .un)[j]? = some x → x ≠ .un → (j ≠ i ∧ s[j]? = some x) := fun {j x} q n => by
    by_cases z : j = i
    · subst z
      by_cases hi : j < s.length
      · rw [List.getElem?_set_self hi] at q
        exact (n (Option.some.inj q).symm).elim
      · rw [List.getElem?_eq_none (by simpa using hi)] at q; cases q
    · rw [List.getElem?_set_ne (Ne.symm z)] at q
      exact ⟨z, q⟩
  have out : ∀ {b : Addr}, upd B.H0 ad (.lst vs) b = none → B.H0 b = none := fun {b} e => by
    by_cases z : b = ad
    · subst z; exact h0
    · rw [upd_ne z] at e; exact e
  refine ⟨h.sub, by rw [List.length_set]; exact h.len, fun j u q => ?_, fun j us q => ?_, fun j us q => ?_, fun j k x y b c ne q r ox oy sj sk => ?_, fun b u q np => ?_, h.pl, fun b q => ?_, h.f0, fun b q n => out (h.nw b q n), fun j c' ns' ts' q => ?_⟩
  · obtain ⟨nj, q⟩ := old q (fun z => by cases z)
    exact h.im j u q
  · obtain ⟨nj, q⟩ := old q (fun z => by cases z)
    obtain ⟨b, k1, k2, k3⟩ := h.mu j us q
    exact ⟨b, k1, k2, out k3⟩
  · obtain ⟨nj, q⟩ := old q (fun z => by cases z)
    exact h.mp j us q
  · obtain ⟨nj, q⟩ := old q (fun z => by subst z; cases ox)
    obtain ⟨nk, r⟩ := old r (fun z => by subst z; cases oy)
    exact h.ne j k x y b c ne q r ox oy sj sk
  · refine h.fr b u ?_ np
    show upd B.H0 ad (.lst vs) b = some u
    have z : b ≠ ad := fun z => by subst z; rw [h0] at q; cases q
    rw [upd_ne z]
    exact q
  · have w : upd B.H0 ad (.lst vs) b ≠ none := h.ph b q
    have z : b ≠ ad := fun z => by subst z; exact npa q
    rw [upd_ne z] at w
    exact w
  · exact (noX_set h2 q).elim
/-- let go, the slot's own again -/
theorem SR.regain {ad : Addr} {vs : List V} {ts : List T} {F1 : Hp} (h : SR G (B.hold ad vs) F H σ s) (h0 : B.H0 ad = none) (hF0 : B.F0 ad = none) (npa : B.pa ≠ some ad) (hh : heldX i s = true) (r : Reps G F1 vs ts) (e : Same F1 F) : SR G B F H σ (s.set i (.mu ts)) := by
  have u := h.unhold h0 npa hh
  have hF := h.free1 hF0
  have hv : H ad = some (.lst vs) := h.fr ad _ (by show upd B.H0 ad _ ad = _; rw [upd_same]) npa
  have hs : σ[i]? = some (some (.ref ad)) := by
    unfold heldX at hh
    obtain ⟨h1, _⟩ := Bool.and_eq_true_iff.mp hh
    split at h1
    · rename_i c ns us e
      obtain ⟨a', cls, d, k1, k2, _⟩ := h.xc i c ns us e
      cases k1
      exact k2
    · cases h1
  have hi : i < s.length := by rw [h.len]; exact (List.getElem?_eq_some_iff.mp hs).1
  have z := u.setMu (i := i) (a := ad) (ts := ts) (by simpa using hi) ⟨⟨vs, hv, Reps.mono e _ _ r⟩, hF⟩ h0 (fun j x q o w => by
    by_cases hj : j = i
    · subst hj
      rw [List.getElem?_set_self hi] at q
      cases q
      cases o
    · rw [List.getElem?_set_ne (Ne.symm hj)] at q
      cases ho : x.own with
      | none => rw [ho] at o; cases o
      | some us =>
        obtain ⟨a', k1, _, k3⟩ := h.own q ho
        rw [w] at k1
        cases k1
        rcases k3 with k3 | k3
        · have k3 : upd B.H0 ad (.lst vs) ad = none := k3
          rw [upd_same] at k3
          cases k3
        · exact npa k3)
  rw [List.set_set] at z
  have es : σ.set i (some (.ref ad)) = σ := by
    refine List.ext_getElem? fun j => ?_
    by_cases hj : j = i
    · subst hj
      rw [List.getElem?_set_self (List.getElem?_eq_some_iff.mp hs).1, hs]
    · rw [List.getElem?_set_ne (Ne.symm hj)]
  rw [es] at z
  exact z
theorem fin_post {ad : Addr} {vs : List V} {ts : List T} {F1 : Hp} {r : SO} (h0 : B.H0 ad = none) (hF0 : B.F0 ad = none) (npa : B.pa ≠ some ad) (rr : Reps G F1 vs ts) (e1 : Same F1 F) (p : PostS G B W F (finB i ts r) D) :
    PostS G (B.hold ad vs) W F r D := by
  cases r with
  | nx s =>
    simp only [finB] at p
    split at p
    · rename_i hh
      exact fun σ' F' H' e sr => p _ F' H' e (sr.regain h0 hF0 npa hh rr (e1.trans e))
    · exact p.elim
  | ret t s =>
    simp only [finB] at p
    split at p
    · rename_i hh
      exact fun v σ' F' H' e sr r => p v _ F' H' e (sr.unhold h0 npa hh) r
    · exact p.elim
  | ex c ns es s =>
    simp only [finB] at p
    split at p
    · rename_i hh
      exact fun cls d σ' F' H' e sr r => p cls d _ F' H' e (sr.unhold h0 npa hh) r
    · exact p.elim
  | brk s => exact p.elim
  | cnt s => exact p.elim
  | retF ts s => exact p.elim
  | bad => exact p.elim
theorem s_forB (g : Good X G k N sc W) {tg : Expr} {gt : Tg} {ys : List S} (hp : PassesOwn (model X.prog X.w) X.A X.env X.xe) (hc : X.calm = true) (hx : B.xa = none) (hi : N[i]? = some x) (hv : Vis sc x) (hd : (x == ("__debug__" : Str)) = false) (hcd : (x == ("__classdict__" : Str)) = false)
    (hg : ∀ B', PG X tg (rdG G B' gt)) (hb : ∀ B', PSs X sts (rdS G B' W (evSs ys))) (hs : ∀ y, foldedSetIterable (.Name x px) X.env y = pure y) :
    PS X (.For tg (.Name x px) sts [] pos) (rdS G B W (evS (.forB gt i ys))) := by
  have hgA : PG X tg (gAny G gt) := ⟨fun pins s σ H v u Q I r ⟨B', hw⟩ => (hg B').run pins s σ H v u Q I r hw⟩
  have hbA : PSs X sts (fun D σ H => ∃ B', rdS G B' W (evSs ys) D σ H) := ⟨fun pins s σ H D I ⟨B', hw⟩ => (hb B').run pins s σ H D I hw⟩
  refine PS.imp (ps_for hp hc (pi_seq (tg := tg) (pv' g hi hv hd hcd)) hgA hbA hs) fun D σ H hq => ?_
  obtain ⟨F, s, sr, p⟩ := hq
  simp only [evS] at p
  split at p
  · rename_i ts e
    obtain ⟨ad, hs1, ⟨⟨vs, hv1, rv⟩, hF⟩, h0⟩ := sr.mu i ts e
    have hF0 : B.F0 ad = none := sr.f0.free hF
    have npa : B.pa ≠ some ad := fun z => sr.ph ad z h0
    have sr0 := sr.hold hx e hs1 hv1 hF h0
    have p0 := fin_post (i := i) h0 hF0 npa rv (Same.refl F) p
    have al : ∀ {F' : Hp} {H' : Hp} {σ' : L2.St} {s' : Sls}, SR G (B.hold ad vs) F' H' σ' s' → SqL X.K H' ad vs := fun {F' H' σ' s'} q => .inl (.inl (q.fr ad _ (by show upd B.H0 ad _ ad = _; rw [upd_same]) npa))
    refine ⟨.ref ad, hs1, .inl ⟨ad, rfl, ⟨vs, al sr0⟩, fun j m σ H => m = ts.length - j ∧ j ≤ ts.length ∧ ∃ F1 s, Same F F1 ∧ SR G (B.hold ad vs) F1 H σ s ∧ PostS G (B.hold ad vs) W F1 (forL gt (evSs ys) (ts.drop j) s) D, ⟨ts.length, by simp, Nat.zero_le _, F, _, .refl _, sr0, by simpa using p0⟩, ?_⟩⟩
    rintro j m σ H ⟨rfl, hj, F', s', eF, sr', p'⟩
    by_cases hlt : j < ts.length
    · have hlv : j < vs.length := by rw [rv.length]; exact hlt
      refine .inr ⟨⟨vs, vs[j], al sr', by simp [hlv]⟩, fun σ2 H2 => ∃ F1 s, Same F F1 ∧ SR G (B.hold ad vs) F1 H2 σ2 s ∧ PostS G (B.hold ad vs) W F1 (forL gt (evSs ys) (ts.drop (j + 1)) s) D, fun σ2 H2 q => ⟨ts.length - (j + 1), by omega, rfl, hlt, q⟩, fun y H2 yy => ?_⟩
      obtain ⟨rfl, yy⟩ := yy
      have q := yy vs (al sr')
      obtain ⟨t, ht, rt⟩ := rv.got q
      rw [List.drop_eq_getElem_cons hlt] at p'
      have ht' : ts[j] = t := by
        rw [List.getElem?_eq_getElem hlt] at ht
        exact Option.some.inj ht
      rw [ht'] at p'
      unfold forL at p'
      split at p'
      · exact p'.elim
      · rename_i s3 e3
        refine ⟨B.hold ad vs, F', s', t, s3, sr', Rep.mono eF _ _ rt, e3, fun σ3 sr3 _ => ⟨B.hold ad vs, F', s3, sr3, ?_⟩⟩
        cases h : evSs ys s3 with
        | nx s4 => rw [h] at p'; exact fun σ' F3 H' e sr4 => ⟨F3, s4, eF.trans e, sr4, PostS.up p' e⟩
        | cnt s4 => rw [h] at p'; exact fun σ' F3 H' e sr4 => ⟨F3, s4, eF.trans e, sr4, PostS.up p' e⟩
        | brk s4 => rw [h] at p'; exact p'
        | ret t s4 => rw [h] at p'; exact p'
        | retF t s4 => rw [h] at p'; exact p'
        | ex c ns ts s4 => rw [h] at p'; exact p'
        | bad => rw [h] at p'; exact p'
    · have e : j = ts.length := by omega
      subst e
      refine .inl ⟨⟨vs, al sr', by rw [rv.length]; exact Nat.le_refl _⟩, ?_⟩
      rw [List.drop_length] at p'
      unfold forL at p'
      exact p' _ F' H (.refl _) sr'
  · exact p.elim
end
end FL

/-! FL27: the rules with few arguments, for printed proofs. -/
namespace FL
open PySem PySem.Spec L2
open PySem.W (Frag)
structure TryOk (G : Gx) (c : Str) (yes no : List Str) : Prop where
  ex : ∃ C, G.mg c = some (.ref C) ∧ (∀ y ∈ yes, ∀ C', G.mg y = some (.ref C') → PySem.W.exmOne G.K (.ref C') (.ref C) = some true) ∧ (∀ y ∈ no, ∀ C', G.mg y = some (.ref C') → PySem.W.exmOne G.K (.ref C') (.ref C) = some false)
structure XfOk (G : Gx) (f : Str) (cs : List Str) : Prop where
  ne : Str.empty ∉ cs
  ex : ∀ c ∈ cs, ∀ C, G.mg c = some (.ref C) → XfC G.K C ∧ PySem.W.findIn G.K (.ref C) f = some none
section
variable {X : Cx} {G : Gx} {B : Fr0} {W : WX} {k : Option Nat} {N : List Str} {sc : Scope} {pos : Pos} {F F' H : Hp} {σ : L2.St} {s : Sls} {n : Nat}
variable {a b c e : Expr} {ea eb ec : E} {es : List Expr} {D D' : Ends} {i : Nat} {x : Str} {px p p2 : Pos} {sts : List Stmt}
theorem p_var (g : Good X G k N sc W) (v : Vf N sc i x) : PE X (.Name x pos) (rdE G B W (.var i)) := q_var g v.hi v.vis v.hd v.hcd
theorem p_glo (g : Good X G k N sc W) {t : T} (h : GloOk G x t) (v : Gb sc x) : PE X (.Name x pos) (rdE G B W (.glo x t)) := q_glo g v.hl h v.hd
theorem p_cmpB (g : Good X G k N sc W) {o : Cop} {op : CmpOp} (h : copOk o op = true) (ha : PE X a (rdE G B W ea)) (v : Vf N sc i x) : PE X (.Compare a [op] [.Name x px] pos) (rdE G B W (.cmpB o ea i)) := q_cmpB g h ha v.hi v.vis v.hd v.hcd (by cases op <;> rfl)
theorem p_cmpBT (g : Good X G k N sc W) {o : Cop} {op : CmpOp} (h : copOk o op = true) (ha : PE X a (rdE G B W ea)) (v : Vf N sc i x) : PT X (.Compare a [op] [.Name x px] pos) (rdC G B W (.cmpB o ea i)) := q_cmpBT g h ha v.hi v.vis v.hd v.hcd (by cases op <;> rfl)
theorem p_idx (g : Good X G k N sc W) (ha : PE X a (rdE G B W ea)) (hb : PE X b (rdE G B W eb)) (h : notSlice b = true) : PE X (.Subscript a b pos) (rdE G B W (.idx ea eb)) := q_idx g.hK ha hb (ix_of h)
theorem p_idxB (g : Good X G k N sc W) (v : Vf N sc i x) (hb : PE X b (rdE G B W eb)) (h : notSlice b = true) : PE X (.Subscript (.Name x px) b pos) (rdE G B W (.idxB i eb)) := q_idxB g v.hi v.vis v.hd v.hcd hb (ix_of h)
theorem p_trB (g : Good X G k N sc W) (v : Vf N sc i x) : PT X (.Name x pos) (rdC G B W (.trB i)) := q_trB g v.hi v.vis v.hd v.hcd
theorem p_cons {fs : Es} (ha : PE X a (rdE G B W ea)) (hr : PA X es (rd G B W (relEs G) (evEs fs))) (h : notStar a = true) : PA X (a :: es) (rd G B W (relEs G) (evEs (.cons ea fs))) := q_cons ha hr (star_of h)
theorem p_ae {as : As} (ha : PE X a (rdE G B W ea)) (hr : PA X es (rdA G B W as)) (h : notStar a = true) : PA X (a :: es) (rdA G B W (.e ea as)) := q_ae ha hr (star_of h)
theorem p_ab (g : Good X G k N sc W) {as : As} (v : Vf N sc i x) (hr : PA X es (rdA G B W as)) : PA X (.Name x px :: es) (rdA G B W (.b i as)) := q_ab g v.hi v.vis v.hd v.hcd hr (star_of rfl)
theorem p_call (g : Good X G (some n) N sc W) {f : FS} {as : As} {ds : List T} (hx : f.name = x) (hf : HasFn G n f ds) (v : Gb sc x) (h : PA X (a :: es) (rdA G B W as)) (h1 : notStar a = true) (h2 : es.all notStar = true) : PE X (.Call (.Name x p) (a :: es) [] pos) (rdE G B W (.call f as ds)) :=
  q_call g hx hf v.hl v.hd h (star_of h1) (plain_of h2)
theorem p_callM (g : Good X G (some n) N sc W) {f : FS} {as : As} {ds : List T} (hx : f.name = x) (hf : HasFn G n f ds) (v : Gb sc x) (h : PA X (a :: es) (rdA G B W as)) (h1 : notStar a = true) (h2 : es.all notStar = true) : PE X (.Call (.Name x p) (a :: es) [] pos) (rdM G B W (.call f as ds)) :=
  q_callM g hx hf v.hl v.hd h (star_of h1) (plain_of h2)
theorem p_bi {bb : Bi} (g : Good X G k N sc W) (hc : (bb = .max2 ∨ bb = .min2) → k.isSome = true) {fs : Es} (hx : biName bb = x) (hk : BiOk G bb) (v : Gb sc x) (h : PA X (a :: es) (rd G B W (relEs G) (evEs fs))) (h1 : notStar a = true) (h2 : es.all notStar = true) :
    PE X (.Call (.Name x p) (a :: es) [] pos) (rdE G B W (.bi bb fs)) := q_bi g hc hx hk v.hl h (star_of h1) (plain_of h2)
theorem p_lenB (g : Good X G k N sc W) (hk : G.mg "len" = none) (v0 : Gb sc "len") (v : Vf N sc i x) : PE X (.Call (.Name "len" p) [.Name x px] [] pos) (rdE G B W (.lenB i)) := q_lenB g hk v0.hl v.hi v.vis v.hd v.hcd
theorem p_tupB (g : Good X G k N sc W) (hk : G.mg "tuple" = none) (v0 : Gb sc "tuple") (v : Vf N sc i x) : PE X (.Call (.Name "tuple" p) [.Name x px] [] pos) (rdE G B W (.tupB i)) := q_tupB g hk v0.hl v.hi v.vis v.hd v.hcd
theorem p_lst (g : Good X G k N sc W) (hk : G.mg "list" = none) (v0 : Gb sc "list") (ha : PE X a (rdE G B W ea)) (h : notStar a = true) : PE X (.Call (.Name "list" p) [a] [] pos) (rdM G B W (.lst ea)) := q_lst g hk v0.hl ha (star_of h)
theorem p_lstB (g : Good X G k N sc W) (hk : G.mg "list" = none) (v0 : Gb sc "list") (v : Vf N sc i x) : PE X (.Call (.Name "list" p) [.Name x px] [] pos) (rdM G B W (.lstB i)) := q_lstB g hk v0.hl v.hi v.vis v.hd v.hcd
theorem ty_of (g : Good X G k N sc W) {y : Ty} {m : String} (h : tyName y = some m) (v : Gb sc (Str.ofString m)) (hk : G.mg (Str.ofString m) = none) : TyE X (.Name (Str.ofString m) p) y :=
  .blt h (show X.env.scope.names.lookup (Str.ofString m) = some .globalImplicit by rw [g.hsc]; exact v.hl) (by rw [g.hmg]; exact hk)
theorem p_isi (g : Good X G k N sc W) (ho : IsiOk G) {y : Ty} {e2 : Expr} (hk : G.mg "isinstance" = none) (v : Gb sc "isinstance") (ha : PE X a (rdE G B W ea)) (h1 : notStar a = true) (h2 : TyE X e2 y) :
    PE X (.Call (.Name "isinstance" p) [a, e2] [] pos) (rdE G B W (.isi ea true [y])) := by
  have n2 : notStar e2 = true := by cases h2; rfl
  exact q_isi1 g ho hk v.hl ha h2 (star_of h1) (star_of n2) (plain_of (by rw [List.all_cons, n2]; rfl))
theorem i_rng1' (g : Good X G k N sc W) {tg : Expr} (hk : G.mg "range" = none) (v : Gb sc "range") (ha : PE X a (rdE G B W ea)) (h : notStar a = true) : PI X tg (.Call (.Name "range" p) [a] [] pos) (rdI G B W (.rng1 ea)) := i_rng1 g hk v.hl ha (star_of h)
theorem i_rng2' (g : Good X G k N sc W) {tg : Expr} (hk : G.mg "range" = none) (v : Gb sc "range") (ha : PE X a (rdE G B W ea)) (hb : PE X b (rdE G B W eb)) (h1 : notStar a = true) (h2 : notStar b = true) : PI X tg (.Call (.Name "range" p) [a, b] [] pos) (rdI G B W (.rng2 ea eb)) :=
  i_rng2 g hk v.hl ha hb (by rw [star_of h1, star_of h2]; rfl) (star_of h2)
theorem i_seq' (g : Good X G k N sc W) {tg : Expr} (ha : PE X a (rdE G B W ea)) : PI X tg a (rdI G B W (.seq ea)) := i_seq g.hK ha
theorem t_nm (g : Good X G k N sc W) (v : Vr N sc i x) (hf : X.fn x = true ∨ sc.names.lookup x = some .local) : PG X (.Name x pos) (rdG G B (.nm i)) :=
  g_nm g.hN g.nd v.hi (by rw [g.hsc]; exact v.hl) (by rw [g.hsc]; exact hf)
theorem t_tp (g : Good X G (some n) N sc W) {kk : Nat} {gs : List Tg} (h : PGs X es (rdGs G B gs)) (hn : (assignEach es X.env).length = gs.length) (hst : (assignEach es X.env).findIdx? (·.1) = none) : PG X (.Tuple es kk pos) (rdG G B (.tp gs)) := g_tp g.hK (g.calm rfl) h hn hst
theorem r_asg (g : Good X G k N sc W) (T : TopX X) (v : Vr N sc i x) (ha : PE X a (rdE G B W ea)) (hs : swapsWith a (some (.Name x px)) pos.line X.env = pure false) : PS X (.Assign [.Name x px] a pos) (rdS G B W (evS (.asg (.nm i) ea))) := s_asg g v.hi v.hl (.inl (T.fn x)) ha hs
theorem r_asgM (g : Good X G k N sc W) (T : TopX X) {m : M} (v : Vr N sc i x) (ha : PE X a (rdM G B W m)) (hs : swapsWith a (some (.Name x px)) pos.line X.env = pure false) : PS X (.Assign [.Name x px] a pos) (rdS G B W (evS (.asgM i m))) := s_asgM g v.hi v.hl (.inl (T.fn x)) ha hs
theorem r_app (g : Good X G k N sc W) {apos cpos : Pos} (v : Vf N sc i x) (ha : PE X a (rdE G B W ea)) (h : notStar a = true) (hline : (apos.endLine == cpos.line) = true) : PS X (.Expr (.Call (.Attribute (.Name x px) "append" apos) [a] [] cpos) pos) (rdS G B W (evS (.app i ea))) :=
  s_app g v.hi v.vis v.hd v.hcd ha (star_of h) hline
theorem r_setI (g : Good X G k N sc W) {p2 : Pos} (v : Vf N sc i x) (hb : PE X b (rdE G B W eb)) (ha : PE X a (rdE G B W ea))
    (hass : ∀ v, assign (.Subscript (.Name x px) b p2) X.env v = (do
      let ov ← holding [v] (eval (.Name x px) X.env)
      let iv ← holding [v, ov] (eval b X.env)
      standAt p2
      holding [v, ov, iv] (setItem ov iv v)
      release [v, ov, iv] []))
    (hs : swapsWithSole [.Subscript (.Name x px) b p2] a pos.line X.env = pure false) : PS X (.Assign [.Subscript (.Name x px) b p2] a pos) (rdS G B W (evS (.setI i eb ea))) := s_setI g v.hi v.vis v.hd v.hcd hb ha hass hs
theorem r_retB (g : Good X G k N sc W) (v : Vf N sc i x) : PS X (.Return (some (.Name x px)) pos) (rdS G B W (evS (.retB i))) := s_retB (p2 := pos) g v.hi v.vis v.hd v.hcd
theorem r_for (g : Good X G (some n) N sc W) (T : TopX X) {tg iter : Expr} {gt : Tg} {it : It} {ys : List S} (hi : PI X tg iter (rdI G B W it)) (hg : PG X tg (rdG G B gt)) (hb : PSs X sts (rdS G B W (evSs ys))) (hs : ∀ x, foldedSetIterable iter X.env x = pure x) : PS X (.For tg iter sts [] pos) (rdS G B W (evS (.forS gt it ys))) :=
  s_for T.pass (g.calm rfl) hi hg hb hs
theorem r_forB (g : Good X G (some n) N sc W) (T : TopX X) (hx : B.xa = none) {tg : Expr} {gt : Tg} {ys : List S} (v : Vf N sc i x) (hg : ∀ B', PG X tg (rdG G B' gt)) (hb : ∀ B', PSs X sts (rdS G B' W (evSs ys))) (hs : ∀ y, foldedSetIterable (.Name x px) X.env y = pure y) :
    PS X (.For tg (.Name x px) sts [] pos) (rdS G B W (evS (.forB gt i ys))) := s_forB g T.pass (g.calm rfl) hx v.hi v.vis v.hd v.hcd hg hb hs
theorem r_whl (T : TopX X) {ca : C} {m : Nat} {ys : List S} (hc : PT X c (rdC G B W ca)) (hb : PSs X sts (rdS G B W (evSs ys))) : PS X (.While c sts [] pos) (rdS G B W (evS (.whl m ca ys))) := s_whl T.pass hc hb
theorem r_par (g : Good X G (some n) N sc W) {j : Nat} {y : Str} {fa fb : Expr} {ea eb : E} {py pt : Pos} {kt k2 pt2} (v : Vr N sc i x) (w : Vr N sc j y) (hij : i ≠ j) (hx : lcB sc x = true) (hy : lcB sc y = true) (ha : PE X fa (rdE G B W ea)) (hb : PE X fb (rdE G B W eb)) (h1 : notStar fa = true) (h2 : notStar fb = true)
    (hw : swappedStores [.Tuple [.Name x px, .Name y py] kt pt] (.Tuple [fa, fb] k2 pt2) X.env = pure (some [x, y])) :
    PS X (.Assign [.Tuple [.Name x px, .Name y py] kt pt] (.Tuple [fa, fb] k2 pt2) pos) (rdS G B W (evS (.asg (.tp [.nm i, .nm j]) (.tup (.cons ea (.cons eb .nil)))))) :=
  s_par rfl g v.hi w.hi hij (lc_of hx) (lc_of hy) (p_cons ha (p_cons hb q_nil h2) h1) hw
theorem r_rai (g : Good X G (some (n + 2)) N sc W) {np : Nat} {sel : List (Str × Nat)} {fs : Es} (ok : ExcOk G x np sel) (v : Gb sc x) (ha : PA X (e :: es) (rd G B W (relEs G) (evEs fs))) (h1 : notStar e = true) (h2 : es.all notStar = true) :
    PS X (.Raise (some (.Call (.Name x p) (e :: es) [] p2)) none pos) (rdS G B W (evS (.rai x np sel fs))) := s_rai g ok v.hl v.hd ha (star_of h1) (plain_of h2)
theorem r_rai0 (g : Good X G (some (n + 2)) N sc W) {sel : List (Str × Nat)} (ok : ExcOk G x 0 sel) (v : Gb sc x) : PS X (.Raise (some (.Call (.Name x p) [] [] p2)) none pos) (rdS G B W (evS (.rai x 0 sel .nil))) := s_rai0 g ok v.hl v.hd
theorem r_try (g : Good X G (some n) N sc W) (T : TopX X) (hB : B.xa = none) {body suite : List Stmt} {b₀ : Stmt} {np pos' : Pos} {yes no : List Str} {ib ih : List S} (ok : TryOk G x yes no) (v : Gb sc x)
    (hb : ∀ (X' : Cx) (W' : WX), Good X' G (some n) N sc W' → TopX X' → PSs X' body (rdS G B W' (evSs ib))) (hs : ∀ (X' : Cx) (B' : Fr0), Good X' G none N sc W0 → PSs X' (b₀ :: suite) (rdS G B' W0 (evSs ih))) :
    PS X (.Try body [.ExceptHandler (some (.Name x np)) none (b₀ :: suite) pos'] [] [] pos) (rdS G B W (evS (.tryS ib yes no none ih))) := by
  obtain ⟨C, h1, h2, h3⟩ := ok.ex
  exact s_try g T hB ⟨show X.env.scope.names.lookup x = some .globalImplicit by rw [g.hsc]; exact v.hl, v.hd, .inl (by rw [g.hmg]; exact h1)⟩ h2 h3 (.inl ⟨rfl, rfl⟩) hb fun X' B' g' _ => hs X' B' g'
theorem r_tryX (g : Good X G (some n) N sc W) (T : TopX X) (hB : B.xa = none) {body suite : List Stmt} {b₀ : Stmt} {np pos' : Pos} {y : Str} {j : Nat} {yes no : List Str} {ib ih : List S} (ok : TryOk G x yes no) (v : Gb sc x) (w : Vr N sc j y) (hy : lcB sc y = true)
    (hb : ∀ (X' : Cx) (W' : WX), Good X' G (some n) N sc W' → TopX X' → PSs X' body (rdS G B W' (evSs ib))) (hs : ∀ (X' : Cx) (B' : Fr0), Good X' G none N sc W0 → SuiX X' B' → PSs X' (b₀ :: suite) (rdS G B' W0 (evSs ih))) :
    PS X (.Try body [.ExceptHandler (some (.Name x np)) (some y) (b₀ :: suite) pos'] [] [] pos) (rdS G B W (evS (.tryS ib yes no (some j) ih))) := by
  obtain ⟨C, h1, h2, h3⟩ := ok.ex
  exact s_try g T hB ⟨show X.env.scope.names.lookup x = some .globalImplicit by rw [g.hsc]; exact v.hl, v.hd, .inl (by rw [g.hmg]; exact h1)⟩ h2 h3 (.inr ⟨y, j, rfl, rfl, w.hi, lc_of hy⟩) hb fun X' B' g' sx => hs X' B' g' (sx rfl)
theorem p_exf (g : Good X G k N sc W) (sx : SuiX X B) {f : Str} {cs : List Str} (ok : XfOk G f cs) (v : Vf N sc i x) : PE X (.Attribute (.Name x px) f pos) (rdE G B W (.exf i f cs)) := q_exf g sx ok.ne v.hi v.vis v.hd v.hcd ok.ex
theorem p_stw {apos : Pos} (ha : PE X a (rdE G B W ea)) (hb : PE X b (rdE G B W eb)) (h : notStar b = true) (hbase : attributeBase a "startswith" X.env (eval a X.env) = eval a X.env) (hline : (apos.endLine == pos.line) = true) : PE X (.Call (.Attribute a "startswith" apos) [b] [] pos) (rdE G B W (.stw ea eb)) := q_stw ha hb (star_of h) hbase hline
theorem p_split {apos : Pos} (ha : PE X a (rdE G B W ea)) (hb : PE X b (rdE G B W eb)) (h : notStar b = true) (hbase : attributeBase a "split" X.env (eval a X.env) = eval a X.env) (hline : (apos.endLine == pos.line) = true) : PE X (.Call (.Attribute a "split" apos) [b] [] pos) (rdM G B W (.split ea eb)) := q_split ha hb (star_of h) hbase hline
end
def esLen : Es → Nat
  | .nil => 0
  | .cons _ r => esLen r + 1
theorem evEs_len : ∀ {fs : Es} {s s' : Sls} {ts : List T}, evEs fs s = .ok ts s' → ts.length = esLen fs
  | .nil, s, s', ts, h => by
    simp only [evEs] at h
    cases h
    rfl
  | .cons e r, s, s', ts, h => by
    simp only [evEs] at h
    cases h1 : evE e s with
    | bad => rw [h1] at h; cases h
    | ex _ _ _ _ => rw [h1] at h; cases h
    | ok t s1 =>
      rw [h1] at h
      simp only [Rs.bind] at h
      cases h2 : evEs r s1 with
      | bad => rw [h2] at h; cases h
      | ex _ _ _ _ => rw [h2] at h; cases h
      | ok us s2 =>
        rw [h2] at h
        cases h
        simp [esLen, evEs_len h2]
section
variable {X : Cx} {G : Gx} {B : Fr0} {W : WX} {k : Option Nat} {N : List Str} {sc : Scope} {pos : Pos} {n : Nat} {a : Expr} {es : List Expr} {x : Str} {p : Pos}
theorem p_callK (g : Good X G (some n) N sc W) {f : FS} {fs gs : Es} {ar : List AK} {kws : List Keyword} {ks : List Str} (hx : f.name = x) (hf : HasFnK G n f (esLen fs) ks ar) (v : Gb sc x) (h : PA X (a :: es) (rd G B W (relEs G) (evEs fs))) (hk : KwR X G B W kws gs) (hl : esLen gs = ks.length)
    (hall : (backToKw pos (keywordEach kws X.env)).all (·.1.isSome) = true) (hks : (backToKw pos (keywordEach kws X.env)).filterMap (·.1) = ks) (h1 : notStar a = true) (h2 : es.all notStar = true) (hnk : (backToKw pos (keywordEach kws X.env)).any (·.1.isNone) = false) :
    PE X (.Call (.Name x p) (a :: es) kws pos) (rdE G B W (.callK f fs gs ar)) :=
  q_callK g hx hf v.hl v.hd h (fun s ts s' e => evEs_len e) hk (fun s ts s' e => (evEs_len e).trans hl) hall hks (star_of h1) (by rw [plain_of (show (a :: es).all notStar = true by rw [List.all_cons, h1, h2]; rfl), hnk]; rfl)
end
end FL

/-! FL28: further side conditions. -/
namespace FL
open PySem PySem.Spec L2
section
variable {X : Cx} {G : Gx} {B : Fr0} {W : WX} {k : Option Nat} {N : List Str} {sc : Scope} {x y : Str} {px py pt pt2 : Pos} {kt k2 : Nat} {fa fb : Expr}
def isStar : Expr → Bool
  | .Starred .. => true
  | _ => false
theorem sw_par (g : Good X G k N sc W) (hk : sc.kind = .function) (hx : lcB sc x = true) (hy : lcB sc y = true) (hn : (x == y) = false) (hl : (py.line == px.line) = true) (hf : [fa, fb].all (foldedForSure 8) = false) (hc : [fa, fb].all (constantsAlone 8) = false) (h1 : notStar fa = true) (h2 : notStar fb = true) :
    swappedStores [.Tuple [.Name x px, .Name y py] kt pt] (.Tuple [fa, fb] k2 pt2) X.env = pure (some [x, y]) := by
  have kx : X.env.kindOf x = some .local := by show X.env.scope.names.lookup x = _; rw [g.hsc]; exact lc_of hx
  have ky : X.env.kindOf y = some .local := by show X.env.scope.names.lookup y = _; rw [g.hsc]; exact lc_of hy
  have hb : X.env.blockKind = .function := by unfold Env.blockKind; rw [g.hsc, hk]; rfl
  have hn2 : (y == x) = false := by
    cases q : y == x with
    | false => rfl
    | true => rw [beq_iff_eq.mp q] at hn; simp at hn
  have ed : [x, y].eraseDups = [x, y] := by
    simp [List.eraseDups_cons, hn2]
  have e1 : (some NameKind.local == some NameKind.local) = true := by decide
  have e2 : (ScopeKind.function != ScopeKind.function) = false := by decide
  unfold swappedStores
  simp only [List.head?_cons, Option.map_some, Option.getD_some, Expr.pos, List.filterMap_cons, List.filterMap_nil, kx, ky, hl, beq_self_eq_true, e1, e2, Bool.and_self, if_true, hb, ed, hf, hc, List.length_cons, List.length_nil, Bool.true_or, Bool.not_true, bne_self_eq_false, Bool.or_self, Bool.or_false, Bool.false_eq_true, if_false, Bool.and_true]
  split
  · rename_i h
    exfalso
    simp only [List.any_cons, List.any_nil, Bool.or_false, Bool.or_eq_true] at h
    rcases h with h | h
    · split at h
      · cases h1
      · cases h
    · split at h
      · cases h2
      · cases h
  · rfl
end
end FL

/-! FL29: facts from the head. -/
namespace FL
open PySem PySem.Spec L2
open PySem.W (Frag)
section
variable {K : Frag} {x qual : Str} {params : Arguments} {body : List Stmt} {scope : Scope} {dvs : List V} {kws : List (Str × V)} {f : Addr} {fd : FuncData} {ps : List Str}
/-- f(e, .., k = v, ..) of a def with defaults and no keyword-only parameters -/
theorem kbn_of (F : FunD K x qual params body scope dvs kws f fd) (n : Nat) (ks : List Str) (g : {α : Type} → List α → List α → List α → List α) (hd : dvs ≠ [])
    (hrel : ∀ {vs ds zs : List V} {us its ws : List Value}, Vals vs us → Vals ds its → Vals zs ws → Vals (g vs ds zs) (g us its ws))
    (h : ∀ (T : Addr) (kV doc pm : Value) (an : Option Addr) (cdv ct : Value) (us its ws : List Value), us.length = n → its.length = dvs.length → ws.length = ks.length →
      ∃ k, bindArgs (PySem.W.fnOf x qual params body scope (.ref T) kV doc pm an cdv ct) ⟨us, ks.zip ws⟩ = seqItems? (.ref T) >>= k ∧ k (some its.toArray) = pure (ps.zip (g us its ws))) :
    ∃ its : List Value, KBn K fd ps n ks (fun us ws => g us its ws) (fun vs zs => g vs dvs zs) := by
  obtain ⟨oc, od, dV, kV, doc, pm, an, cdv, ct, osl, rfl, lk, hcd, hD, hK⟩ := F.ex
  rcases hD with ⟨e, _⟩ | ⟨_, T, o, its, m, rfl, lT, oT, rT⟩
  · exact absurd e hd
  · refine ⟨its, ⟨fun s us ws X l1 l2 => ?_, fun r1 r2 => hrel r1 rT r2⟩⟩
    obtain ⟨k, e1, e2⟩ := h T kV doc pm an cdv ct us its ws l1 rT.length.symm l2
    refine BindsTo.of_looks fun M => ?_
    rw [e1]
    exact looks_items X lT oT (.of_pure e2)
end
theorem vals_one {vs : List V} {us : List Value} (r : Vals vs us) (i : Nat) : Vals ((vs.drop i).take 1) ((us.drop i).take 1) := by
  have r := r.drop i
  generalize vs.drop i = a at r ⊢
  generalize us.drop i = b at r ⊢
  cases r with
  | nil => exact .nil
  | cons a b => exact .cons a .nil
/-- a class's body -/
def clsB : Stmt → List Stmt
  | .ClassDef (body := b) .. => b
  | _ => []
section
variable {P : Program} {w : World} {base h : Heap} {K : Frag} {mg : Str → Option Value}
theorem tryOk_of {c : Str} {yes no : List Str} (hc : mg c = some (.ref (He.ga K c))) (hy : ∀ y ∈ yes, mg y = some (.ref (He.ga K y)) ∧ PySem.W.exmOne K (.ref (He.ga K y)) (.ref (He.ga K c)) = some true)
    (hn : ∀ y ∈ no, mg y = some (.ref (He.ga K y)) ∧ PySem.W.exmOne K (.ref (He.ga K y)) (.ref (He.ga K c)) = some false) : TryOk (mkG P w base K mg) c yes no := by
  refine ⟨He.ga K c, hc, fun y m C' e => ?_, fun y m C' e => ?_⟩
  · obtain ⟨h1, h2⟩ := hy y m
    have e : mg y = some (.ref C') := e
    rw [h1] at e
    cases e
    exact h2
  · obtain ⟨h1, h2⟩ := hn y m
    have e : mg y = some (.ref C') := e
    rw [h1] at e
    cases e
    exact h2
theorem xfOk_of {f : Str} {cs : List Str} (ne : Str.empty ∉ cs) (hy : ∀ y ∈ cs, mg y = some (.ref (He.ga K y)) ∧ XfC K (He.ga K y) ∧ PySem.W.findIn K (.ref (He.ga K y)) f = some none) : XfOk (mkG P w base K mg) f cs := by
  refine ⟨ne, fun y m C' e => ?_⟩
  obtain ⟨h1, h2⟩ := hy y m
  have e : mg y = some (.ref C') := e
  rw [h1] at e
  cases e
  exact h2
theorem gloInt {x : Str} {i : Int} (X : K.In h) (Gm : h.Ns mainGlobals mg) (c : (He.Fa.int x i).ok K = true) : GloOk (mkG P w base K mg) x (.int i) := by
  obtain ⟨t, e⟩ := He.int_ok X Gm c
  exact ⟨.int i, _, e, ⟨t, rfl⟩, fun F => by simp only [Rep]⟩
theorem gloStr {x z : Str} (X : K.In h) (Gm : h.Ns mainGlobals mg) (c : (He.Fa.str x z).ok K = true) : GloOk (mkG P w base K mg) x (.str z) := by
  obtain ⟨t, e⟩ := He.str_ok X Gm c
  exact ⟨.str z, _, e, ⟨t, rfl⟩, fun F => by simp only [Rep]⟩
theorem gloTup {x : Str} {vs : List He.Dv} {ts : List T} (hm : mg x = some (.ref (He.ga K x))) (c : He.tupB K x vs = true) (r : ∀ F : Hp, Reps (mkG P w base K mg) F (vs.map (He.Dv.v K)) ts) : GloOk (mkG P w base K mg) x (.tup ts) :=
  ⟨.ref (He.ga K x), _, hm, rfl, fun F => by
    simp only [Rep]
    exact ⟨_, _, rfl, He.tupB_ok c F, r F⟩⟩
def bltB (K : Frag) (x : Str) (n : String) : Bool := He.eqO (PySem.W.nsIn K mainGlobals x) (some (some (.builtin n)))
theorem blt_ok {x : Str} {n : String} (X : K.In h) (Gm : h.Ns mainGlobals mg) (c : bltB K x n = true) : mg x = some (.builtin n) := PySem.W.mg_of X Gm (He.eqO_ok c)
end
end FL

/-! FL30: the law's end. -/
namespace FL
open PySem PySem.Spec L2
open PySem.W (Frag)
theorem walk_ofX {l : PySem.W.OpenLaw} {n k : Nat} {q : Program} {loose : List Str} {XP : (Str → Option Value) → Heap → Prop} {YP : World → Heap → Prop} {d : DefRec} {CX : World → CXT} {x : Str}
    (hn : l.most = some n) (hn2 : n ≤ sizeLine) (hdf : d.params.defaults = []) (hr : Room k callerA)
    (F : ∀ (w : World) (mg : Str → Option Value) (fa : Addr) (h : Heap), YP w h → h.Ns mainGlobals mg → mg d.name = some (.ref fa) →
      ∃ (K : Frag) (fd : FuncData) (sp : Sp), K.In h ∧ (∀ (s : Shared) (u : Value), BindsTo s fd ⟨[u], []⟩ [(x, u)]) ∧
        (∀ (H : Hp) (a : Addr) (ns : List Int), ns.length ≤ n → (∀ z ∈ ns, Builtin.Int.intBits z ≤ 1048576) → Only H → SqL K H a (ns.map V.int) → sp [.ref a] H (fun v _ => v = .bl true) fun _ _ _ => False) ∧
        ∀ base : Heap, K.In base → base.Ns mainGlobals mg → FnOk l.prog w K mg base (CX w) k fa fd [x] sp)
    (hCX : ∀ (w : World) (H : Hp) (s : Shared) (e : Value) (s' : Shared), CX w [] H s (fun _ _ _ => False) e s' → False) :
    PySem.W.WalkO q loose XP YP l.row.toRowW d [] (fun f vs => PySem.call f vs) := by
  refine Att.attach_callB hn hdf fun w s₀ s₁ mg mb fa o pm cd doc a vs ns G Y ho hd hcd hmg hobj hints hlen hbits hg => ?_
  obtain ⟨K, fd, sp, KX, hb, hsp, hF⟩ := F w mg fa _ Y G.T.g hmg
  exact law_call KX G.T.g G.T.b G.T.builtins G.T.nolimit hg hobj hints (Nat.le_trans hlen hn2) hr hF hb (fun H hO hS => hsp H a ns hlen hbits hO hS) fun H e s' => hCX w H s₁ e s'
theorem cx_false {P : Program} {w : World} {H : Hp} {s : Shared} {e : Value} {s' : Shared} (h : L2.CX P w [] H s (fun _ _ _ => False) e s') : False := by
  obtain ⟨_, _, _, _, _, _, _, _, _, _, _, _, _, z⟩ := h
theorem funD_uniq {K : Frag} {x qual x2 q2 : Str} {params p2 : Arguments} {body b2 : List Stmt} {scope s2 : Scope} {dvs d2 : List V} {kws k2 : List (Str × V)} {f : Addr} {fd fd2 : FuncData} (F : FunD K x qual params body scope dvs kws f fd) (F2 : FunD K x2 q2 p2 b2 s2 d2 k2 f fd2) : fd = fd2 := by
  obtain ⟨_, _, _, _, _, _, _, _, _, _, _, e1, _⟩ := F.ex
  obtain ⟨_, _, _, _, _, _, _, _, _, _, _, e2, _⟩ := F2.ex
  rw [e1] at e2
  cases e2
  rfl
/-- the law's promise, of its meaning -/
theorem law_sp {G : Gx} {f : FS} {H : Hp} {a : Addr} {ns : List Int} (hm : f.mu = none) (hf : f.fresh = false) (hS : SqL G.K H a (ns.map V.int)) (h : ∃ o, f.sem [.scr (ns.map T.int)] = .ok (.bl true) o) :
    spF G f [.ref a] H (fun v _ => v = .bl true) fun _ _ _ => False := by
  obtain ⟨o, h⟩ := h
  have hr : ∀ F : Hp, ∀ ns : List Int, Reps G F (ns.map V.int) (ns.map T.int) := fun F ns => by
    induction ns with
    | nil => simp [Reps]
    | cons n r ih => simp only [List.map_cons]; exact Reps.cons (by simp only [Rep]) ih
  have rr : Reps G H [.ref a] [.scr (ns.map T.int)] := Reps.cons (by simp only [Rep]; exact ⟨a, _, rfl, hS, hr _ _⟩) (by simp only [Reps])
  obtain ⟨s0, k1, k2⟩ := start_im rr (Same.refl H)
  refine ⟨H, [.scr (ns.map T.int)], s0, none, by rw [hm]; exact k1, k2, fun _ => rfl, ?_⟩
  rw [h]
  intro v F' H' cp r
  unfold RetR at r
  rw [hf, if_neg Bool.false_ne_true] at r
  simpa only [Rep] using r
end FL

/-! FL31: sorted, a row of classes in isinstance, defs that call themselves. -/
namespace FL
open PySem PySem.Spec L2
section
variable {X : Cx} {G : Gx} {B : Fr0} {W : WX} {k : Option Nat} {N : List Str} {sc : Scope} {pos : Pos}
variable {a b c e : Expr} {ea eb ec : E} {es : List Expr}
theorem p_isiT (g : Good X G k N sc W) (ho : IsiOk G) {p p2 : Pos} {ys : List Ty} {x1 : Nat} (hk : G.mg "isinstance" = none) (v : Gb sc "isinstance") (ha : PE X a (rdE G B W ea)) (h1 : notStar a = true) (h2 : TyEs X es ys) (hlen : ys.length ≤ 100) :
    PE X (.Call (.Name "isinstance" p) [a, .Tuple es x1 p2] [] pos) (rdE G B W (.isi ea false ys)) :=
  q_isiT g ho hk v.hl ha h2 hlen (star_of h1) (star_of rfl) (plain_of rfl)
/-! ### sorted -/
/-- trees that values stand for -/
def Stands (G : Gx) (F : Hp) (u : Value) (t : T) : Prop := ∃ v, RelV v u ∧ Rep G F v t
theorem each_stands {F : Hp} : ∀ {ts : List T} {vs : List V} {us : List Value}, Reps G F vs ts → Vals vs us → PySem.W.EachIs (Stands G F) us ts
  | [], vs, us, h, r => by
    simp only [Reps] at h
    subst h
    cases r
    exact .nil
  | t :: ts, vs, us, h, r => by
    simp only [Reps] at h
    obtain ⟨v, rs, rfl, h2, h3⟩ := h
    cases r with
    | cons r1 r2 => exact .cons ⟨v, r1, h2⟩ (each_stands h3 r2)
theorem stands_each {F : Hp} : ∀ {ts : List T} {us : List Value}, PySem.W.EachIs (Stands G F) us ts → ∃ vs, Vals vs us ∧ Reps G F vs ts
  | _, _, .nil => ⟨[], .nil, by simp only [Reps]⟩
  | _, _, .cons ⟨v, r, h⟩ t => by
    obtain ⟨vs, h1, h2⟩ := stands_each t
    exact ⟨v :: vs, .cons r h1, Reps.cons h h2⟩
theorem dats_mem {n : Nat} : ∀ {ts : List T}, dats n ts = true → ∀ t ∈ ts, dat n t = true
  | [], _, t, m => by cases m
  | u :: us, h, t, m => by
    simp only [dats, Bool.and_eq_true] at h
    rcases List.mem_cons.mp m with rfl | m
    · exact h.1
    · exact dats_mem h.2 t m
theorem srtT_perm (ts : List T) : (srtT ts).Perm ts := List.mergeSort_perm ..
def rSrt (G : Gx) : List V → Hp → VK → Prop := fun vs H Q => ∃ (a : Addr) (xs : List V) (ts : List T) (F : Hp), vs = [V.ref a] ∧ H a = some (.lst xs) ∧ Same F H ∧ Reps G F xs ts ∧ srtOk ts = true ∧ ∀ ys p, Reps G F ys (srtT ts) → H p = none → Q (.ref p) (upd H p (.lst ys))
theorem call_srt (hK : X.K = G.K) (hu : X.A.units + 65 < cLine) : CallR X (.builtin "sorted") (rSrt G) := by
  intro pins s σ H vs us Q I r h
  obtain ⟨a, xs, ts, F, rfl, ha, sub, rx, ok, q⟩ := h
  unfold srtOk at ok
  simp only [Bool.and_eq_true, Bool.or_eq_true, decide_eq_true_eq] at ok
  obtain ⟨dd, hl, al, so⟩ := ok
  have hs : SqL X.K H a xs := .inl (.inl ha)
  obtain ⟨its, rv, hL, hz⟩ := I.list hs
  rw [Vals.ref1 r]
  have dep : ∀ t ∈ ts, (toD t).depth ≤ 61 := fun t m => (lay_of 60 t (dats_mem dd t m)).2
  refine PySem.W.sorted_data (A := X.A) (enc := toD) (bs := ts) (R := Stands G F) (by simpa using hL.isList) (each_stands rx rv) ?_ ?_ ?_ (by rw [← big_eq]; exact hl) (fun t m => by have := dep t m; omega) fun out ho eo => ?_
  · have hr : ∀ (ts : List T) (vs : List V) (us : List Value), dats 60 ts = true → Reps G F vs ts → Vals vs us → PySem.W.EachIs (fun v b => ∃ as, Reads s.heap v (toD b) as) us ts := by
      intro ts
      induction ts with
      | nil =>
        intro vs us _ h r
        simp only [Reps] at h
        subst h
        cases r
        exact .nil
      | cons t ts ih =>
        intro vs us d h r
        simp only [Reps] at h
        obtain ⟨v, rs, rfl, h2, h3⟩ := h
        simp only [dats, Bool.and_eq_true] at d
        cases r with
        | cons r1 r2 =>
          have d1 : Dp X.K F v (toD t) := by rw [hK]; exact dp_of 60 t v d.1 h2
          exact .cons (Dp.reads I (toD t) v _ (Dp.up sub _ _ d1) r1) (ih _ _ d.2 h3 r2)
    exact hr ts xs its dd rx rv
  · intro d hd d' hd'
    obtain ⟨t, m, rfl⟩ := List.mem_map.mp hd
    obtain ⟨t', m', rfl⟩ := List.mem_map.mp hd'
    exact List.all_eq_true.mp (List.all_eq_true.mp al t m) t' m'
  · rcases so with so | so
    · refine .inl fun d hd => ?_
      obtain ⟨t, m, rfl⟩ := List.mem_map.mp hd
      have z := List.all_eq_true.mp so t m
      cases t with
      | tup us => cases us with
        | nil => cases z
        | cons u us => exact ⟨toD u, toDs us, by simp only [toD, toDs]⟩
      | _ => cases z
    · refine .inr fun d hd => ?_
      obtain ⟨t, m, rfl⟩ := List.mem_map.mp hd
      have z := List.all_eq_true.mp so t m
      have dt := dats_mem dd t m
      cases t with
      | non => cases z
      | tup us => cases z
      | obj _ _ _ => exact (no_obj dt).elim
      | scr _ => exact (no_scr dt).elim
      | exo _ _ _ => exact (no_exo dt).elim
      | _ => simp only [toD]; exact ⟨by simp, by simp⟩
  · obtain ⟨ys, v1, v2⟩ := stands_each eo
    obtain ⟨ep, he'⟩ := PyProof.Rows.sortedAll_at s.heap its (List.toArray out)
    have hlen : ys.length ≤ sizeLine := by
      rw [v2.length, (show (List.mergeSort ts (PySem.W.dataLe false toD)).length = ts.length from List.length_mergeSort ..), ← big_eq]
      exact hl
    exact ⟨.ref _, upd H (s.heap.objs.size + 1) (.lst ys), I.laid (t' := s.toks) (fun _ _ => PyProof.Rows.sortedAll_old) (Nat.le_succ _) ⟨hlen, out, ep, v1, by simpa using he'⟩, rfl, q ys _ v2 (I.hok.fresh (Nat.le_succ _))⟩
theorem p_srt (g : Good X G k N sc W) {p : Pos} (hk : G.mg "sorted" = none) (v : Gb sc "sorted") (ha : PE X a (rdE G B W ea)) (h : notStar a = true) : PE X (.Call (.Name "sorted" p) [a] [] pos) (rdM G B W (.srt ea)) := by
  have hg : Gl X "sorted" := show X.env.scope.names.lookup ("sorted" : Str) = some .globalImplicit by rw [g.hsc]; exact v.hl
  refine PE.imp (pe_callB (call_srt g.hK g.hu) hg (by rw [g.hmg]; exact hk) (by decide +kernel) (pa_cons ha pa_nil (star_of h)) (he := star_of h) (hpl := plain_of rfl)) fun σ H Q hq => ?_
  obtain ⟨F, s, sr, p⟩ := hq
  simp only [evM] at p
  refine ⟨F, s, sr, (Pst.bind p).mono ?_⟩
  rintro x H1 ⟨tx, F1, s1, e1, sr1, rx, p1⟩
  split at p1
  · rename_i ts
    simp only [relE, Rep] at rx
    obtain ⟨a, vs, rfl, h2, h3⟩ := rx
    split at p1
    · rename_i ok
      exact ⟨a, vs, ts, F1, rfl, sr1.sub _ _ h2, sr1.sub, h3, ok, fun ys q r hn => relM_grow sr1 r p1 q hn⟩
    · exact p1.elim
  · exact p1.elim
/-! ### defs that call themselves -/
/-- no run of it is told -/
abbrev irBad : List S := [.whl 0 (.e (.cst .non)) []]
theorem bad_body {bd : List Stmt} {n : Nat} : BodyOk G n N sc bd irBad := fun X W B g T hB => by
  refine ⟨fun pins s σ H D I h => ?_⟩
  obtain ⟨F, sl, sr, p⟩ := h
  have e : evSs irBad sl = .bad := by
    simp only [irBad, evSs, evS, whileL, SO.then]
  rw [e] at p
  exact p.elim
/-- a def that calls itself, so many turns deep -/
def recSem (np n : Nat) (mu : Option Nat) (fresh : Bool) (ir : (List T → FR) → List S) : Nat → List T → FR
  | 0 => mkSem np n mu fresh irBad
  | m + 1 => mkSem np n mu fresh (ir (recSem np n mu fresh ir m))
def recFS (name : Str) (np n : Nat) (mu : Option Nat) (fresh : Bool) (ir : (List T → FR) → List S) (m : Nat) : FS := ⟨name, mu, fresh, recSem np n mu fresh ir m⟩
theorem hasFn_rec {x : Str} {np n L : Nat} {mu : Option Nat} {fresh : Bool} {ir : (List T → FR) → List S} {ds : List T} (h0 : HasFn G (L + 1) (mkFS x np n mu fresh irBad) ds)
    (hs : ∀ m, HasFn G (L + 1 + m) (recFS x np n mu fresh ir m) ds → HasFn G (L + 1 + (m + 1)) (mkFS x np n mu fresh (ir (recSem np n mu fresh ir m))) ds) : ∀ m, HasFn G (L + 1 + m) (recFS x np n mu fresh ir m) ds
  | 0 => h0
  | m + 1 => hs m (hasFn_rec h0 hs m)

/-! ### further side conditions -/
theorem sw_cell (g : Good X G k N sc W) {y : Str} {py p : Pos} {elt : Expr} {gs : List Comprehension} {scope : Scope} {line : Nat} (h : sc.names.lookup y = some .cell) : swapsWith (.ListComp elt gs scope p) (some (.Name y py)) line X.env = pure false := by
  have ky : X.env.kindOf y = some .cell := by show X.env.scope.names.lookup y = _; rw [g.hsc]; exact h
  have e1 : (some NameKind.cell == some NameKind.local) = false := by decide
  unfold swapsWith
  simp only [ky, e1, Bool.and_false, Bool.false_and] <;> rfl
theorem sw_par3 (g : Good X G k N sc W) {x y z : Str} {px py pz pt pt2 : Pos} {kt k2 : Nat} {fa fb fc : Expr} (hk : sc.kind = .function) (hx : lcB sc x = true) (hy : lcB sc y = true) (hz : lcB sc z = true) (hn : (x == y) = false) (hn2 : (x == z) = false) (hn3 : (y == z) = false) (hl : (py.line == px.line) = true) (hl2 : (pz.line == px.line) = true)
    (hf : [fa, fb, fc].all (foldedForSure 8) = false) (hc : [fa, fb, fc].all (constantsAlone 8) = false) (h1 : notStar fa = true) (h2 : notStar fb = true) (h3 : notStar fc = true) :
    swappedStores [.Tuple [.Name x px, .Name y py, .Name z pz] kt pt] (.Tuple [fa, fb, fc] k2 pt2) X.env = pure (some [x, y, z]) := by
  have kx : X.env.kindOf x = some .local := by show X.env.scope.names.lookup x = _; rw [g.hsc]; exact lc_of hx
  have ky : X.env.kindOf y = some .local := by show X.env.scope.names.lookup y = _; rw [g.hsc]; exact lc_of hy
  have kz : X.env.kindOf z = some .local := by show X.env.scope.names.lookup z = _; rw [g.hsc]; exact lc_of hz
  have hb : X.env.blockKind = .function := by unfold Env.blockKind; rw [g.hsc, hk]; rfl
  have sw : ∀ {a b : Str}, (a == b) = false → (b == a) = false := fun {a b} h => by
    cases q : b == a with
    | false => rfl
    | true => rw [beq_iff_eq.mp q] at h; simp at h
  have ed : [x, y, z].eraseDups = [x, y, z] := by
    simp [List.eraseDups_cons, sw hn, sw hn2, sw hn3]
  have e1 : (some NameKind.local == some NameKind.local) = true := by decide
  have e2 : (ScopeKind.function != ScopeKind.function) = false := by decide
  unfold swappedStores
  simp only [List.head?_cons, Option.map_some, Option.getD_some, Expr.pos, List.filterMap_cons, List.filterMap_nil, kx, ky, kz, hl, hl2, beq_self_eq_true, e1, e2, Bool.and_self, if_true, hb, ed, hf, hc, List.length_cons, List.length_nil, Bool.true_or, Bool.or_true, Bool.not_true, bne_self_eq_false, Bool.or_self, Bool.or_false, Bool.false_eq_true, if_false, Bool.and_true]
  split
  · rename_i h
    exfalso
    simp only [List.any_cons, List.any_nil, Bool.or_false, Bool.or_eq_true] at h
    rcases h with h | h | h
    · split at h
      · cases h1
      · cases h
    · split at h
      · cases h2
      · cases h
    · split at h
      · cases h3
      · cases h
  · rfl
theorem sw_fold {ts vs : List Expr} {kt k2 : Nat} {pt pt2 : Pos} {env : Env} (h : vs.all (foldedForSure 8) = true) : swappedStores [.Tuple ts kt pt] (.Tuple vs k2 pt2) env = pure none := by
  unfold swappedStores
  simp only [h, if_true]
  split
  · rfl
  · split
    · rfl
    · split <;> rfl
theorem r_par3 {n i j l : Nat} (g : Good X G (some n) N sc W) {x y z : Str} {px py pz pt pt2 : Pos} {kt k2 : Nat} {fa fb fc : Expr} {ea eb ec : E} (u : Vr N sc i x) (v : Vr N sc j y) (w : Vr N sc l z) (hij : i ≠ j) (hil : i ≠ l) (hjl : j ≠ l) (hx : lcB sc x = true) (hy : lcB sc y = true) (hz : lcB sc z = true)
    (ha : PE X fa (rdE G B W ea)) (hb : PE X fb (rdE G B W eb)) (hc : PE X fc (rdE G B W ec)) (h1 : notStar fa = true) (h2 : notStar fb = true) (h3 : notStar fc = true)
    (hw : swappedStores [.Tuple [.Name x px, .Name y py, .Name z pz] kt pt] (.Tuple [fa, fb, fc] k2 pt2) X.env = pure (some [x, y, z])) :
    PS X (.Assign [.Tuple [.Name x px, .Name y py, .Name z pz] kt pt] (.Tuple [fa, fb, fc] k2 pt2) pos) (rdS G B W (evS (.asg (.tp [.nm i, .nm j, .nm l]) (.tup (.cons ea (.cons eb (.cons ec .nil))))))) :=
  s_par3 rfl g u.hi v.hi w.hi hij hil hjl (lc_of hx) (lc_of hy) (lc_of hz) (p_cons ha (p_cons hb (p_cons hc q_nil h3) h2) h1) hw
end
end FL

/-! FL32: exceptions as values, over the kit's rules: isinstance, attributes, making. -/
namespace FL
open PySem PySem.Spec PySem.Calls PyProof.Rows
section
open PySem.W
variable {pr : Program} {wo : World} {Ar : Around} {Ex : Value → Shared → Prop} {sh : Shared} {K : Frag} {x D : Addr} {ob : Obj} {od : Option Obj}
theorem find_data {C : Addr} {nm : Str} {at_ ge : Value} (h1 : (clsIn K C).isSome = true) (h2 : findIn K (.ref C) nm = some (some at_))
    (h3 : specialIn K at_ "__get__" = some (some ge)) (h4 : takesIn K at_ = some true) : findObj K C od nm = some (.bind ge at_) := by
  obtain ⟨c, h1⟩ := Option.isSome_iff_exists.mp h1
  simp [findObj, h1, h2, h3, h4]
theorem own_class {Q : Option Value → Shared → Prop}
    (g1 : findIn K (.ref D) "__getattribute__" = some (some (.builtin "BaseException.__getattribute__")))
    (g2 : findIn K (.ref D) "__getattr__" = some none)
    (g3 : subIn K (.ref D) (.type "BaseException") = some true)
    (g4 : hasDictIn K D = true)
    (g5 : findIn K (.ref D) "__class__" = some (some (.builtin "object.__class__")))
    (g6 : specialIn K (.builtin "object.__class__") "__get__" = some (some (.builtin "getset_descriptor.__get__")))
    (g7 : takesIn K (.builtin "object.__class__") = some true)
    (g8 : mroIn K D (.type "object") = some true)
    (KI : K.In sh.heap) (J : InstAt sh.heap x ob D od)
    (q : Q (some (.ref D)) { sh with toks := sh.toks + 1 }) :
    wpAny (model pr wo) Ar (getAttr? (.ref x) "__class__") Q Ex sh := by
  have fo : findObj K D od "__class__" = some (.bind (.builtin "getset_descriptor.__get__") (.builtin "object.__class__")) :=
    find_data (by obtain ⟨c, e, _⟩ := any_some g4; rw [e]; rfl) g5 g6 g7
  obtain ⟨hp, gs, dr, tk, os⟩ := sh
  have T0 := J.type (M := model pr wo)
  have T1 := looks_findIn (M := model pr wo) KI g1
  have T2 := looks_findIn (M := model pr wo) KI g2
  have T3 := looks_find (M := model pr wo) KI J fo
  have T4 : Looks (model pr wo) hp (isInstance (.ref x) (.type "BaseException")) true := T0.andThen (looks_subIn KI g3)
  have n0 : (false && onTheHeap (Value.builtin "BaseException.__getattribute__")) = false := rfl
  have n2 : (Value.builtin "BaseException.__getattribute__" == Value.builtin "object.__getattribute__") = false := by
    decide +kernel
  have n1 : (onTheHeap (Value.ref D) && Value.builtin "BaseException.__getattribute__" == Value.builtin "object.__getattribute__") = false := by
    rw [n2]; rfl
  unfold getAttr? getAttrBy? getAttrBy
  refine wpAny_bind (wpAny_mkText (wpAny_bind (wpAny_attempt (wpAny_holding (wpAny_bind (T0.at (wpAny_bind (T1.at ?_))))))))
  show wpAny _ _ (if (onTheHeap (Value.ref D) && Value.builtin "BaseException.__getattribute__" == Value.builtin "object.__getattribute__") = true then _ else _) _ _ _
  rw [n1, if_neg Bool.false_ne_true]
  unfold getAttrByItsOwn hookBefore
  refine wpAny_bind ?_
  rw [if_pos (show onTheHeap (Value.ref D) = true from rfl)]
  refine T2.at ?_
  refine wpAny_bind (wpAny_attempt (wpAny_holding ?_))
  unfold callGetattribute
  rw [n0, if_neg Bool.false_ne_true]
  unfold boundAndCalled
  rw [PySem.F.excAttr_ValueError.ga.bind (.ref x)]
  refine wpAny_bind (wpAny_pure ?_)
  show wpAny _ _ (call (.builtin "BaseException.__getattribute__") [.ref x, .str "__class__" tk]) _ _ _
  refine wpAny_call (codeAny_call_builtin PySem.F.excAttr_ValueError.ga.plain PySem.F.entry_bexc_ga ?_)
  refine @check_slot (model pr wo) _ _ ⟨hp, gs, dr, tk + 1, os⟩ "BaseException.__getattribute__" "BaseException" "__getattribute__" (.ref x)
    [.str "__class__" tk] [] _ (by decide +kernel) (by decide +kernel) T4 (PySem.F.args_bexc_ga (.ref x) (.str "__class__" tk)) ?_
  unfold Builtin.«object.__getattribute__»
  refine wpAny_bind (wpAny_of_eq (a := ((Value.ref x : Value), [Value.str "__class__" tk])) (by first | rfl | (simp only [slotArgs]; rfl)) ?_)
  refine wpAny_bind (wpAny_pure (wpAny_bind (T0.at (wpAny_bind (T3.at ?_)))))
  show wpAny _ _ (holding [Value.builtin "object.__class__"] (call (.builtin "getset_descriptor.__get__") [.builtin "object.__class__", .ref x, .ref D]) >>= ret) _ _ _
  refine wpAny_bind (wpAny_holding (wpAny_call (class_get (s := ⟨hp, gs, dr, tk + 1, os⟩) (ox := ob) (od := od) KI J g8 ?_)))
  refine wpAny_pure ?_
  show wpAny _ _ (handedOut (.ref D)) _ _ _
  rw [handedOut_of (v := .ref D) rfl]
  first
    | exact wpAny_pure (wpAny_pure q)
    | exact wpAny_pure q
    | exact wpAny_pure (wpAny_bind (wpAny_pure (wpAny_pure q)))
theorem kitx_exo (C : L2.ExcC K D) : KitX K (.ref x) (.ref D) (fun h => InstAt h x ob D od) where
  ty := fun _ _ _ I => I.type
  it := fun M h KI _ => by
    obtain ⟨cd, e, _⟩ := any_some C.hd
    unfold clsIn at e
    split at e
    · rename_i o1 o2 o3 o4 lk
      intro A1 Q1 E1 s1 keep q
      unfold isType loadHead
      exact wpAny_bind (wpAny_loadPart (keep _ _ (KI _ _ lk)) (wpAny_pure q))
    · cases e
  ne := (handS_kitx_exc (x := x) (ox := ob) C.hg C.hk C.hs C.hd C.ha C.hn C.ht C.hm).ne
  ca := fun KI I k => own_class C.hg C.hk C.hs C.hd C.ha C.hn C.ht C.hm KI I k
end
end FL
namespace FL
open PySem PySem.Spec L2
section
variable {X : Cx}
theorem inst_exo {pins : List (Addr × Obj)} {σ : L2.St} {H : Hp} {s : Shared} (I : Inv X pins σ H s) {a C : Addr} {d : Option Addr} {kvs : List (Str × V)} (h : ExoAt H a C d kvs) :
    ∃ ob od, PySem.W.InstAt s.heap a ob C od ∧ (∀ dx, d = some dx → ∃ (o : Obj) (mA : Str → Option Value), od = some o ∧ (∀ n, PySem.W.lookIn n o = some (mA n)) ∧ ∀ f, RelO (kvs.lookup f) (mA f)) := by
  obtain ⟨h1, h2⟩ := h
  obtain ⟨t1, ho⟩ := exo_at I.hok h1
  rcases h2 with ⟨rfl, rfl⟩ | ⟨dx, rfl, h2⟩
  · exact ⟨_, none, ⟨ho, rfl, rfl, trivial⟩, fun dx e => by cases e⟩
  · obtain ⟨mA, n1, n2⟩ := exd_at I.hok h2
    obtain ⟨od, hod, hl⟩ := lookIn_ns n1
    refine ⟨_, some od, ⟨ho, rfl, rfl, hod⟩, fun dx' e => ⟨od, mA, rfl, hl, n2⟩⟩
/-- isinstance(e, c), e an exception -/
def rIsO (K : PySem.W.Frag) : List V → Hp → VK → Prop := fun xs H Q => ∃ (a C : Addr) (d : Option Addr) (kvs : List (Str × V)) (c : V) (u : Value) (b : Bool), xs = [.ref a, c] ∧ ExoAt H a C d kvs ∧ ExcC K C ∧ ClsV c u ∧ PySem.W.kitOne K (.ref C) u = some b ∧ Q (.bl b) H
theorem call_isO : CallR X (.builtin "isinstance") (rIsO X.K) := by
  intro pins s σ H xs us Q I r h
  obtain ⟨a, C, d, kvs, c, u, b, rfl, ho, hc, k, e, q⟩ := h
  obtain ⟨u1, u2, rfl, r1, r2⟩ := vals2 r
  have e2 := k.eq r2
  subst e2
  obtain rfl : u1 = Value.ref a := r1
  obtain ⟨ob, od, J, _⟩ := inst_exo I ho
  exact PySem.W.kia_one (kitx_exo (x := a) (ob := ob) (od := od) hc) I.kIn J e (fun z => nomatch z) fun tk => ⟨.bl b, H, I.tok tk, rfl, q⟩
/-- e.f, e an exception -/
def tOfl (K : PySem.W.Frag) (f : Str) (te : TE) : TE := fun σ H Q => te σ H fun x H1 => ∃ (a C dx : Addr) (kvs : List (Str × V)) (v : V), x = .ref a ∧ ExoAt H1 a C (some dx) kvs ∧ XfC K C ∧ PySem.W.findIn K (.ref C) f = some none ∧ kvs.lookup f = some v ∧ Q v H1
theorem pe_ofl {e : Expr} {te : TE} {pos : Pos} {f : Str} (he : PE X e te) (hb : attributeBase e f X.env (eval e X.env) = eval e X.env := by rfl) : PE X (.Attribute e f pos) (tOfl X.K f te) := by
  refine ⟨fun pins s σ H Q I h => ?_⟩
  refine attr_of hb (thn (he.run pins s σ H _ I h) fun u s1 hh => ?_)
  obtain ⟨x, H1, I1, rx, a, C, dx, kvs, v, ex, ho, T, hno, l, q⟩ := hh
  subst ex
  obtain rfl : u = Value.ref a := rx
  obtain ⟨ob, od, J, k⟩ := inst_exo I1 ho
  obtain ⟨o, mA, rfl, hl, hr⟩ := k dx rfl
  obtain ⟨w, hw, rw_⟩ := RelO.some_of (v := v) (o := mA f) (by rw [← l]; exact hr f)
  exact HandSPX.exc_get I1.kIn J T.ga T.gg T.exC (PySem.W.findObj_own T.hdC hno rfl (by rw [hl, hw])) (handed_of rw_) ⟨v, H1, I1.tok _, rw_, q⟩
/-! ### an exception is made, and kept as a value -/
section
variable {es : List Expr} {ta : TA} {x : Str} {C fI cc : Addr} {fd : FuncData} {ps : List Str} {xs : List XA} {fs : List XF} {p pos : Pos} {k : Nat} {E : Value → Shared → Prop}
/-- what becomes of C(..): an object a, its dict if it has fields -/
def tNewX (C : Addr) (np : Nat) (sel : List (Str × Nat)) (ta : TA) : TE := fun σ H Q => ta σ H fun vs H1 => vs.length = np ∧ ∃ us, selV sel vs = some us ∧
  (sel = [] → ∀ a, H1 a = none → Q (.ref a) (upd H1 a (exo a C none))) ∧
  (sel ≠ [] → ∀ a d, H1 a = none → H1 d = none → d ≠ a → Q (.ref a) (upd (upd H1 d (exd d ((sel.map (·.1)).zip us))) a (exo a C (some d))))
theorem new_call {pins : List (Addr × Obj)} {σ : L2.St} {H1 : Hp} {Q : VK} {us : List Value} {vs : List V} {s1 : Shared} (S : SupC X.prog X.K C fI cc fd ps xs fs) (mgs : X.mg "super" = none) (hr : Room (k + 2) X.A) (fpos : ∀ a ∈ fs, 0 < a.i)
    (I1 : Inv X pins σ H1 s1) (r1 : Vals vs us) (hl : vs.length + 1 = ps.length) (hlz : vs.length ≤ 1000)
    (q : ∃ us, selV (selOf fs) vs = some us ∧ (selOf fs = [] → ∀ a, H1 a = none → Q (.ref a) (upd H1 a (exo a C none))) ∧
      (selOf fs ≠ [] → ∀ a d, H1 a = none → H1 d = none → d ≠ a → Q (.ref a) (upd (upd H1 d (exd d (((selOf fs).map (·.1)).zip us))) a (exo a C (some d))))) :
    wpAny (model X.prog X.w) X.A (call (.ref C) us) (EP X pins σ Q) E s1 := by
  obtain ⟨nm, qn, N, bs, bm, sn, sub, ab, col, dd, k0, k1, k2, k3, k5, hC, hbm⟩ := S.ox.cls
  obtain ⟨ws, hsel, q0, q1⟩ := q
  obtain ⟨hp, gs, dr, tk, os⟩ := s1
  have sz : hp.objs.size ≤ hp.objs.size + 1 := Nat.le_succ _
  have nf : H1 (hp.objs.size + 1) = none := I1.hok.fresh sz
  have kp : ∀ b o, hp.get? b = some o → ((hp.push (PySem.W.kdv_tup us)).push (PySem.HandSPX.excO C hp.objs.size)).get? b = some o :=
    fun b o e => Heap.get?_push_of_some _ (Heap.get?_push_of_some _ e)
  have at_ : ((hp.push (PySem.W.kdv_tup us)).push (PySem.HandSPX.excO C hp.objs.size)).get? (hp.objs.size + 1) = some (PySem.HandSPX.excO C hp.objs.size) := by
    heap_get
  have I2 : Inv X pins σ (upd H1 (hp.objs.size + 1) (exo (hp.objs.size + 1) C none))
      ⟨(hp.push (PySem.W.kdv_tup us)).push (PySem.HandSPX.excO C hp.objs.size), gs, dr, tk, os⟩ :=
    I1.laid (t' := tk) (a := hp.objs.size + 1) (o := exo (hp.objs.size + 1) C none)
      (h' := (hp.push (PySem.W.kdv_tup us)).push (PySem.HandSPX.excO C hp.objs.size)) kp sz (exo_ok at_)
  have lz : us.length ≤ sizeLine := by
    rw [← Paired.length r1, sizeLine_eq]
    omega
  refine wpAny_call (PySem.HandSPX.call_own F.excBase_ValueError (fun Y => PySem.HandSPX.refsVE_contains Y bm hbm) (I1.kIn _ _ hC)
    (PySem.W.looks_findIn I1.kIn S.iC) (fun self => PySem.W.bind_fn I1.kIn self S.tI) lz
    (codeAny_mono (sup_init (k := k) S mgs (hr.make C us []) (I2.env0.make C us []) (a := hp.objs.size + 1)
      (by rw [List.length_cons]; exact hl) r1 upd_same) (fun r s' hq' => ?_)))
  cases r with
  | error er => exact hq'.elim
  | ok fl =>
    cases fl with
    | ret u =>
      obtain ⟨rv, H2, os2, bare2, un2, hok2, hh⟩ := hq'
      obtain ⟨h2, g2, d2, t2, os'⟩ := s'
      refine ⟨rv, ?_⟩
      have J : Inv X pins σ H2 ⟨h2, g2, d2, t2, os'⟩ := I2.call' (ch := []) os2 un2 hok2 bare2 (fun b z => absurd z (by simp))
      refine ⟨.ref (hp.objs.size + 1), H2, J, rfl, ?_⟩
      rcases hh with ⟨e, rfl⟩ | ⟨ne, dx, hd, hda, rfl⟩
      · exact q0 (by rw [e]; rfl) _ nf
      · have hd1 : H1 dx = none := by rw [upd_ne hda] at hd; exact hd
        have ne' : selOf fs ≠ [] := fun z => by
          unfold selOf at z
          simp at z
          exact ne z
        have z := q1 ne' _ dx nf hd1 hda
        have e1 : fldsR (V.ref (hp.objs.size + 1) :: vs) fs [] = ((selOf fs).map (·.1)).zip ws := by
          rw [fldsR_eq, List.append_nil, selV_of (v0 := V.ref (hp.objs.size + 1)) hsel fpos]
          unfold selOf
          rw [List.map_map, List.zip_map']
          rfl
        rw [e1]
        have e2 : upd (upd (upd H1 (hp.objs.size + 1) (exo (hp.objs.size + 1) C none)) dx (exd dx (((selOf fs).map (·.1)).zip ws))) (hp.objs.size + 1) (exo (hp.objs.size + 1) C (some dx))
            = upd (upd H1 dx (exd dx (((selOf fs).map (·.1)).zip ws))) (hp.objs.size + 1) (exo (hp.objs.size + 1) C (some dx)) := by
          funext b
          by_cases z1 : b = hp.objs.size + 1
          · subst z1; rw [upd_same, upd_same]
          · rw [upd_ne z1, upd_ne z1]
            by_cases z2 : b = dx
            · subst z2; rw [upd_same, upd_same]
            · rw [upd_ne z2, upd_ne z2, upd_ne z1]
        rw [e2]
        exact z
    | next => exact False.elim hq'
    | brk => exact False.elim hq'
    | cont => exact False.elim hq'
theorem pe_newX {e : Expr} (S : SupC X.prog X.K C fI cc fd ps xs fs) (mgs : X.mg "super" = none) (kC : PySem.W.keepIn X.K (.ref C) = true) (hr : Room (k + 2) X.A) (fpos : ∀ a ∈ fs, 0 < a.i) (hg : Gl X x) (hm : X.mg x = some (.ref C)) (hps : ps.length ≤ 1000)
    (ha : PA X (e :: es) ta) (hdb : (x == ("__debug__" : Str)) = false) (he : starEach (e :: es) X.env = (false, eval e X.env) :: starEach es X.env) (hpl : (backTo pos (starEach es X.env)).any (·.1) = false) :
    PE X (.Call (.Name x p) (e :: es) [] pos) (tNewX C (ps.length - 1) (selOf fs) ta) := by
  refine ⟨fun pins s σ H Q I h => ?_⟩
  refine wpAny_Call_Name_kw (ld_glob I hg hm ?_ hdb)
  refine PySem.W.callWith_K (h₀ := X.base) I.ok.mod.kin kC (thn (ha.run pos pins s σ H _ I h) fun us s1 ⟨vs, H1, I1, r1, hz, q1⟩ => ⟨I1.kIn, ?_⟩) he hpl
  show wpAny _ _ (call (.ref C) us) _ _ _
  have hp0 : 0 < ps.length := by
    obtain ⟨_, _, _, _, _, _, _, _, _, _, _, _, _, _, _, _, _, _, _, _, _, _, _, _, _, _, _, _, _, _, _, _, _, _, _, _, _, _, har0, _⟩ := S.fn
    exact (List.getElem?_eq_some_iff.mp har0).1
  exact new_call S mgs hr fpos I1 r1 (by omega) (by omega) q1
theorem pe_newX0 (S : SupC X.prog X.K C fI cc fd ps xs fs) (mgs : X.mg "super" = none) (kC : PySem.W.keepIn X.K (.ref C) = true) (hr : Room (k + 2) X.A) (fpos : ∀ a ∈ fs, 0 < a.i) (hg : Gl X x) (hm : X.mg x = some (.ref C)) (hps : ps.length = 1)
    (hdb : (x == ("__debug__" : Str)) = false) :
    PE X (.Call (.Name x p) [] [] pos) (tNewX C (ps.length - 1) (selOf fs) tNil) := by
  refine ⟨fun pins s σ H Q I h => ?_⟩
  refine wpAny_Call_Name_kw (ld_glob I hg hm ?_ hdb)
  refine PySem.W.callWith_K0 (I.kIn) kC ?_
  show wpAny _ _ (call (.ref C) ([] ++ [])) _ _ _
  exact new_call S mgs hr fpos I .nil (by simp [hps]) (by simp) h.2
end
end
end FL

/-! FL33: try with two clauses: the first is not for it, the second is. -/
namespace FL
open PySem PySem.Spec L2 PyProof.Rows
section
/-- what is asked of what is raised -/
def wSnd (K : PySem.W.Frag) (c1 c2 : Value) (i : Nat) (ts : Addr → Value → Option Addr → TS) (D : Ends) : WX := fun cls d σ H =>
  PySem.W.exmOne K cls c1 = some false ∧ PySem.W.exmOne K cls c2 = some true ∧
  ∀ a, H a = none → ts a cls d { nx := fun σ' H' => D.nx (σ'.set i none) H', rt := D.rt, bk := fun σ' H' => D.bk (σ'.set i none) H', ct := fun σ' H' => D.ct (σ'.set i none) H' } (σ.set i (some (.ref a))) H
variable {X : Cx} {x y n : Str} {c1 c2 : Value} {i : Nat} {body s1 suite : List Stmt} {b₀ : Stmt} {n1 : Option Str} {np1 np p1 pos pos' : Pos} {tb : WX → TS} {ts : Addr → Value → Option Addr → TS}
theorem ps_try_second (hs : X.stack = X.env :: X.outer) (hf : X.env.frame = some X.env.locals) (hN : X.N.Nodup) (hi : X.N[i]? = some n) (hln : X.env.kindOf n = some .local) (hc1 : Names X y c1) (hc2 : Names X x c2)
    (hb : ∀ (W : WX) (pn : List (Addr × Obj)) (xe : Value → Shared → Prop), Takes (X.tr pn xe) W → PassesOwn (model X.prog X.w) X.A X.env xe → PSs (X.tr pn xe) body (tb W))
    (hsu : ∀ (a : Addr) (oe : Obj) (cls : Value) (d : Option Addr) (pn : List (Addr × Obj)), Zc cls d oe → (∃ vs, oe.data = .fields vs) → PSs (X.suite a ((a, oe) :: pn)) (b₀ :: suite) (ts a cls d)) :
    PS X (.Try body [.ExceptHandler (some (.Name y np1)) n1 s1 p1, .ExceptHandler (some (.Name x np)) (some n) (b₀ :: suite) pos'] [] [] pos) (fun D σ H => tb (wSnd X.K c1 c2 i ts D) D σ H) := by
  refine ⟨fun pins s σ H D I h => ?_⟩
  have good := I.ok
  have frA : X.A.frames = some (X.env :: X.outer) := by rw [good.frames, hs]
  have lcn : Loc X.env.scope n := .inl hln
  refine wpAny_Try_except ?_
  refine wpAny_mono ((hb (wSnd X.K c1 c2 i ts D) (X.pn ++ pins)
    (fun e r₁ => wpAny (model X.prog X.w) X.A (noteFrame e X.env) (fun _ r₂ =>
      wpAny (model X.prog X.w) X.A (setFlight e none) (fun _ r₃ =>
        wpAny (model X.prog X.w) X.A (handleBy e X.env [.ExceptHandler (some (.Name y np1)) n1 s1 p1, .ExceptHandler (some (.Name x np)) (some n) (b₀ :: suite) pos'])
          (SP X pins D) X.xe r₃) X.xe r₂) X.xe r₁)
    (fun u t xx => ?_) PassesOwn.looking).run [] s σ H D (I.toTry _) h) (fun f t hsp => ?_) (fun e t he => he)
  · obtain ⟨a, B, sI, pins', σ', H', cls, d, rfl, Jt, nb, up, sky, na, os, ag, w1, w2, wy⟩ := xx
    have J : Inv X pins σ' H' sI := Jt.ofTry good
    have sky1 : Sky B (X.env :: X.outer) a (Zc cls d) X.env.locals t.heap := by rw [← hs]; exact sky
    show wpAny (model X.prog X.w) X.A (noteFrame (.ref a) X.env) _ _ _
    refine Sky.land Zc.steady frA hf sky1 fun hp3 f3 u3 => ?_
    have Ja : Inv X pins σ' H' { t with heap := hp3 } := J.landed nb f3.1 (up.trans u3) os ag
    obtain ⟨ob, vb, eb, zb, db⟩ := f3.there
    have far : a ∉ frs (X.env :: X.outer) := fun hm => by
      obtain ⟨_, o', e', hnf⟩ := f3.2.2.1.mem hm
      rw [eb] at e'; cases e'
      exact hnf _ db
    have a1 : a ≠ X.env.locals := fun z => far (List.mem_filterMap.mpr ⟨X.env, List.mem_cons_self, by rw [hf, z]⟩)
    have a2 : a ∉ X.fs := fun hm => by
      obtain ⟨e, he, q⟩ := List.mem_filterMap.mp hm
      exact far (List.mem_filterMap.mpr ⟨e, List.mem_cons_of_mem _ he, q⟩)
    have Su := Ja.suite eb db na a1 a2
    have lk : PySem.W.Looks (model X.prog X.w) hp3 (typeOf (.ref a)) cls :=
      fun A Q E s k q => wpAny_typeOf_ref (k _ _ eb) (by rw [zb.1]; exact q)
    have seen : ∀ {z : Str} {pz : Pos} {c : Value}, Names X z c → ∀ {Q : Value → Shared → Prop} {E : Value → Shared → Prop}, Q c { t with heap := hp3 } →
        wpAny (model X.prog X.w) (X.A.mark (some (.ref a))) (eval (.Name z pz) X.env) Q E { t with heap := hp3 } := fun {z pz c} hc {Q E} q => by
      obtain ⟨hg, hdb, hm | ⟨hm, hv, hnn⟩⟩ := hc
      · exact ld_glob (X := X.suite a ((a, ob) :: (X.pn ++ pins))) Su hg hm q hdb
      · exact ld_blt (X := X.suite a ((a, ob) :: (X.pn ++ pins))) Su hg hm hv q hnn hdb
    refine wpAny_handleBy_cons (codeAny_handlers_test ?_) (by intro q; cases q)
    refine seen hc1 ((PySem.W.exm_one (M := model X.prog X.w) (Ja.kIn) lk w1).here ?_)
    show wpAny _ X.A (handleBy (.ref a) X.env [.ExceptHandler (some (.Name x np)) (some n) (b₀ :: suite) pos']) _ _ _
    refine wpAny_handleBy_cons (codeAny_handlers_test ?_) (by intro q; cases q)
    refine seen hc2 ((PySem.W.exm_one (M := model X.prog X.w) (Ja.kIn) lk w2).here ?_)
    refine codeAny_handlers_suite_as ?_
    refine HandSPX.lands_againZ f3 fun hp4 f4 u4 => ?_
    have Jb : Inv X pins σ' H' { t with heap := hp4 } := J.landed nb f4.1 ((up.trans u3).trans u4) os ag
    obtain ⟨oc, vc, ec, zc, dc⟩ := f4.there
    refine store_ok (X := X.suite a ((a, oc) :: (X.pn ++ pins))) (v := .ref a) (Jb.suite ec dc na a1 a2) hN hi lcn rfl (fun s5 S5 => ?_) (.inr hln)
    refine wpAny_mono ((hsu a oc cls d (X.pn ++ pins) zc ⟨_, dc⟩).run [] s5 _ H' _ S5 (wy a na)) (fun f s6 hsp => ?_) (fun _ _ z => False.elim z)
    have out_ : ∀ {σ6 : L2.St} {H6 : Hp} {Q : Shared → Prop}, Inv (X.suite a ((a, oc) :: (X.pn ++ pins))) [] σ6 H6 s6 → (∀ s7, Inv X pins (σ6.set i none) H6 s7 → Q s7) →
        wpAny (model X.prog X.w) X.A (do bindName X.env n .none; unbindBehindTheSuite X.env n pos') (fun _ s7 => Q s7) X.xe s6 :=
      fun {σ6 H6 Q} S6 hq => gone_ok (S6.unsuite good) hN hi hln hq
    cases f with
    | next => obtain ⟨σ6, H6, S6, q6⟩ := hsp; exact out_ S6 fun s7 J7 => ⟨_, _, J7, q6⟩
    | brk => obtain ⟨σ6, H6, S6, q6⟩ := hsp; exact out_ S6 fun s7 J7 => ⟨_, _, J7, q6⟩
    | cont => obtain ⟨σ6, H6, S6, q6⟩ := hsp; exact out_ S6 fun s7 J7 => ⟨_, _, J7, q6⟩
    | ret u => obtain ⟨v6, σ6, H6, S6, r6, q6⟩ := hsp; exact out_ S6 fun s7 J7 => ⟨_, _, _, J7, r6, q6⟩
  · cases f with
    | next => obtain ⟨σ', H', J', q⟩ := hsp; exact wpAny_execs_nil ⟨σ', H', J'.ofTry good, q⟩
    | brk => obtain ⟨σ', H', J', q⟩ := hsp; exact ⟨σ', H', J'.ofTry good, q⟩
    | cont => obtain ⟨σ', H', J', q⟩ := hsp; exact ⟨σ', H', J'.ofTry good, q⟩
    | ret u => obtain ⟨v, σ', H', J', r, q⟩ := hsp; exact ⟨v, σ', H', J'.ofTry good, r, q⟩
end
end FL

/-! FL34: exceptions as values: the terms' readings. -/
namespace FL
open PySem PySem.Spec L2
section
variable {X : Cx} {G : Gx} {B : Fr0} {W : WX} {k : Option Nat} {N : List Str} {sc : Scope} {pos : Pos} {F F' H : Hp} {σ : L2.St} {s : Sls}
variable {a b c e : Expr} {ea eb ec : E} {es : List Expr} {D D' : Ends} {i : Nat} {x : Str} {px : Pos}
/-! ### made -/
theorem rd_newX {c : Str} {np : Nat} {sel : List (Str × Nat)} {fs : Es} {C : Addr} {Q : VK} (hm : G.mg c = some (.ref C)) (h : rdE G B W (.newX c np sel fs) σ H Q) : tNewX C np sel (rd G B W (relEs G) (evEs fs)) σ H Q := by
  obtain ⟨F, s, sr, p⟩ := h
  simp only [evE] at p
  refine ⟨F, s, sr, (Pst.bind p).mono ?_⟩
  rintro vs H1 ⟨ts, F1, s1, e1, sr1, r, p1⟩
  simp only [relEs] at r
  split at p1
  · rename_i hl
    cases hs : selV sel ts with
    | none => rw [hs] at p1; exact p1.elim
    | some us =>
      rw [hs] at p1
      obtain ⟨ws, h1, h2⟩ := selV_reps r hs
      refine ⟨by rw [r.length]; exact hl, ws, h1, fun z a0 hn => ?_, fun z a0 d0 hn hd hda => ?_⟩
      · have g := Grow.laid (o := exo a0 C none) sr1.sub hn
        have eu : us = [] := by subst z; simp [selV] at hs; exact hs
        subst eu
        refine p1 (.ref a0) _ _ g.ff (sr1.grow g) ?_
        simp only [relE, Rep]
        refine ⟨a0, C, none, [], rfl, hm, ⟨upd_same, .inl ⟨rfl, by simp⟩⟩, ?_, by simp only [Reps]⟩
        rw [z]; rfl
      · have g1 := Grow.laid (o := exd d0 ((sel.map (·.1)).zip ws)) sr1.sub hd
        have hn' : upd H1 d0 (exd d0 ((sel.map (·.1)).zip ws)) a0 = none := by rw [upd_ne (Ne.symm hda)]; exact hn
        have g2 := Grow.laid (o := exo a0 C (some d0)) g1.sub hn'
        have g := g1.trans g2
        refine p1 (.ref a0) _ _ g.ff (sr1.grow g) ?_
        simp only [relE, Rep]
        refine ⟨a0, C, some d0, ws, rfl, hm, ⟨upd_same, .inr ⟨d0, rfl, ?_⟩⟩, ?_, Reps.mono g.ff _ _ h2⟩
        · rw [upd_ne hda]; exact upd_same
        · rw [h2.length, selV_len hs, List.length_map]
  · exact p1.elim
theorem p_newX {n : Nat} (g : Good X G (some (n + 2)) N sc W) {c : Str} {np : Nat} {sel : List (Str × Nat)} {fs : Es} {p : Pos} (ok : ExcOk G c np sel) (v : Gb sc c) (ha : PA X (e :: es) (rd G B W (relEs G) (evEs fs))) (h1 : notStar e = true) (h2 : es.all notStar = true) :
    PE X (.Call (.Name c p) (e :: es) [] pos) (rdE G B W (.newX c np sel fs)) := by
  obtain ⟨C, fI, cc, fd, ps, xs, fz, S, k1, k2, k3, k4, rfl, k6, k7⟩ := ok.ex
  have hg : Gl X c := show X.env.scope.names.lookup c = some .globalImplicit by rw [g.hsc]; exact v.hl
  refine PE.imp (pe_newX (k := n) (C := C) (by rw [g.hP, g.hK]; exact S) (by rw [g.hmg]; exact k7) (by rw [g.hK]; exact k2) (g.room _ rfl) k6 hg (by rw [g.hmg]; exact k1) k4 ha v.hd (star_of h1) (plain_of h2)) fun σ H Q hq => ?_
  rw [show ps.length - 1 = np by omega]
  exact rd_newX k1 hq
theorem p_newX0 {n : Nat} (g : Good X G (some (n + 2)) N sc W) {c : Str} {sel : List (Str × Nat)} {p : Pos} (ok : ExcOk G c 0 sel) (v : Gb sc c) : PE X (.Call (.Name c p) [] [] pos) (rdE G B W (.newX c 0 sel .nil)) := by
  obtain ⟨C, fI, cc, fd, ps, xs, fz, S, k1, k2, k3, k4, rfl, k6, k7⟩ := ok.ex
  have hg : Gl X c := show X.env.scope.names.lookup c = some .globalImplicit by rw [g.hsc]; exact v.hl
  refine PE.imp (pe_newX0 (k := n) (C := C) (by rw [g.hP, g.hK]; exact S) (by rw [g.hmg]; exact k7) (by rw [g.hK]; exact k2) (g.room _ rfl) k6 hg (by rw [g.hmg]; exact k1) k3 v.hd) fun σ H Q hq => ?_
  obtain ⟨F, s, sr, p⟩ := rd_newX k1 hq
  rw [show ps.length - 1 = 0 by omega]
  simp only [evEs] at p
  exact p [] F H (.refl _) sr (by simp only [relEs, Reps])
/-- a class that keeps ValueError's __init__ -/
structure NewOk (G : Gx) (c : Str) : Prop where
  ex : ∃ C bmB, G.mg c = some (.ref C) ∧ PySem.W.keepIn G.K (.ref C) = true ∧ ExcBaseFacts "ValueError" "ValueError.__new__" "ValueError.__init__" bmB ∧ PySem.W.excIn G.K C bmB "ValueError.__new__" = true
/-! ### attributes -/
theorem p_fldX (g : Good X G k N sc W) {f : Str} {cs : List Str} (ok : XfOk G f cs) (ha : PE X a (rdE G B W ea)) (hb : attributeBase a f X.env (eval a X.env) = eval a X.env) : PE X (.Attribute a f pos) (rdE G B W (.fldX ea f cs)) := by
  refine PE.imp (pe_ofl ha hb) fun σ H Q hq => ?_
  obtain ⟨F, s, sr, p⟩ := hq
  simp only [evE] at p
  refine ⟨F, s, sr, (Pst.bind p).mono ?_⟩
  rintro v H1 ⟨t, F1, s1, e1, sr1, r, p1⟩
  simp only [relE] at r
  cases t with
  | exo c ns ts =>
    simp only at p1
    split at p1
    · rename_i hm
      simp only [Rep] at r
      obtain ⟨a0, C, d, vs, rfl, k1, k2, k3, k4⟩ := r
      obtain ⟨T, no⟩ := ok.ex c (by simpa using hm) C k1
      cases ht : fldT f ns ts with
      | none => rw [ht] at p1; exact p1.elim
      | some t =>
        rw [ht] at p1
        obtain ⟨v, l, r⟩ := fldT_zip k4 k3 ht
        have hd : ∃ dx, d = some dx := by
          rcases k2.2 with ⟨rfl, z⟩ | ⟨dx, rfl, _⟩
          · rw [z] at l; cases l
          · exact ⟨dx, rfl⟩
        obtain ⟨dx, rfl⟩ := hd
        exact ⟨a0, C, dx, _, v, rfl, k2.mono sr1.sub, by rw [g.hK]; exact T, by rw [g.hK]; exact no, l, p1 v F1 H1 (.refl _) sr1 r⟩
    · exact p1.elim
  | _ => exact p1.elim
/-! ### isinstance -/
structure IsoOk (G : Gx) (d : Str) (yes no : List Str) : Prop where
  ex : ∃ (v : V) (u : Value), ClsV v u ∧ ((∃ A, v = .ref A ∧ G.mg d = some (.ref A)) ∨ (∃ m, v = .ty m ∧ d = Str.ofString m ∧ G.mg d = none ∧ bootBuiltins (Str.ofString m) = some (.type m) ∧ d ≠ "__name__")) ∧
    (∀ c ∈ yes, ∀ C, G.mg c = some (.ref C) → ExcC G.K C ∧ PySem.W.kitOne G.K (.ref C) u = some true) ∧ (∀ c ∈ no, ∀ C, G.mg c = some (.ref C) → ExcC G.K C ∧ PySem.W.kitOne G.K (.ref C) u = some false)
/-! ### a class without its own __init__ -/
theorem pe_newB0 {C : Addr} {bmB : List Value} {BB newId initId : String} {p : Pos} (F : ExcBaseFacts BB newId initId bmB) (q : PySem.W.excIn X.K C bmB newId = true) (gC : X.mg x = some (.ref C)) (kC : PySem.W.keepIn X.K (.ref C) = true) (hg : Gl X x)
    (hdb : (x == ("__debug__" : Str)) = false) :
    PE X (.Call (.Name x p) [] [] pos) (fun σ H Q => ∀ a, H a = none → Q (.ref a) (upd H a (exo a C none))) := by
  refine ⟨fun pins s σ H Q I h => ?_⟩
  refine wpAny_Call_Name_kw (ld_glob I hg gC ?_ hdb)
  refine PySem.W.callWith_K0 (I.kIn) kC ?_
  show wpAny _ _ (call (.ref C) []) _ _ _
  obtain ⟨bm, N, nm, qn, bs, hdct, sn, sub, ab, col, dd, k0, k1, k2, k3, k5, mN, hC, hN, hni, T⟩ := exc_obj I.kIn q
  refine wpAny_call_exc_subT F T hC hN hni (fun h' a hm => ?_) (by show 0 ≤ sizeLine; omega)
  have hn : H a = none := I.hok.gone hm.new
  obtain ⟨t, ht, _, _⟩ := hm.there
  exact ⟨.ref a, upd H a (exo a C none), I.laidN hm.keeps hm.new hn (exo_ok ht), rfl, h a hn⟩
theorem p_newB0 (g : Good X G k N sc W) {p : Pos} (ok : NewOk G x) (v : Gb sc x) : PE X (.Call (.Name x p) [] [] pos) (rdE G B W (.newX x 0 [] .nil)) := by
  obtain ⟨C, bmB, h1, h2, h3, h4⟩ := ok.ex
  have hg : Gl X x := show X.env.scope.names.lookup x = some .globalImplicit by rw [g.hsc]; exact v.hl
  refine PE.imp (pe_newB0 (C := C) h3 (by rw [g.hK]; exact h4) (by rw [g.hmg]; exact h1) (by rw [g.hK]; exact h2) hg v.hd) fun σ H Q hq => ?_
  obtain ⟨F, s, sr, p⟩ := rd_newX h1 hq
  simp only [evEs] at p
  obtain ⟨_, us, _, h, _⟩ := p [] F H (.refl _) sr (by simp only [relEs, Reps])
  exact h trivial
/-! ### isinstance, of a value -/
theorem iso_pe (g : Good X G k N sc W) {d : Str} {p : Pos} {v : V} (vd : Gb sc d) (h : (∃ A, v = .ref A ∧ G.mg d = some (.ref A)) ∨ (∃ m, v = .ty m ∧ d = Str.ofString m ∧ G.mg d = none ∧ bootBuiltins (Str.ofString m) = some (.type m) ∧ d ≠ "__name__")) : PE X (.Name d p) (tC v) := by
  have hg : Gl X d := show X.env.scope.names.lookup d = some .globalImplicit by rw [g.hsc]; exact vd.hl
  rcases h with ⟨A, rfl, h⟩ | ⟨m, rfl, rfl, h1, h2, h3⟩
  · exact pe_glob hg (by rw [g.hmg]; exact h) rfl vd.hd
  · exact pe_bltn hg (by rw [g.hmg]; exact h1) h2 rfl h3 vd.hd
theorem p_isO (g : Good X G k N sc W) {d : Str} {yes no : List Str} {p pd : Pos} (ok : IsoOk G d yes no) (hk : G.mg "isinstance" = none) (v : Gb sc "isinstance") (vd : Gb sc d) (ha : PE X a (rdE G B W ea)) (h1 : notStar a = true) :
    PE X (.Call (.Name "isinstance" p) [a, .Name d pd] [] pos) (rdE G B W (.isO ea d yes no)) := by
  obtain ⟨w, u, hu, hw, hy, hn⟩ := ok.ex
  have hg : Gl X "isinstance" := show X.env.scope.names.lookup ("isinstance" : Str) = some .globalImplicit by rw [g.hsc]; exact v.hl
  refine PE.imp (pe_callB call_isO hg (by rw [g.hmg]; exact hk) (by decide +kernel) (pa_cons ha (pa_cons (iso_pe g vd hw) pa_nil (star_of rfl)) (star_of h1)) (he := star_of h1) (hpl := plain_of rfl)) fun σ H Q hq => ?_
  obtain ⟨F, s, sr, p⟩ := hq
  simp only [evE] at p
  refine ⟨F, s, sr, (Pst.bind p).mono ?_⟩
  rintro z H1 ⟨t, F1, s1, e1, sr1, r, p1⟩
  simp only [relE] at r
  cases t with
  | exo c ns ts =>
    simp only [ynB] at p1
    simp only [Rep] at r
    obtain ⟨a0, C, d0, vs, rfl, k1, k2, k3, k4⟩ := r
    split at p1
    · rename_i hm
      obtain ⟨x1, x2⟩ := hy c (by simpa using hm) C k1
      exact ⟨a0, C, d0, _, w, u, true, rfl, k2.mono sr1.sub, by rw [g.hK]; exact x1, hu, by rw [g.hK]; exact x2, p1 (.bl true) F1 H1 (.refl _) sr1 (by simp only [relE, Rep])⟩
    · split at p1
      · rename_i hm
        obtain ⟨x1, x2⟩ := hn c (by simpa using hm) C k1
        exact ⟨a0, C, d0, _, w, u, false, rfl, k2.mono sr1.sub, by rw [g.hK]; exact x1, hu, by rw [g.hK]; exact x2, p1 (.bl false) F1 H1 (.refl _) sr1 (by simp only [relE, Rep])⟩
      · exact p1.elim
  | _ => exact p1.elim
/-! ### isinstance, of the caught one -/
def rIsC (K : PySem.W.Frag) (D a : Addr) (d : Option Addr) : List V → Hp → VK → Prop := fun xs H Q => ∃ (c : V) (cv : Value) (b : Bool), xs = [.ref a, c] ∧ ClsV c cv ∧ (d = none ∨ ∃ dd fs, d = some dd ∧ H dd = some (.xd fs)) ∧ PySem.W.kitOne K (.ref D) cv = some b ∧ Q (.bl b) H
theorem call_isC {a D : Addr} {d : Option Addr} {oe : Obj} {pn : List (Addr × Obj)} (C : ExcC X.K D) (hz : Zc (.ref D) d oe) (hf : ∃ vs, oe.data = .fields vs) : CallR (X.suite a ((a, oe) :: pn)) (.builtin "isinstance") (rIsC X.K D a d) := by
  intro pins s σ H xs us Q I r h
  obtain ⟨c, cv, b, rfl, hcv, hd, e, q⟩ := h
  obtain ⟨u1, u2, rfl, r1, r2⟩ := vals2 r
  have e2 := hcv.eq r2
  subst e2
  obtain rfl : u1 = Value.ref a := r1
  obtain ⟨hget, _⟩ := I.pin (a, oe) (List.mem_append.mpr (.inl List.mem_cons_self))
  obtain ⟨vs, hv⟩ := hf
  have J : ∃ od, PySem.W.InstAt s.heap a oe D od := by
    rcases hd with rfl | ⟨dd, fs, rfl, hx⟩
    · exact ⟨none, hget, hz.1, by unfold PySem.W.notCls; rw [hv] <;> rfl, by rw [hz.2]; trivial⟩
    · have hx : ObjOk X.prog X.w H s.heap dd (.xd fs) := I.hok dd _ hx
      obtain ⟨mA, hns, hr⟩ := hx
      obtain ⟨od, ho, hl⟩ := lookIn_ns hns
      exact ⟨some od, hget, hz.1, by unfold PySem.W.notCls; rw [hv] <;> rfl, by rw [hz.2]; exact ho⟩
  obtain ⟨od, J⟩ := J
  exact PySem.W.kia_one (kitx_exo (x := a) (ob := oe) (od := od) C) I.kIn J e (fun z => nomatch z) fun tk => ⟨.bl b, H, I.tok tk, rfl, q⟩
theorem p_isC (g : Good X G k N sc W) (sx : SuiX X B) {d : Str} {yes no : List Str} {p pd : Pos} (ok : IsoOk G d yes no) (hne : Str.empty ∉ yes ++ no) (hk : G.mg "isinstance" = none) (v : Gb sc "isinstance") (vd : Gb sc d) (vx : Vf N sc i x) :
    PE X (.Call (.Name "isinstance" p) [.Name x px, .Name d pd] [] pos) (rdE G B W (.isC i d yes no)) := by
  obtain ⟨w, u, hu, hw, hy, hn⟩ := ok.ex
  have hg : Gl X "isinstance" := show X.env.scope.names.lookup ("isinstance" : Str) = some .globalImplicit by rw [g.hsc]; exact v.hl
  have pw := iso_pe (p := pd) g vd hw
  have pv : PE X (.Name x px) (fun σ H Q => ∃ y, σ[i]? = some (some y) ∧ Q y H) := pe_var (i := i) (by rw [g.hN]; exact vx.hi) (by rw [g.hsc]; exact vx.vis) vx.hd vx.hcd
  obtain ⟨Y, a, oe, cls, d0, pn, rfl, hxa, hz, hf⟩ := sx
  have key : ∀ {σ H Q}, rdE G B W (.isC i d yes no) σ H Q → ∃ c C b, c ∈ yes ++ no ∧ cls = .ref C ∧ G.mg c = some (.ref C) ∧ σ[i]? = some (some (.ref a)) ∧ (d0 = none ∨ ∃ dd fs, d0 = some dd ∧ H dd = some (.xd fs)) ∧ PySem.W.kitOne G.K (.ref C) u = some b ∧ Q (.bl b) H := fun {σ H Q} hq => by
    obtain ⟨F, s, sr, p⟩ := hq
    simp only [evE] at p
    split at p
    · rename_i c ns ts e
      obtain ⟨a', cls', d', k1, k2, kk⟩ := sr.xc i c ns ts e
      have fin : ∀ b, Pst G B W F σ (relE G) (.ok (.bl b) s) Q → c ∈ yes ++ no → (∀ C, G.mg c = some (.ref C) → PySem.W.kitOne G.K (.ref C) u = some b) → ∃ c C b, c ∈ yes ++ no ∧ cls = .ref C ∧ G.mg c = some (.ref C) ∧ σ[i]? = some (some (.ref a)) ∧ (d0 = none ∨ ∃ dd fs, d0 = some dd ∧ H dd = some (.xd fs)) ∧ PySem.W.kitOne G.K (.ref C) u = some b ∧ Q (.bl b) H := fun b p hm hC => by
        obtain ⟨C, k3, k4, k5⟩ := kk.resolve_left fun z => hne (by subst z; exact hm)
        rw [hxa] at k1
        cases k1
        refine ⟨c, C, b, hm, k3, k4, k2, ?_, hC C k4, p (.bl b) F H (.refl _) sr (by simp only [relE, Rep])⟩
        rcases k5 with ⟨_, _, z1⟩ | ⟨dx, vs, z1, h2, h3, h4⟩
        · exact .inl z1
        · exact .inr ⟨dx, _, z1, sr.sub _ _ h2⟩
      simp only [ynB] at p
      split at p
      · rename_i hm
        have hm' : c ∈ yes := by simpa using hm
        exact fin true p (List.mem_append_left _ hm') fun C hC => (hy c hm' C hC).2
      · split at p
        · rename_i hm
          have hm' : c ∈ no := by simpa using hm
          exact fin false p (List.mem_append_right _ hm') fun C hC => (hn c hm' C hC).2
        · exact p.elim
    · exact p.elim
  by_cases hcls : ∃ c C, c ∈ yes ++ no ∧ cls = .ref C ∧ G.mg c = some (.ref C)
  · obtain ⟨c, C, h1, rfl, h2⟩ := hcls
    have hE : ExcC G.K C := by
      rcases List.mem_append.mp h1 with h | h
      · exact (hy c h C h2).1
      · exact (hn c h C h2).1
    have hK : Y.K = G.K := g.hK
    refine PE.imp (pe_callB (call_isC (X := Y) (D := C) (d := d0) (by rw [hK]; exact hE) hz hf) hg (by rw [g.hmg]; exact hk) (by decide +kernel) (pa_cons pv (pa_cons pw pa_nil (star_of rfl)) (star_of rfl)) (he := star_of rfl) (hpl := plain_of rfl)) fun σ H Q hq => ?_
    obtain ⟨c', C', b, _, e', _, k1, k2, k3, q⟩ := key hq
    cases e'
    exact ⟨.ref a, k1, w, u, b, rfl, hu, k2, by rw [hK]; exact k3, q⟩
  · refine ⟨fun pins s σ H Q I h => ?_⟩
    obtain ⟨c, C, b, h1, h2, h3, _⟩ := key h
    exact (hcls ⟨c, C, h1, h2, h3⟩).elim
/-! ### two clauses -/
structure Try2Ok (G : Gx) (y x : Str) (ok : List Str) : Prop where
  ex : ∃ C1 C2, G.mg y = some (.ref C1) ∧ G.mg x = some (.ref C2) ∧ ∀ c ∈ ok, ∀ C, G.mg c = some (.ref C) → PySem.W.exmOne G.K (.ref C) (.ref C1) = some false ∧ PySem.W.exmOne G.K (.ref C) (.ref C2) = some true
theorem r_try2 {n : Nat} (g : Good X G (some n) N sc W) (Tx : TopX X) (hB : B.xa = none) {y z : Str} {body s1 suite : List Stmt} {b₀ : Stmt} {n1 : Option Str} {np1 np p1 pos' : Pos} {ok : List Str} {j : Nat} {ib ih : List S}
    (hk : Try2Ok G y x ok) (v1 : Gb sc y) (v2 : Gb sc x) (w : Vr N sc j z) (hz : lcB sc z = true)
    (hb : ∀ (X' : Cx) (W' : WX), Good X' G (some n) N sc W' → TopX X' → PSs X' body (rdS G B W' (evSs ib)))
    (hs : ∀ (X' : Cx) (B' : Fr0), Good X' G none N sc W0 → SuiX X' B' → PSs X' (b₀ :: suite) (rdS G B' W0 (evSs ih))) :
    PS X (.Try body [.ExceptHandler (some (.Name y np1)) n1 s1 p1, .ExceptHandler (some (.Name x np)) (some z) (b₀ :: suite) pos'] [] [] pos) (rdS G B W (evS (.tryS2 ib ok j ih))) := by
  obtain ⟨C1, C2, m1, m2, ho⟩ := hk.ex
  have gT : ∀ (W' : WX) (pn : List (Addr × Obj)) (xe : Value → Shared → Prop), Takes (X.tr pn xe) W' → Good (X.tr pn xe) G (some n) N sc W' := fun W' pn xe tk =>
    ⟨g.hP, g.hw, g.hb, g.hK, g.hmg, g.hN, g.nd, g.hsc, g.calm, g.room, g.un, fun _ => tk⟩
  have tT : ∀ (pn : List (Addr × Obj)) (xe : Value → Shared → Prop), PassesOwn (model X.prog X.w) X.A X.env xe → TopX (X.tr pn xe) := fun pn xe pp => ⟨Tx.fn, pp, Tx.stk, Tx.frm⟩
  have gS : ∀ (a : Addr) (pn : List (Addr × Obj)), Good (X.suite a pn) G none N sc (fun _ _ _ _ => False) := fun a pn =>
    ⟨g.hP, g.hw, g.hb, g.hK, g.hmg, g.hN, g.nd, g.hsc, fun z => (by cases z), fun _ z => (by cases z), g.un, fun z => (by cases z)⟩
  have nmO : ∀ {q : Str} {C : Addr}, G.mg q = some (.ref C) → Gb sc q → Names X q (.ref C) := fun {q C} hm v => ⟨show X.env.scope.names.lookup q = some .globalImplicit by rw [g.hsc]; exact v.hl, v.hd, .inl (by rw [g.hmg]; exact hm)⟩
  refine PS.imp (ps_try_second (c1 := .ref C1) (c2 := .ref C2) Tx.stk Tx.frm (by rw [g.hN]; exact g.nd) (by rw [g.hN]; exact w.hi) (show X.env.scope.names.lookup z = some .local by rw [g.hsc]; exact lc_of hz) (nmO m1 v1) (nmO m2 v2) (tb := fun W' => rdS G B W' (evSs ib))
    (ts := fun a cls d => rdS G { B with xa := some (a, cls, d) } (fun _ _ _ _ => False) (evSs ih)) (fun W' pn xe tk pp => hb _ W' (gT W' pn xe tk) (tT pn xe pp))
    (fun a oe cls d pn hz hf => hs _ _ (gS a _) ⟨X, a, oe, cls, d, pn, rfl, rfl, hz, hf⟩)) fun D σ H hq => ?_
  obtain ⟨F, s, sr, p⟩ := hq
  simp only [evS] at p
  refine ⟨F, s, sr, ?_⟩
  cases h : evSs ib s with
  | nx s1 => rw [h] at p; exact p
  | brk s1 => rw [h] at p; exact p
  | cnt s1 => rw [h] at p; exact p
  | ret t s1 => rw [h] at p; exact p
  | retF t s1 => rw [h] at p; exact p
  | bad => rw [h] at p; exact p
  | ex c' ns ts s1 =>
    rw [h] at p
    simp only at p
    intro cls d σ' F' H' e sr' r
    split at p
    · rename_i hm
      split at p
      · exact p.elim
      · rename_i hmp
        obtain ⟨C, e1, e2, _⟩ := id r
        obtain ⟨o1, o2⟩ := ho c' (by simpa using hm) C e2
        subst e1
        exact ⟨by rw [g.hK]; exact o1, by rw [g.hK]; exact o2, fun a hn => ⟨F', s1.set j (.xc c' ns ts), sr'.setXc hB (isMp_lt (by simpa using hmp)) r, leave_post (p.up e)⟩⟩
    · exact p.elim
end
end FL

/-! FL35: own exceptions whose __init__ names its base: B.__init__(self, e). -/
namespace FL
open PySem PySem.Spec L2 PyProof.Rows
open PySem.W (Frag)
section
variable {X : Cx} {G : Gx} {B : Fr0} {W : WX} {k : Option Nat} {N : List Str} {sc : Scope} {pos : Pos} {F F' H : Hp} {σ : L2.St} {s : Sls} {x : Str}
theorem pe_binit {pl : Sem Bool} {Bn : Str} {BC : Addr} {e e2 : Expr} {ta : TA} {p1 p2 : Pos} (hg : Gl X Bn) (hm : X.mg Bn = some (.ref BC)) (hdb : (Bn == ("__debug__" : Str)) = false) (hr : PySem.W.readsIn X.K BC (.type "type") = true)
    (hsp : PySem.W.specialIn X.K (.ref BC) "__getattribute__" = some (some (.builtin "type.__getattribute__"))) (vV : PySem.W.findCls X.K (.ref BC) (.type "type") "__init__" = some (.val (.builtin "ValueError.__init__"))) (ha : PA X [e, e2] ta)
    (hc : eval (.Call (.Attribute (.Name Bn p1) "__init__" p2) [e, e2] [] pos) X.env = (do
      let ov ← eval (.Name Bn p1) X.env
      standAt p2.atName
      let (f, first) ← holding [ov] (getMethod ov "__init__" pl)
      callWith pos f first (backTo pos (starEach [e, e2] X.env)) (backToKw pos (keywordEach [] X.env))))
    (he : starEach [e, e2] X.env = (false, eval e X.env) :: starEach [e2] X.env) (hpl : (backTo pos (starEach [e2] X.env)).any (·.1) = false) :
    PE X (.Call (.Attribute (.Name Bn p1) "__init__" p2) [e, e2] [] pos) (tVeI X.K ta) := by
  refine ⟨fun pins s σ H Q I h => ?_⟩
  refine PySem.W.methodCall_KW (ld_glob I hg hm ?_ hdb) hc
  refine PySem.W.method_cls I.kIn hsp (PySem.W.cls_value I.kIn hr vV (by decide +kernel) ?_)
  show wpAny _ _ (callWith pos (Value.builtin "ValueError.__init__") [] (backTo pos (starEach [e, e2] X.env)) []) _ _ _
  refine PyProof.Rows.callWith_method1 (thn (ha.run pos pins _ σ H _ (I.tok _) h) fun us s1 ⟨vs, H1, I1, r1, a, C, ws, ev, hl, T, ea, q⟩ => ?_) he hpl
  subst ev
  cases r1 with
  | @cons _ u0 _ ur ra rw' =>
    obtain rfl : u0 = Value.ref a := ra
    have hlen : ur.length ≤ sizeLine := by
      rw [← Paired.length rw', sizeLine_eq]
      omega
    exact oinit_ok T I1 ea hlen fun s' J => ⟨.non, H1, J, rfl, q⟩
/-! ### such an __init__ -/
def binBody (Bn slf : Str) (x : XA) (fs : List XF) (p0 p1 p2 p3 p4 : Pos) : List Stmt := .Expr (.Call (.Attribute (.Name Bn p1) "__init__" p2) [.Name slf p0, x.ex] [] p3) p4 :: fs.map XF.st
/-- the call's tree -/
def EvB (Bn slf : Str) (x : XA) (p0 p1 p2 p3 : Pos) : Prop := ∀ env : Env, eval (.Call (.Attribute (.Name Bn p1) "__init__" p2) [.Name slf p0, x.ex] [] p3) env = (do
  let ov ← eval (.Name Bn p1) env
  standAt p2.atName
  let (f, first) ← holding [ov] (getMethod ov "__init__" (do return (← importBound (.Name Bn p1) env).getD true))
  callWith p3 f first (backTo p3 (starEach [.Name slf p0, x.ex] env)) (backToKw p3 (keywordEach [] env)))
def spB (C : Addr) (n : Nat) (fs : List XF) : Sp := fun vs H Q _ => vs.length = n ∧ ∃ a, vs[0]? = some (.ref a) ∧ H a = some (exo a C none) ∧ (fs = [] → Q .non H) ∧
  (fs ≠ [] → ∀ dx, H dx = none → dx ≠ a → Q .non (upd (upd H dx (exd dx (fldsR vs fs []))) a (exo a C (some dx))))
theorem bin_fn {P : Program} {w : World} {K : Frag} {mg : Str → Option Value} {base : Heap} {qual : Str} {params : Arguments} {scope : Scope} {f C BC : Addr} {fd : FuncData} {ps : List Str} {n : Nat} {Bn slf nm : Str} {x : XA} {fs : List XF} {p0 p1 p2 p3 p4 : Pos}
    (FD : FunD K nm qual params (binBody Bn slf x fs p0 p1 p2 p3 p4) scope [] [] f fd) (S : FnScope ps ps scope) (T : OexC K C) (hx : XA.ok ps scope.names x = true) (hs0 : XA.ok ps scope.names (.n 0 slf p0) = true) (hfs : fs.all (XF.ok ps scope.names) = true) (nf : ∀ y ∈ fs, PySem.W.findIn K (.ref C) y.f = some none) (few : fs.length ≤ 100)
    (hc : EvB Bn slf x p0 p1 p2 p3) (hg : scope.names.lookup Bn = some .globalImplicit) (hm : mg Bn = some (.ref BC)) (hdb : (Bn == ("__debug__" : Str)) = false) (hr : PySem.W.readsIn K BC (.type "type") = true)
    (hsp : PySem.W.specialIn K (.ref BC) "__getattribute__" = some (some (.builtin "type.__getattribute__"))) (vV : PySem.W.findCls K (.ref BC) (.type "type") "__init__" = some (.val (.builtin "ValueError.__init__"))) :
    FnOk P w K mg base (L2.CX P w) (n + 1) f fd ps (spB C ps.length fs) := by
  refine FD.ok S (fun vs H Q E h => h.1) (fun cdv A outer s H vs Q E hr' h => ?_)
  obtain ⟨hl, a, h0, ha, q0, q1⟩ := h
  have st : start ps vs = vs.map some := by unfold L2.start; rw [hl]; simp
  obtain ⟨k1, hs0⟩ := Bool.and_eq_true_iff.mp hs0
  obtain ⟨k2, hs0⟩ := Bool.and_eq_true_iff.mp hs0
  obtain ⟨k3, k4⟩ := Bool.and_eq_true_iff.mp hs0
  have hxs : [x].all (XA.ok ps scope.names) = true := by simpa using hx
  obtain ⟨ws, w1, w2⟩ := xs_run (ps := ps) (names := scope.names) (H := H) hl hxs
  refine ⟨_, pss_cons (ps_expr (pe_binit (X := cxOf (L2.CX P w) P w K mg base ps qual scope f cdv A outer s H E) (BC := BC) (pl := (do return (← importBound (.Name Bn p1) (cxOf (L2.CX P w) P w K mg base ps qual scope f cdv A outer s H E).env).getD true)) hg hm hdb hr hsp vV
      (pa_cons (pe_var (i := 0) (of_decide_eq_true k1) (.inl (of_decide_eq_true k2)) (by simpa using k3) (by simpa using k4)) (pa_xs (ps := ps) (names := scope.names) rfl rfl hxs) (star_of rfl)) (hc _) (star_of rfl) (plain_of ?_)) ?_) (pss_fs (ps := ps) (names := scope.names) rfl rfl hfs), ?_⟩
  · cases x <;> rfl
  · cases x <;> rfl
  · rw [st]
    refine ⟨.ref a, by rw [List.getElem?_map, h0]; rfl, w2 _ ⟨a, C, ws, rfl, by simp at w1; omega, T, ha, ?_⟩⟩
    exact fs_new T hl h0 hfs nf (by omega) ha (fun e => q0 e) (fun ne dx hn na => q1 ne dx hn na)
/-- a class whose __init__ names its base -/
structure BinOk (G : Gx) (c : Str) (np : Nat) (sel : List (Str × Nat)) : Prop where
  ex : ∃ C fI fd ps fs, (∀ n, FnOk G.P G.w G.K G.mg G.base (L2.CX G.P G.w) (n + 1) fI fd ps (spB C ps.length fs)) ∧ Binds G.K fd ps [] ∧ OexC G.K C ∧ PySem.W.findIn G.K (.ref C) "__init__" = some (some (.ref fI)) ∧ PySem.W.typeIn G.K (.ref fI) = some (.type "function") ∧
    G.mg c = some (.ref C) ∧ ps.length = np + 1 ∧ ps.length ≤ 1000 ∧ sel = selOf fs ∧ ∀ a ∈ fs, 0 < a.i
theorem new_callB {pins : List (Addr × Obj)} {H1 : Hp} {Q : VK} {us : List Value} {vs : List V} {s1 : Shared} {C fI : Addr} {fd : FuncData} {ps : List Str} {fs : List XF} {k : Nat} {E : Value → Shared → Prop} (T : OexC X.K C) (iC : PySem.W.findIn X.K (.ref C) "__init__" = some (some (.ref fI))) (tI : PySem.W.typeIn X.K (.ref fI) = some (.type "function"))
    (F1 : FnOk X.prog X.w X.K X.mg X.base (L2.CX X.prog X.w) (k + 1) fI fd ps (spB C ps.length fs)) (hb : Binds X.K fd ps []) (hr : Room (k + 2) X.A) (fpos : ∀ a ∈ fs, 0 < a.i)
    (I1 : Inv X pins σ H1 s1) (r1 : Vals vs us) (hl : vs.length + 1 = ps.length) (hlz : vs.length ≤ 1000)
    (q : ∃ us, selV (selOf fs) vs = some us ∧ (selOf fs = [] → ∀ a, H1 a = none → Q (.ref a) (upd H1 a (exo a C none))) ∧
      (selOf fs ≠ [] → ∀ a d, H1 a = none → H1 d = none → d ≠ a → Q (.ref a) (upd (upd H1 d (exd d (((selOf fs).map (·.1)).zip us))) a (exo a C (some d))))) :
    wpAny (model X.prog X.w) X.A (call (.ref C) us) (EP X pins σ Q) E s1 := by
  obtain ⟨nm, qn, N, bs, bm, sn, sub, ab, col, dd, k0, k1, k2, k3, k5, hC, hbm⟩ := T.cls
  obtain ⟨ws, hsel, q0, q1⟩ := q
  obtain ⟨hp, gs, dr, tk, os⟩ := s1
  have sz : hp.objs.size ≤ hp.objs.size + 1 := Nat.le_succ _
  have nf : H1 (hp.objs.size + 1) = none := I1.hok.fresh sz
  have kp : ∀ b o, hp.get? b = some o → ((hp.push (PySem.W.kdv_tup us)).push (PySem.HandSPX.excO C hp.objs.size)).get? b = some o :=
    fun b o e => Heap.get?_push_of_some _ (Heap.get?_push_of_some _ e)
  have at_ : ((hp.push (PySem.W.kdv_tup us)).push (PySem.HandSPX.excO C hp.objs.size)).get? (hp.objs.size + 1) = some (PySem.HandSPX.excO C hp.objs.size) := by
    heap_get
  have I2 : Inv X pins σ (upd H1 (hp.objs.size + 1) (exo (hp.objs.size + 1) C none))
      ⟨(hp.push (PySem.W.kdv_tup us)).push (PySem.HandSPX.excO C hp.objs.size), gs, dr, tk, os⟩ :=
    I1.laid (t' := tk) (a := hp.objs.size + 1) (o := exo (hp.objs.size + 1) C none)
      (h' := (hp.push (PySem.W.kdv_tup us)).push (PySem.HandSPX.excO C hp.objs.size)) kp sz (exo_ok at_)
  have lz : us.length ≤ sizeLine := by
    rw [← Paired.length r1, sizeLine_eq]
    omega
  have r2 : Vals (V.ref (hp.objs.size + 1) :: vs) (Value.ref (hp.objs.size + 1) :: us) := .cons rfl r1
  have hul : (Value.ref (hp.objs.size + 1) :: us ++ []).length = ps.length := by
    have := Paired.length r2
    simp at this ⊢
    omega
  refine wpAny_call (PySem.HandSPX.call_own F.excBase_ValueError (fun Y => PySem.HandSPX.refsVE_contains Y bm hbm) (I1.kIn _ _ hC)
    (PySem.W.looks_findIn I1.kIn iC) (fun self => PySem.W.bind_fn I1.kIn self tI) lz
    (codeAny_mono (F1.run _ X.stack _ (upd H1 (hp.objs.size + 1) (exo (hp.objs.size + 1) C none)) ⟨Value.ref (hp.objs.size + 1) :: us, []⟩ (Value.ref (hp.objs.size + 1) :: us ++ []) (V.ref (hp.objs.size + 1) :: vs)
      (fun v H2 => v = .non ∧ ((fs = [] ∧ H2 = upd H1 (hp.objs.size + 1) (exo (hp.objs.size + 1) C none)) ∨ (fs ≠ [] ∧ ∃ dx, upd H1 (hp.objs.size + 1) (exo (hp.objs.size + 1) C none) dx = none ∧ dx ≠ hp.objs.size + 1 ∧
        H2 = upd (upd (upd H1 (hp.objs.size + 1) (exo (hp.objs.size + 1) C none)) dx (exd dx (fldsR (V.ref (hp.objs.size + 1) :: vs) fs []))) (hp.objs.size + 1) (exo (hp.objs.size + 1) C (some dx))))) (fun _ _ _ => False)
      (hr.make C us []) (I2.env0.make C us []) (hb _ (Value.ref (hp.objs.size + 1) :: us) I2.kIn (by simpa using hul)) (by simpa using r2)
      ⟨by simpa using hl, hp.objs.size + 1, rfl, upd_same, fun e => ⟨rfl, .inl ⟨e, rfl⟩⟩, fun ne dx hn na => ⟨rfl, .inr ⟨ne, dx, hn, na, rfl⟩⟩⟩) (fun r s' hq' => ?_)))
  cases r with
  | error er =>
    obtain ⟨_, _, _, _, _, _, _, _, _, _, _, _, _, z⟩ := hq'
  | ok fl =>
    cases fl with
    | ret u =>
      obtain ⟨v, H2, os2, bare2, un2, hok2, rv0, ev, hh⟩ := hq'
      obtain ⟨h2, g2, d2, t2, os'⟩ := s'
      subst ev
      refine ⟨rv0, ?_⟩
      have J : Inv X pins σ H2 ⟨h2, g2, d2, t2, os'⟩ := I2.call' (ch := []) os2 un2 hok2 bare2 (fun b z => absurd z (by simp))
      refine ⟨.ref (hp.objs.size + 1), H2, J, rfl, ?_⟩
      rcases hh with ⟨e, rfl⟩ | ⟨ne, dx, hd, hda, rfl⟩
      · exact q0 (by rw [e]; rfl) _ nf
      · have hd1 : H1 dx = none := by rw [upd_ne hda] at hd; exact hd
        have ne' : selOf fs ≠ [] := fun z => by
          unfold selOf at z
          simp at z
          exact ne z
        have z := q1 ne' _ dx nf hd1 hda
        have e1 : fldsR (V.ref (hp.objs.size + 1) :: vs) fs [] = ((selOf fs).map (·.1)).zip ws := by
          rw [fldsR_eq, List.append_nil, selV_of (v0 := V.ref (hp.objs.size + 1)) hsel fpos]
          unfold selOf
          rw [List.map_map, List.zip_map']
          rfl
        rw [e1]
        have e2 : upd (upd (upd H1 (hp.objs.size + 1) (exo (hp.objs.size + 1) C none)) dx (exd dx (((selOf fs).map (·.1)).zip ws))) (hp.objs.size + 1) (exo (hp.objs.size + 1) C (some dx))
            = upd (upd H1 dx (exd dx (((selOf fs).map (·.1)).zip ws))) (hp.objs.size + 1) (exo (hp.objs.size + 1) C (some dx)) := by
          funext b
          by_cases z1 : b = hp.objs.size + 1
          · subst z1; rw [upd_same, upd_same]
          · rw [upd_ne z1, upd_ne z1]
            by_cases z2 : b = dx
            · subst z2; rw [upd_same, upd_same]
            · rw [upd_ne z2, upd_ne z2, upd_ne z1]
        rw [e2]
        exact z
    | next => exact False.elim hq'
    | brk => exact False.elim hq'
    | cont => exact False.elim hq'
section
variable {a b c e : Expr} {ea eb ec : E} {es : List Expr} {p : Pos} {n : Nat}
theorem p_newC (g : Good X G (some (n + 2)) N sc W) {c : Str} {np : Nat} {sel : List (Str × Nat)} {fs : Es} (ok : BinOk G c np sel) (v : Gb sc c) (ha : PA X (e :: es) (rd G B W (relEs G) (evEs fs))) (h1 : notStar e = true) (h2 : es.all notStar = true) :
    PE X (.Call (.Name c p) (e :: es) [] pos) (rdE G B W (.newX c np sel fs)) := by
  obtain ⟨C, fI, fd, ps, fz, k1, k2, k3, k4, k5, k6, k7, k8, rfl, k9⟩ := ok.ex
  have hg : Gl X c := show X.env.scope.names.lookup c = some .globalImplicit by rw [g.hsc]; exact v.hl
  refine PE.imp (t := tNewX C np (selOf fz) (rd G B W (relEs G) (evEs fs))) ?_ fun σ H Q hq => rd_newX k6 hq
  refine ⟨fun pins s σ H Q I h => ?_⟩
  refine wpAny_Call_Name_kw (ld_glob I hg (by rw [g.hmg]; exact k6) ?_ v.hd)
  refine PySem.W.callWith_K (h₀ := X.base) I.ok.mod.kin (by rw [g.hK]; exact k3.kC) (thn (ha.run pos pins s σ H _ I h) fun us s1 ⟨vs, H1, I1, r1, hz, q1⟩ => ⟨I1.kIn, ?_⟩) (star_of h1) (plain_of h2)
  show wpAny _ _ (call (.ref C) us) _ _ _
  exact new_callB (k := n) (by rw [g.hK]; exact k3) (by rw [g.hK]; exact k4) (by rw [g.hK]; exact k5) (by rw [g.hP, g.hw, g.hK, g.hmg, g.hb]; exact k1 n) (by rw [g.hK]; exact k2) (g.room _ rfl) k9 I1 r1 (by omega) (by omega) q1
theorem p_newC0 (g : Good X G (some (n + 2)) N sc W) {c : Str} {sel : List (Str × Nat)} (ok : BinOk G c 0 sel) (v : Gb sc c) : PE X (.Call (.Name c p) [] [] pos) (rdE G B W (.newX c 0 sel .nil)) := by
  obtain ⟨C, fI, fd, ps, fz, k1, k2, k3, k4, k5, k6, k7, k8, rfl, k9⟩ := ok.ex
  have hg : Gl X c := show X.env.scope.names.lookup c = some .globalImplicit by rw [g.hsc]; exact v.hl
  refine PE.imp (t := tNewX C 0 (selOf fz) tNil) ?_ fun σ H Q hq => ?_
  · refine ⟨fun pins s σ H Q I h => ?_⟩
    refine wpAny_Call_Name_kw (ld_glob I hg (by rw [g.hmg]; exact k6) ?_ v.hd)
    refine PySem.W.callWith_K0 (I.kIn) (by rw [g.hK]; exact k3.kC) ?_
    show wpAny _ _ (call (.ref C) ([] ++ [])) _ _ _
    exact new_callB (k := n) (by rw [g.hK]; exact k3) (by rw [g.hK]; exact k4) (by rw [g.hK]; exact k5) (by rw [g.hP, g.hw, g.hK, g.hmg, g.hb]; exact k1 n) (by rw [g.hK]; exact k2) (g.room _ rfl) k9 I .nil (by simp [k7]) (by simp) h.2
  · obtain ⟨F, s, sr, p⟩ := rd_newX k6 hq
    simp only [evEs] at p
    exact p [] F H (.refl _) sr (by simp only [relEs, Reps])
end
end
end FL

/-! FL36: facts of exceptions' classes, from checks. -/
namespace FL
open PySem PySem.Spec L2 PyProof.Rows
open PySem.W (Frag)
/-- the checks of a class whose __init__ names its base -/
def binB (K : Frag) (c : Str) (fs : List Str) : Bool :=
  oexB K (He.ga K c) && (He.eqO (PySem.W.findIn K (.ref (He.ga K c)) "__setattr__") (some (some (.builtin "object.__setattr__"))) && (decide (PySem.W.subIn K (.ref (He.ga K c)) (.type "BaseException") = some true) && (decide (PySem.W.typeIn K (.ref (He.ga K c)) = some (.type "type")) &&
  (PySem.W.keepIn K (.ref (He.ga K c)) && (He.eqO (PySem.W.findIn K (.ref (He.ga K c)) "__init__") (some (some (.ref (He.ma K (He.ga K c) "__init__")))) && (decide (PySem.W.typeIn K (.ref (He.ma K (He.ga K c) "__init__")) = some (.type "function")) &&
  (He.eqO (PySem.W.nsIn K mainGlobals c) (some (some (.ref (He.ga K c)))) && (xfB K (He.ga K c) && (fs.all fun f => He.eqO (PySem.W.findIn K (.ref (He.ga K c)) f) (some none))))))))))
def valB (o : Option PySem.W.CFound) : Bool := match o with
  | some (.val (.builtin n)) => n == "ValueError.__init__"
  | _ => false
theorem valB_ok {o : Option PySem.W.CFound} (h : valB o = true) : o = some (.val (.builtin "ValueError.__init__")) := by
  unfold valB at h
  split at h
  · rw [beq_iff_eq.mp h]
  · cases h
/-- of the base -/
def basB (K : Frag) (b : Str) : Bool := PySem.W.readsIn K (He.ga K b) (.type "type") && (He.eqO (PySem.W.specialIn K (.ref (He.ga K b)) "__getattribute__") (some (some (.builtin "type.__getattribute__"))) && (He.eqO (PySem.W.nsIn K mainGlobals b) (some (some (.ref (He.ga K b)))) &&
  valB (PySem.W.findCls K (.ref (He.ga K b)) (.type "type") "__init__")))
section
variable {P : Program} {w : World} {base h : Heap} {K : Frag} {mg : Str → Option Value}
theorem bin_xf {c : Str} {fs : List Str} (hx : binB K c fs = true) : XfC K (He.ga K c) ∧ ∀ f ∈ fs, PySem.W.findIn K (.ref (He.ga K c)) f = some none := by
  unfold binB at hx
  obtain ⟨_, hx⟩ := He.ba hx
  obtain ⟨_, hx⟩ := He.ba hx
  obtain ⟨_, hx⟩ := He.ba hx
  obtain ⟨_, hx⟩ := He.ba hx
  obtain ⟨_, hx⟩ := He.ba hx
  obtain ⟨_, hx⟩ := He.ba hx
  obtain ⟨_, hx⟩ := He.ba hx
  obtain ⟨_, hx⟩ := He.ba hx
  obtain ⟨h1, hx⟩ := He.ba hx
  exact ⟨xfB_ok h1, fun a m => He.eqO_ok (List.all_eq_true.mp hx a m)⟩
theorem bin_mg (X : K.In h) (Gm : h.Ns mainGlobals mg) {c : Str} {fs : List Str} (hx : binB K c fs = true) : mg c = some (.ref (He.ga K c)) := by
  unfold binB at hx
  obtain ⟨_, hx⟩ := He.ba hx
  obtain ⟨_, hx⟩ := He.ba hx
  obtain ⟨_, hx⟩ := He.ba hx
  obtain ⟨_, hx⟩ := He.ba hx
  obtain ⟨_, hx⟩ := He.ba hx
  obtain ⟨_, hx⟩ := He.ba hx
  obtain ⟨_, hx⟩ := He.ba hx
  exact PySem.W.mg_of X Gm (He.eqO_ok (He.ba hx).1)
theorem binOk_of (X : K.In h) (Gm : h.Ns mainGlobals mg) {c b : Str} {qual nm : Str} {params : Arguments} {scope : Scope} {fd : FuncData} {ps : List Str} {slf : Str} {x : XA} {fs : List XF} {p0 p1 p2 p3 p4 : Pos}
    (hx : binB K c (fs.map (·.f)) = true) (hbs : basB K b = true) (FD : FunD K nm qual params (binBody b slf x fs p0 p1 p2 p3 p4) scope [] [] (He.ma K (He.ga K c) "__init__") fd) (hbnd : Binds K fd ps []) (S : FnScope ps ps scope) (hxa : XA.ok ps scope.names x = true) (hs0 : XA.ok ps scope.names (.n 0 slf p0) = true)
    (hfs : fs.all (XF.ok ps scope.names) = true) (few : fs.length ≤ 100) (hc : EvB b slf x p0 p1 p2 p3) (hg : scope.names.lookup b = some .globalImplicit) (hdb : (b == ("__debug__" : Str)) = false) (np : Nat) (hp : ps.length = np + 1) (hp2 : ps.length ≤ 1000) (sel : List (Str × Nat)) (hs : sel = selOf fs) (hpos : ∀ a ∈ fs, 0 < a.i) :
    BinOk (mkG P w base K mg) c np sel := by
  have hm := bin_mg X Gm hx
  have hnf := (bin_xf hx).2
  unfold binB at hx
  obtain ⟨h1, hx⟩ := He.ba hx
  obtain ⟨h2, hx⟩ := He.ba hx
  obtain ⟨h3, hx⟩ := He.ba hx
  obtain ⟨h4, hx⟩ := He.ba hx
  obtain ⟨h5, hx⟩ := He.ba hx
  obtain ⟨h6, hx⟩ := He.ba hx
  obtain ⟨h7, hx⟩ := He.ba hx
  obtain ⟨b1, hb⟩ := He.ba hbs
  obtain ⟨b2, hb⟩ := He.ba hb
  obtain ⟨b3, b4⟩ := He.ba hb
  have T : OexC K (He.ga K c) := ⟨oexB_ok h1, He.eqO_ok h2, of_decide_eq_true h3, of_decide_eq_true h4, h5⟩
  exact ⟨_, _, fd, ps, fs, fun n => bin_fn FD S T hxa hs0 hfs (fun y hy => hnf y.f (List.mem_map.mpr ⟨y, hy, rfl⟩)) few hc hg (PySem.W.mg_of X Gm (He.eqO_ok b3)) hdb b1 (He.eqO_ok b2) (valB_ok b4), hbnd, T, He.eqO_ok h6, of_decide_eq_true h7, hm, hp, hp2, hs, hpos⟩
/-! ### isinstance -/
def excCB (K : Frag) (c : Str) : Bool := decide (PySem.W.findIn K (.ref (He.ga K c)) "__getattribute__" = some (some (.builtin "BaseException.__getattribute__"))) && (decide (PySem.W.findIn K (.ref (He.ga K c)) "__getattr__" = some none) && (decide (PySem.W.subIn K (.ref (He.ga K c)) (.type "BaseException") = some true) && (PySem.W.hasDictIn K (He.ga K c) &&
  (decide (PySem.W.findIn K (.ref (He.ga K c)) "__class__" = some (some (.builtin "object.__class__"))) && (decide (PySem.W.specialIn K (.builtin "object.__class__") "__get__" = some (some (.builtin "getset_descriptor.__get__"))) && (decide (PySem.W.takesIn K (.builtin "object.__class__") = some true) && (decide (PySem.W.mroIn K (He.ga K c) (.type "object") = some true) &&
  He.eqO (PySem.W.nsIn K mainGlobals c) (some (some (.ref (He.ga K c)))))))))))
theorem excCB_ok {c : Str} (hx : excCB K c = true) : ExcC K (He.ga K c) ∧ PySem.W.nsIn K mainGlobals c = some (some (.ref (He.ga K c))) := by
  unfold excCB at hx
  obtain ⟨h1, hx⟩ := He.ba hx
  obtain ⟨h2, hx⟩ := He.ba hx
  obtain ⟨h3, hx⟩ := He.ba hx
  obtain ⟨h4, hx⟩ := He.ba hx
  obtain ⟨h5, hx⟩ := He.ba hx
  obtain ⟨h6, hx⟩ := He.ba hx
  obtain ⟨h7, hx⟩ := He.ba hx
  obtain ⟨h8, h9⟩ := He.ba hx
  exact ⟨⟨of_decide_eq_true h1, of_decide_eq_true h2, of_decide_eq_true h3, h4, of_decide_eq_true h5, of_decide_eq_true h6, of_decide_eq_true h7, of_decide_eq_true h8⟩, He.eqO_ok h9⟩
/-- isinstance of each of them in u -/
def isoB (K : Frag) (u : Value) (yes no : List Str) : Bool := (yes.all fun c => decide (PySem.W.kitOne K (.ref (He.ga K c)) u = some true)) && (no.all fun c => decide (PySem.W.kitOne K (.ref (He.ga K c)) u = some false))
theorem isoOk_of (X : K.In h) (Gm : h.Ns mainGlobals mg) {cs : List Str} (hcs : cs.all (excCB K) = true) {d : Str} {yes no : List Str} (hy : ∀ c ∈ yes, c ∈ cs) (hn : ∀ c ∈ no, c ∈ cs) {v : V} {u : Value} (hv : ClsV v u)
    (hd : (∃ A, v = .ref A ∧ mg d = some (.ref A)) ∨ (∃ m, v = .ty m ∧ d = Str.ofString m ∧ mg d = none ∧ bootBuiltins (Str.ofString m) = some (.type m) ∧ d ≠ "__name__")) (hx : isoB K u yes no = true) : IsoOk (mkG P w base K mg) d yes no := by
  obtain ⟨h1, h2⟩ := He.ba hx
  have one : ∀ c ∈ cs, ∀ C, mg c = some (.ref C) → C = He.ga K c ∧ ExcC K C := fun c hc C e => by
    obtain ⟨k1, k2⟩ := excCB_ok (List.all_eq_true.mp hcs c hc)
    rw [PySem.W.mg_of X Gm k2] at e
    cases e
    exact ⟨rfl, k1⟩
  refine ⟨v, u, hv, hd, fun c hc C e => ?_, fun c hc C e => ?_⟩
  · obtain ⟨rfl, k⟩ := one c (hy c hc) C e
    exact ⟨k, of_decide_eq_true (List.all_eq_true.mp h1 c hc)⟩
  · obtain ⟨rfl, k⟩ := one c (hn c hc) C e
    exact ⟨k, of_decide_eq_true (List.all_eq_true.mp h2 c hc)⟩
theorem isoOk_own (X : K.In h) (Gm : h.Ns mainGlobals mg) {cs : List Str} (hcs : cs.all (excCB K) = true) {d : Str} {yes no : List Str} (hy : yes.all (cs.contains ·) = true) (hn : no.all (cs.contains ·) = true) (hd : mg d = some (.ref (He.ga K d))) (hx : isoB K (.ref (He.ga K d)) yes no = true) : IsoOk (mkG P w base K mg) d yes no :=
  isoOk_of X Gm hcs (fun c hc => by simpa using List.all_eq_true.mp hy c hc) (fun c hc => by simpa using List.all_eq_true.mp hn c hc) (.own (He.ga K d)) (.inl ⟨_, rfl, hd⟩) hx
theorem isoOk_ve (X : K.In h) (Gm : h.Ns mainGlobals mg) {cs : List Str} (hcs : cs.all (excCB K) = true) {yes no : List Str} (hy : yes.all (cs.contains ·) = true) (hn : no.all (cs.contains ·) = true) (hd : mg "ValueError" = none) (hx : isoB K (.type "ValueError") yes no = true) : IsoOk (mkG P w base K mg) "ValueError" yes no :=
  isoOk_of X Gm hcs (fun c hc => by simpa using List.all_eq_true.mp hy c hc) (fun c hc => by simpa using List.all_eq_true.mp hn c hc) (.ty "ValueError") (.inr ⟨"ValueError", rfl, rfl, hd, PyProof.Rows.Boot.«ValueError», by decide⟩) hx
/-! ### two clauses, and a class that is ValueError's -/
theorem try2Ok_of {y x : Str} {ok : List Str} (m1 : mg y = some (.ref (He.ga K y))) (m2 : mg x = some (.ref (He.ga K x))) (ho : ∀ c ∈ ok, mg c = some (.ref (He.ga K c)) ∧ PySem.W.exmOne K (.ref (He.ga K c)) (.ref (He.ga K y)) = some false ∧ PySem.W.exmOne K (.ref (He.ga K c)) (.ref (He.ga K x)) = some true) :
    Try2Ok (mkG P w base K mg) y x ok := by
  refine ⟨_, _, m1, m2, fun c hc C e => ?_⟩
  obtain ⟨k1, k2, k3⟩ := ho c hc
  have e : mg c = some (.ref C) := e
  rw [k1] at e
  cases e
  exact ⟨k2, k3⟩
theorem newOk_of (X : K.In h) (Gm : h.Ns mainGlobals mg) {c : Str} (hg : mg c = some (.ref (He.ga K c))) (hx : (He.Fa.exc c).ok K = true) : NewOk (mkG P w base K mg) c := by
  obtain ⟨k1, k2, _⟩ := He.exc_ok hx
  exact ⟨_, _, hg, k2, F.excBase_ValueError, k1⟩
end
end FL
namespace FL
open PySem PySem.Spec L2
theorem funD_cast {K : PySem.W.Frag} {x qual : Str} {params : Arguments} {b b2 : List Stmt} {scope : Scope} {dvs : List V} {kws : List (Str × V)} {f : Addr} {fd : FuncData} (e : b = b2) (F : FunD K x qual params b scope dvs kws f fd) : FunD K x qual params b2 scope dvs kws f fd := e ▸ F
end FL

/-! FS1: the evaluator stepped by simp. -/
namespace FL
open PySem L2
/-! results -/
@[simp] theorem bind_ok {α β : Type} (a : α) (s : Sls) (k : α → Sls → Rs β) : (Rs.ok a s).bind k = k a s := rfl
@[simp] theorem bind_ex {α β : Type} (c : Str) (ns : List Str) (ts : List T) (s : Sls) (k : α → Sls → Rs β) : (Rs.ex c ns ts s : Rs α).bind k = .ex c ns ts s := rfl
@[simp] theorem so_ok {α : Type} (a : α) (s : Sls) (k : α → Sls → SO) : (Rs.ok a s).so k = k a s := rfl
@[simp] theorem so_ex {α : Type} (c : Str) (ns : List Str) (ts : List T) (s : Sls) (k : α → Sls → SO) : (Rs.ex c ns ts s : Rs α).so k = .ex c ns ts s := rfl
@[simp] theorem of_some {α : Type} (a : α) (s : Sls) : Rs.of (some a) s = .ok a s := rfl
@[simp] theorem then_nx (s : Sls) (k : Sls → SO) : (SO.nx s).then k = k s := rfl
@[simp] theorem then_ret (t : T) (s : Sls) (k : Sls → SO) : (SO.ret t s).then k = .ret t s := rfl
@[simp] theorem then_retF (t : List T) (s : Sls) (k : Sls → SO) : (SO.retF t s).then k = .retF t s := rfl
@[simp] theorem then_brk (s : Sls) (k : Sls → SO) : (SO.brk s).then k = .brk s := rfl
@[simp] theorem then_cnt (s : Sls) (k : Sls → SO) : (SO.cnt s).then k = .cnt s := rfl
@[simp] theorem then_ex (c : Str) (ns : List Str) (ts : List T) (s : Sls) (k : Sls → SO) : (SO.ex c ns ts s).then k = .ex c ns ts s := rfl
/-! terms -/
@[simp] theorem e_var (i : Nat) (s : Sls) : evE (.var i) s = getV s i := rfl
@[simp] theorem e_cst (t : T) (s : Sls) : evE (.cst t) s = .ok t s := rfl
@[simp] theorem e_glo (x : Str) (t : T) (s : Sls) : evE (.glo x t) s = .ok t s := rfl
def kBin2 (op : Bop) (x y : T) (s : Sls) : Rs T := Rs.of (bop op x y) s
def kBin (op : Bop) (b : E) (x : T) (s : Sls) : Rs T := (evE b s).bind (kBin2 op x)
@[simp] theorem kBin2_ (op : Bop) (x y : T) (s : Sls) : kBin2 op x y s = Rs.of (bop op x y) s := rfl
@[simp] theorem kBin_ (op : Bop) (b : E) (x : T) (s : Sls) : kBin op b x s = (evE b s).bind (kBin2 op x) := rfl
@[simp] theorem e_bin (op : Bop) (a b : E) (s : Sls) : evE (.bin op a b) s = (evE a s).bind (kBin op b) := by simp only [evE] <;> rfl
def kNeg (x : T) (s : Sls) : Rs T := match x with | .int i => .ok (.int (-i)) s | _ => .bad
@[simp] theorem kNeg_ (i : Int) (s : Sls) : kNeg (.int i) s = .ok (.int (-i)) s := rfl
@[simp] theorem e_neg (a : E) (s : Sls) : evE (.neg a) s = (evE a s).bind kNeg := by simp only [evE] <;> rfl
def kCmp2 (op : Cop) (x y : T) (s : Sls) : Rs T := Rs.of (cop op x y) s
def kCmp (op : Cop) (b : E) (x : T) (s : Sls) : Rs T := (evE b s).bind (kCmp2 op x)
@[simp] theorem kCmp2_ (op : Cop) (x y : T) (s : Sls) : kCmp2 op x y s = Rs.of (cop op x y) s := rfl
@[simp] theorem kCmp_ (op : Cop) (b : E) (x : T) (s : Sls) : kCmp op b x s = (evE b s).bind (kCmp2 op x) := rfl
@[simp] theorem e_cmp (op : Cop) (a b : E) (s : Sls) : evE (.cmp op a b) s = (evE a s).bind (kCmp op b) := by simp only [evE] <;> rfl
def kCmpB (op : Cop) (i : Nat) (x : T) (s : Sls) : Rs T := match ownAt s i with | some ts => Rs.of (cop op x (.lst ts)) s | none => .bad
@[simp] theorem kCmpB_ (op : Cop) (i : Nat) (x : T) (s : Sls) : kCmpB op i x s = (match ownAt s i with | some ts => Rs.of (cop op x (.lst ts)) s | none => .bad) := rfl
@[simp] theorem e_cmpB (op : Cop) (a : E) (i : Nat) (s : Sls) : evE (.cmpB op a i) s = (evE a s).bind (kCmpB op i) := by simp only [evE] <;> rfl
def kNo2 (b : Bool) (s : Sls) : Rs T := .ok (.bl (!b)) s
@[simp] theorem kNo2_ (b : Bool) (s : Sls) : kNo2 b s = .ok (.bl (!b)) s := rfl
def kNo (x : T) (s : Sls) : Rs T := (truR x s).bind kNo2
@[simp] theorem kNo_ (x : T) (s : Sls) : kNo x s = (truR x s).bind kNo2 := rfl
@[simp] theorem e_no (a : E) (s : Sls) : evE (.no a) s = (evE a s).bind kNo := by simp only [evE] <;> rfl
@[simp] theorem truR_bl (b : Bool) (s : Sls) : truR (.bl b) s = .ok b s := rfl
@[simp] theorem truR_int (i : Int) (s : Sls) : truR (.int i) s = .ok (i != 0) s := rfl
@[simp] theorem truR_tup (ts : List T) (s : Sls) : truR (.tup ts) s = .ok (!ts.isEmpty) s := rfl
@[simp] theorem truR_lst (ts : List T) (s : Sls) : truR (.lst ts) s = .ok (!ts.isEmpty) s := rfl
@[simp] theorem e_bo (ia : Bool) (es : Es) (s : Sls) : evE (.bo ia es) s = evBo ia es s := by simp only [evE]
def kBo (ia : Bool) (es : Es) (x : T) (s : Sls) : Rs T := match x with
  | .bl b => if b = ia then evBo ia es s else .ok (.bl b) s
  | _ => .bad
@[simp] theorem kBo_ (ia : Bool) (es : Es) (b : Bool) (s : Sls) : kBo ia es (.bl b) s = if b = ia then evBo ia es s else .ok (.bl b) s := rfl
@[simp] theorem bo_1 (ia : Bool) (e : E) (s : Sls) : evBo ia (.cons e .nil) s = evE e s := by simp only [evBo]
@[simp] theorem bo_2 (ia : Bool) (e f : E) (es : Es) (s : Sls) : evBo ia (.cons e (.cons f es)) s = (evE e s).bind (kBo ia (.cons f es)) := by simp only [evBo] <;> rfl
def kIte (a b : E) (k : Bool) (s : Sls) : Rs T := if k then evE a s else evE b s
@[simp] theorem kIte_ (a b : E) (k : Bool) (s : Sls) : kIte a b k s = if k then evE a s else evE b s := rfl
@[simp] theorem e_ite (c : C) (a b : E) (s : Sls) : evE (.ite c a b) s = (evC c s).bind (kIte a b) := by simp only [evE] <;> rfl
def kTup (ts : List T) (s : Sls) : Rs T := if ts.length ≤ big then .ok (.tup ts) s else .bad
theorem kTup_ (ts : List T) (s : Sls) (h : ts.length ≤ big) : kTup ts s = .ok (.tup ts) s := if_pos h
@[simp] theorem kTup0 (s : Sls) : kTup [] s = .ok (.tup []) s := rfl
@[simp] theorem kTup1 (a : T) (s : Sls) : kTup [a] s = .ok (.tup [a]) s := rfl
@[simp] theorem kTup2 (a b : T) (s : Sls) : kTup [a, b] s = .ok (.tup [a, b]) s := rfl
@[simp] theorem kTup3 (a b c : T) (s : Sls) : kTup [a, b, c] s = .ok (.tup [a, b, c]) s := rfl
@[simp] theorem kTup4 (a b c d : T) (s : Sls) : kTup [a, b, c, d] s = .ok (.tup [a, b, c, d]) s := rfl
@[simp] theorem e_tup (es : Es) (s : Sls) : evE (.tup es) s = (evEs es s).bind kTup := by simp only [evE] <;> rfl
def kEs2 (x : T) (xs : List T) (s : Sls) : Rs (List T) := .ok (x :: xs) s
def kEs (es : Es) (x : T) (s : Sls) : Rs (List T) := (evEs es s).bind (kEs2 x)
@[simp] theorem kEs2_ (x : T) (xs : List T) (s : Sls) : kEs2 x xs s = .ok (x :: xs) s := rfl
@[simp] theorem kEs_ (es : Es) (x : T) (s : Sls) : kEs es x s = (evEs es s).bind (kEs2 x) := rfl
@[simp] theorem es_nil (s : Sls) : evEs .nil s = .ok [] s := by simp only [evEs]
@[simp] theorem es_cons (e : E) (es : Es) (s : Sls) : evEs (.cons e es) s = (evE e s).bind (kEs es) := by simp only [evEs] <;> rfl
def kIdx2 (x y : T) (s : Sls) : Rs T := Rs.of (idxT x y) s
def kIdx (b : E) (x : T) (s : Sls) : Rs T := (evE b s).bind (kIdx2 x)
@[simp] theorem kIdx2_ (x y : T) (s : Sls) : kIdx2 x y s = Rs.of (idxT x y) s := rfl
@[simp] theorem kIdx_ (b : E) (x : T) (s : Sls) : kIdx b x s = (evE b s).bind (kIdx2 x) := rfl
@[simp] theorem e_idx (a b : E) (s : Sls) : evE (.idx a b) s = (evE a s).bind (kIdx b) := by simp only [evE] <;> rfl
def kIdxB (i : Nat) (y : T) (s : Sls) : Rs T := match ownAt s i with | some ts => Rs.of (idxT (.lst ts) y) s | none => .bad
@[simp] theorem kIdxB_ (i : Nat) (y : T) (s : Sls) : kIdxB i y s = (match ownAt s i with | some ts => Rs.of (idxT (.lst ts) y) s | none => .bad) := rfl
@[simp] theorem e_idxB (i : Nat) (b : E) (s : Sls) : evE (.idxB i b) s = (match ownAt s i with | some _ => (evE b s).bind (kIdxB i) | none => .bad) := by simp only [evE] <;> rfl
@[simp] theorem e_bi (b : Bi) (es : Es) (s : Sls) : evE (.bi b es) s = (evEs es s).bind (fun ts s => Rs.of (biF b ts) s) := by simp only [evE]
@[simp] theorem e_lenB (i : Nat) (s : Sls) : evE (.lenB i) s = (match ownAt s i with | some ts => .ok (.int ts.length) s | none => .bad) := by simp only [evE] <;> rfl
@[simp] theorem e_tupB (i : Nat) (s : Sls) : evE (.tupB i) s = (match ownAt s i with | some ts => .ok (.tup ts) s | none => .bad) := by simp only [evE] <;> rfl
def kIsi (ks : List Ty) (x : T) (s : Sls) : Rs T := match x with
  | .scr _ => .bad
  | .exo _ _ _ => .bad
  | _ => .ok (.bl (ks.any (isTy x))) s
@[simp] theorem e_isi (a : E) (o : Bool) (ks : List Ty) (s : Sls) : evE (.isi a o ks) s = (evE a s).bind (kIsi ks) := by simp only [evE] <;> rfl
@[simp] theorem kIsi_int (ks : List Ty) (i : Int) (s : Sls) : kIsi ks (.int i) s = .ok (.bl (ks.any (isTy (.int i)))) s := rfl
@[simp] theorem kIsi_bl (ks : List Ty) (i : Bool) (s : Sls) : kIsi ks (.bl i) s = .ok (.bl (ks.any (isTy (.bl i)))) s := rfl
@[simp] theorem kIsi_str (ks : List Ty) (i : Str) (s : Sls) : kIsi ks (.str i) s = .ok (.bl (ks.any (isTy (.str i)))) s := rfl
@[simp] theorem kIsi_tup (ks : List Ty) (i : List T) (s : Sls) : kIsi ks (.tup i) s = .ok (.bl (ks.any (isTy (.tup i)))) s := rfl
@[simp] theorem kIsi_lst (ks : List Ty) (i : List T) (s : Sls) : kIsi ks (.lst i) s = .ok (.bl (ks.any (isTy (.lst i)))) s := rfl
@[simp] theorem kIsi_non (ks : List Ty) (s : Sls) : kIsi ks .non s = .ok (.bl (ks.any (isTy .non))) s := rfl
def kFrz (ts : List T) (s : Sls) : Rs T := .ok (.lst ts) s
@[simp] theorem kFrz_ (ts : List T) (s : Sls) : kFrz ts s = .ok (.lst ts) s := rfl
@[simp] theorem e_frz (m : M) (s : Sls) : evE (.frz m) s = (evM m s).bind kFrz := by simp only [evE] <;> rfl
def kCall (g : FS) (ds : List T) (fin : Bool) (avs : List AV) (s : Sls) : Rs T := after g avs ds s fin
@[simp] theorem kCall_ (g : FS) (ds : List T) (fin : Bool) (avs : List AV) (s : Sls) : kCall g ds fin avs s = after g avs ds s fin := rfl
@[simp] theorem e_call (g : FS) (as : As) (ds : List T) (s : Sls) : evE (.call g as ds) s = if g.fresh then .bad else (evAs as s).bind (kCall g ds false) := by simp only [evE] <;> rfl
def kAs2 (x : AV) (xs : List AV) (s : Sls) : Rs (List AV) := .ok (x :: xs) s
def kAs (as : As) (x : T) (s : Sls) : Rs (List AV) := (evAs as s).bind (kAs2 (.v x))
@[simp] theorem kAs2_ (x : AV) (xs : List AV) (s : Sls) : kAs2 x xs s = .ok (x :: xs) s := rfl
@[simp] theorem kAs_ (as : As) (x : T) (s : Sls) : kAs as x s = (evAs as s).bind (kAs2 (.v x)) := rfl
@[simp] theorem as_nil (s : Sls) : evAs .nil s = .ok [] s := by simp only [evAs]
@[simp] theorem as_e (e : E) (as : As) (s : Sls) : evAs (.e e as) s = (evE e s).bind (kAs as) := by simp only [evAs] <;> rfl
@[simp] theorem as_b (i : Nat) (as : As) (s : Sls) : evAs (.b i as) s = (match ownAt s i with | some _ => (evAs as s).bind (kAs2 (.r i)) | none => .bad) := by simp only [evAs] <;> rfl
/-- a call by values alone -/
@[simp] theorem after_v (g : FS) (hm : g.mu = none) (ts ds : List T) (s : Sls) (fin : Bool) : after g (ts.map .v) ds s fin = (match g.sem (ts ++ ds) with
    | .ok t _ => .ok t s
    | .ex c ns es _ => .ex c ns es s
    | .bad => .bad) := by
  have hf : fill (ts.map .v) s = some ts := by
    induction ts with
    | nil => rfl
    | cons t r ih => simp [fill, ih]
  have hl : ∀ k, lent (ts.map .v) k none = [] := by
    induction ts with
    | nil => intro k; rfl
    | cons t r ih =>
      intro k
      have : fill (r.map .v) s = some r := by
        clear ih hf
        induction r with
        | nil => rfl
        | cons t r ih => simp [fill, ih]
      simp [lent, ih this]
  unfold after
  rw [hf, hm]
  simp only [muAt, hl, hasMi, Bool.false_eq_true, if_false, retOk, excOk, List.isEmpty_nil, Bool.true_or, if_true, putMi] <;> rfl
/-! conditions -/
@[simp] theorem c_e (e : E) (s : Sls) : evC (.e e) s = (evE e s).bind truR := by simp only [evC]
def kCC2 (op : Cop) (x y : T) (s : Sls) : Rs Bool := isB (cop op x y) s
def kCC (op : Cop) (b : E) (x : T) (s : Sls) : Rs Bool := (evE b s).bind (kCC2 op x)
@[simp] theorem kCC2_ (op : Cop) (x y : T) (s : Sls) : kCC2 op x y s = isB (cop op x y) s := rfl
@[simp] theorem kCC_ (op : Cop) (b : E) (x : T) (s : Sls) : kCC op b x s = (evE b s).bind (kCC2 op x) := rfl
@[simp] theorem c_cmp (op : Cop) (a b : E) (s : Sls) : evC (.cmp op a b) s = (evE a s).bind (kCC op b) := by simp only [evC] <;> rfl
def kCCB (op : Cop) (i : Nat) (x : T) (s : Sls) : Rs Bool := match ownAt s i with | some ts => isB (cop op x (.lst ts)) s | none => .bad
@[simp] theorem kCCB_ (op : Cop) (i : Nat) (x : T) (s : Sls) : kCCB op i x s = (match ownAt s i with | some ts => isB (cop op x (.lst ts)) s | none => .bad) := rfl
@[simp] theorem c_cmpB (op : Cop) (a : E) (i : Nat) (s : Sls) : evC (.cmpB op a i) s = (evE a s).bind (kCCB op i) := by simp only [evC] <;> rfl
@[simp] theorem isB_some (b : Bool) (s : Sls) : isB (some (.bl b)) s = .ok b s := rfl
def kNoC (b : Bool) (s : Sls) : Rs Bool := .ok (!b) s
@[simp] theorem kNoC_ (b : Bool) (s : Sls) : kNoC b s = .ok (!b) s := rfl
@[simp] theorem c_no (c : C) (s : Sls) : evC (.no c) s = (evC c s).bind kNoC := by simp only [evC] <;> rfl
@[simp] theorem c_bo (ia : Bool) (cs : Cs) (s : Sls) : evC (.bo ia cs) s = evCs ia cs s := by simp only [evC]
def kCs (ia : Bool) (cs : Cs) (b : Bool) (s : Sls) : Rs Bool := if b = ia then evCs ia cs s else .ok b s
@[simp] theorem kCs_ (ia : Bool) (cs : Cs) (b : Bool) (s : Sls) : kCs ia cs b s = if b = ia then evCs ia cs s else .ok b s := rfl
@[simp] theorem cs_1 (ia : Bool) (c : C) (s : Sls) : evCs ia (.cons c .nil) s = evC c s := by simp only [evCs]
@[simp] theorem cs_2 (ia : Bool) (c d : C) (cs : Cs) (s : Sls) : evCs ia (.cons c (.cons d cs)) s = (evC c s).bind (kCs ia (.cons d cs)) := by simp only [evCs] <;> rfl
@[simp] theorem c_trB (i : Nat) (s : Sls) : evC (.trB i) s = (match ownAt s i with | some ts => .ok (!ts.isEmpty) s | none => .bad) := by simp only [evC] <;> rfl
/-! statements -/
@[simp] theorem ss_nil_ (s : Sls) : evSs [] s = .nx s := by simp only [evSs]
@[simp] theorem ss_cons_ (x : S) (xs : List S) (s : Sls) : evSs (x :: xs) s = (evS x s).then (evSs xs) := by simp only [evSs]
def kAsg (g : Tg) (t : T) (s : Sls) : SO := match setTg g t s with | some s => .nx s | none => .bad
@[simp] theorem kAsg_ (g : Tg) (t : T) (s : Sls) : kAsg g t s = (match setTg g t s with | some s => .nx s | none => .bad) := rfl
@[simp] theorem s_asg_ (g : Tg) (e : E) (s : Sls) : evS (.asg g e) s = (evE e s).so (kAsg g) := by simp only [evS] <;> rfl
def kAsgM (i : Nat) (ts : List T) (s : Sls) : SO := if isMp s i then .bad else .nx (s.set i (.mu ts))
@[simp] theorem kAsgM_ (i : Nat) (ts : List T) (s : Sls) : kAsgM i ts s = if isMp s i then .bad else .nx (s.set i (.mu ts)) := rfl
@[simp] theorem s_asgM_ (i : Nat) (m : M) (s : Sls) : evS (.asgM i m) s = (evM m s).so (kAsgM i) := by simp only [evS] <;> rfl
@[simp] theorem s_ret_ (e : E) (s : Sls) : evS (.ret e) s = (evE e s).so SO.ret := by simp only [evS]
@[simp] theorem s_retM_ (m : M) (s : Sls) : evS (.retM m) s = (evM m s).so SO.retF := by simp only [evS]
@[simp] theorem s_retN_ (s : Sls) : evS .retN s = .ret .non s := by simp only [evS]
@[simp] theorem s_pass_ (s : Sls) : evS .pass s = .nx s := by simp only [evS]
@[simp] theorem s_brk_ (s : Sls) : evS .brk s = .brk s := by simp only [evS]
@[simp] theorem s_cnt_ (s : Sls) : evS .cnt s = .cnt s := by simp only [evS]
def kIf (a b : List S) (k : Bool) (s : Sls) : SO := if k then evSs a s else evSs b s
@[simp] theorem kIf_ (a b : List S) (k : Bool) (s : Sls) : kIf a b k s = if k then evSs a s else evSs b s := rfl
@[simp] theorem s_if_ (c : C) (a b : List S) (s : Sls) : evS (.ifS c a b) s = (evC c s).so (kIf a b) := by simp only [evS] <;> rfl
def kFor (g : Tg) (b : List S) (xs : List T) (s : Sls) : SO := forL g (evSs b) xs s
@[simp] theorem kFor_ (g : Tg) (b : List S) (xs : List T) (s : Sls) : kFor g b xs s = forL g (evSs b) xs s := rfl
@[simp] theorem s_for_ (g : Tg) (it : It) (b : List S) (s : Sls) : evS (.forS g it b) s = (evIt it s).so (kFor g b) := by simp only [evS] <;> rfl
@[simp] theorem s_whl_ (n : Nat) (c : C) (b : List S) (s : Sls) : evS (.whl n c b) s = whileL (evC c) (evSs b) n s := by simp only [evS]
def kRai (c : Str) (np : Nat) (sel : List (Str × Nat)) (ts : List T) (s : Sls) : SO := if ts.length = np then (match selV sel ts with | some us => .ex c (sel.map (·.1)) us s | none => .bad) else .bad
@[simp] theorem kRai_ (c : Str) (np : Nat) (sel : List (Str × Nat)) (ts : List T) (s : Sls) : kRai c np sel ts s = if ts.length = np then (match selV sel ts with | some us => .ex c (sel.map (·.1)) us s | none => .bad) else .bad := rfl
@[simp] theorem s_rai_ (c : Str) (np : Nat) (sel : List (Str × Nat)) (es : Es) (s : Sls) : evS (.rai c np sel es) s = (evEs es s).so (kRai c np sel) := by simp only [evS] <;> rfl
def kApp (i : Nat) (t : T) (s : Sls) : SO := match ownAt s i with
      | some ts => if ts.length < big then .nx (putOwn s i (ts ++ [t])) else .bad
      | none => .bad
@[simp] theorem kApp_ (i : Nat) (t : T) (s : Sls) : kApp i t s = (match ownAt s i with
      | some ts => if ts.length < big then .nx (putOwn s i (ts ++ [t])) else .bad
      | none => .bad) := rfl
@[simp] theorem s_app_ (i : Nat) (e : E) (s : Sls) : evS (.app i e) s = (match ownAt s i with | some _ => (evE e s).so (kApp i) | none => .bad) := by simp only [evS] <;> rfl
/-! items -/
theorem ixN_lit {n : Nat} {i : Int} (h0 : 0 ≤ i) (h1 : i < n) : ixN n i = some i.toNat := by
  unfold ixN
  rw [if_pos h0, if_pos h1]
@[simp] theorem atI_0 (x : T) (xs : List T) : atI (x :: xs) 0 = some x := by
  unfold atI
  rw [ixN_lit (by omega) (by simp only [List.length_cons]; omega)]
  rfl
@[simp] theorem atI_1 (x y : T) (xs : List T) : atI (x :: y :: xs) 1 = some y := by
  unfold atI
  rw [ixN_lit (by omega) (by simp only [List.length_cons]; omega)]
  rfl
@[simp] theorem atI_2 (x y z : T) (xs : List T) : atI (x :: y :: z :: xs) 2 = some z := by
  unfold atI
  rw [ixN_lit (by omega) (by simp only [List.length_cons]; omega)]
  rfl
@[simp] theorem atI_3 (x y z w : T) (xs : List T) : atI (x :: y :: z :: w :: xs) 3 = some w := by
  unfold atI
  rw [ixN_lit (by omega) (by simp only [List.length_cons]; omega)]
  rfl
@[simp] theorem idx_tup (ts : List T) (i : Int) : idxT (.tup ts) (.int i) = atI ts i := rfl
@[simp] theorem idx_lst (ts : List T) (i : Int) : idxT (.lst ts) (.int i) = atI ts i := rfl
/-! operators -/
@[simp] theorem b_add (i j : Int) : bop .add (.int i) (.int j) = some (.int (i + j)) := rfl
@[simp] theorem b_sub (i j : Int) : bop .sub (.int i) (.int j) = some (.int (i - j)) := rfl
theorem b_mul (i j : Int) (h : MulOk i j = true) : bop .mul (.int i) (.int j) = some (.int (i * j)) := if_pos h
theorem b_fdiv (i j : Int) (h : j ≠ 0) (h2 : j.natAbs.log2 < 9000) : bop .fdiv (.int i) (.int j) = some (.int (i.fdiv j)) := if_pos ⟨h, h2⟩
theorem b_mod (i j : Int) (h : j ≠ 0) : bop .mod (.int i) (.int j) = some (.int (i.fmod j)) := if_pos h
@[simp] theorem c_lt (i j : Int) : cop .lt (.int i) (.int j) = some (.bl (decide (i < j))) := rfl
@[simp] theorem c_le (i j : Int) : cop .le (.int i) (.int j) = some (.bl (decide (i ≤ j))) := rfl
@[simp] theorem c_gt (i j : Int) : cop .gt (.int i) (.int j) = some (.bl (decide (j < i))) := rfl
@[simp] theorem c_ge (i j : Int) : cop .ge (.int i) (.int j) = some (.bl (decide (j ≤ i))) := rfl
@[simp] theorem c_eqI (i j : Int) : cop .eq (.int i) (.int j) = some (.bl (i == j)) := rfl
@[simp] theorem c_neI (i j : Int) : cop .ne (.int i) (.int j) = some (.bl (!(i == j))) := rfl
end FL

/-! FS2: more steps: try, lists that are changed, loops, iterables. -/
namespace FL
open PySem L2
def kTry (yes no : List Str) (x : Option Nat) (h : List S) : SO → SO
  | .ex c ns ts s1 => if yes.contains c then (match x with
        | none => noEx (evSs h s1)
        | some i => if isMp s1 i then .bad else leaveX i (evSs h (s1.set i (.xc c ns ts)))) else if no.contains c then .ex c ns ts s1 else .bad
  | r => r
@[simp] theorem s_try_ (b : List S) (yes no : List Str) (x : Option Nat) (h : List S) (s : Sls) : evS (.tryS b yes no x h) s = kTry yes no x h (evSs b s) := by
  simp only [evS]
  cases evSs b s <;> rfl
@[simp] theorem kTry_nx (yes no : List Str) (x : Option Nat) (h : List S) (s : Sls) : kTry yes no x h (.nx s) = .nx s := rfl
@[simp] theorem kTry_ret (yes no : List Str) (x : Option Nat) (h : List S) (t : T) (s : Sls) : kTry yes no x h (.ret t s) = .ret t s := rfl
@[simp] theorem kTry_ex (yes no : List Str) (i : Nat) (h : List S) (c : Str) (ns : List Str) (ts : List T) (s1 : Sls) (hy : yes.contains c = true) (hm : isMp s1 i = false) : kTry yes no (some i) h (.ex c ns ts s1) = leaveX i (evSs h (s1.set i (.xc c ns ts))) := by
  unfold kTry
  simp only [hy, if_true, hm, Bool.false_eq_true, if_false]
@[simp] theorem leaveX_ret (i : Nat) (t : T) (s : Sls) (h : noXc (s.set i .un) = true) : leaveX i (.ret t s) = .ret t (s.set i .un) := if_pos h
@[simp] theorem leaveX_nx (i : Nat) (s : Sls) (h : noXc (s.set i .un) = true) : leaveX i (.nx s) = .nx (s.set i .un) := if_pos h
theorem e_exf (i : Nat) (f : Str) (cs : List Str) (s : Sls) : evE (.exf i f cs) s = (match s[i]? with
    | some (.xc c ns ts) => if cs.contains c then Rs.of (fldT f ns ts) s else .bad
    | _ => .bad) := by simp only [evE] <;> rfl
def kDisp (ts : List T) (s : Sls) : Rs (List T) := if ts.length ≤ big then .ok ts s else .bad
theorem kDisp_ (ts : List T) (s : Sls) (h : ts.length ≤ big) : kDisp ts s = .ok ts s := if_pos h
@[simp] theorem m_disp (es : Es) (s : Sls) : evM (.disp es) s = (evEs es s).bind kDisp := by simp only [evM] <;> rfl
def kCat2 (x y : T) (s : Sls) : Rs (List T) := match x, y with
    | .lst xs, .lst ys => if xs.length + ys.length ≤ big then .ok (xs ++ ys) s else .bad
    | _, _ => .bad
def kCat (b : E) (x : T) (s : Sls) : Rs (List T) := (evE b s).bind (kCat2 x)
@[simp] theorem kCat_ (b : E) (x : T) (s : Sls) : kCat b x s = (evE b s).bind (kCat2 x) := rfl
@[simp] theorem kCat2_ (xs ys : List T) (s : Sls) : kCat2 (.lst xs) (.lst ys) s = if xs.length + ys.length ≤ big then .ok (xs ++ ys) s else .bad := rfl
@[simp] theorem m_cat (a b : E) (s : Sls) : evM (.cat a b) s = (evE a s).bind (kCat b) := by simp only [evM] <;> rfl
@[simp] theorem m_lstB (i : Nat) (s : Sls) : evM (.lstB i) s = Rs.of (ownAt s i) s := by simp only [evM]
@[simp] theorem m_call (g : FS) (as : As) (ds : List T) (s : Sls) : evM (.call g as ds) s = if g.fresh then (evAs as s).bind fun avs s => (after g avs ds s true).bind fun t s => match t with
    | .lst ts => .ok ts s
    | _ => .bad else .bad := by simp only [evM] <;> rfl
def kSeq (x : T) (s : Sls) : Rs (List T) := match x with
    | .str z => .ok (signs z) s
    | _ => Rs.of (items x) s
@[simp] theorem kSeq_lst (ts : List T) (s : Sls) : kSeq (.lst ts) s = .ok ts s := rfl
@[simp] theorem kSeq_tup (ts : List T) (s : Sls) : kSeq (.tup ts) s = .ok ts s := rfl
@[simp] theorem kSeq_scr (ts : List T) (s : Sls) : kSeq (.scr ts) s = .ok ts s := rfl
@[simp] theorem kSeq_str (z : Str) (s : Sls) : kSeq (.str z) s = .ok (signs z) s := rfl
@[simp] theorem i_seq_ (e : E) (s : Sls) : evIt (.seq e) s = (evE e s).bind kSeq := by simp only [evIt] <;> rfl
def kRng (x : T) (s : Sls) : Rs (List T) := match x with
    | .int j => if -(2 ^ 62) ≤ j ∧ j < 2 ^ 62 then .ok ((List.range j.toNat).map fun k => .int (k : Nat)) s else .bad
    | _ => .bad
theorem kRng_ (j : Int) (s : Sls) (h : -(2 ^ 62) ≤ j ∧ j < 2 ^ 62) : kRng (.int j) s = .ok ((List.range j.toNat).map fun k => .int (k : Nat)) s := if_pos h
@[simp] theorem i_rng_ (e : E) (s : Sls) : evIt (.rng1 e) s = (evE e s).bind kRng := by simp only [evIt] <;> rfl
def kSetI2 (i : Nat) (t x : T) (s : Sls) : SO := match ownAt s i, x with
      | some ts, .int j => (match ixN ts.length j with | some n => .nx (putOwn s i (ts.set n t)) | none => .bad)
      | _, _ => .bad
def kSetI (i : Nat) (k : E) (t : T) (s : Sls) : SO := match ownAt s i with
    | some _ => (evE k s).so (kSetI2 i t)
    | none => .bad
@[simp] theorem kSetI2_ (i : Nat) (t : T) (j : Int) (s : Sls) : kSetI2 i t (.int j) s = (match ownAt s i with
      | some ts => (match ixN ts.length j with | some n => .nx (putOwn s i (ts.set n t)) | none => .bad)
      | none => .bad) := by
  unfold kSetI2
  cases ownAt s i <;> rfl
@[simp] theorem kSetI_ (i : Nat) (k : E) (t : T) (s : Sls) : kSetI i k t s = (match ownAt s i with
    | some _ => (evE k s).so (kSetI2 i t)
    | none => .bad) := rfl
@[simp] theorem s_setI_ (i : Nat) (k e : E) (s : Sls) : evS (.setI i k e) s = (evE e s).so (kSetI i k) := by simp only [evS] <;> rfl
@[simp] theorem s_expr_ (e : E) (s : Sls) : evS (.expr e) s = (evE e s).so fun _ s => .nx s := by simp only [evS]
/-- a call that changes its first argument -/
theorem after_r0 {g : FS} (hm : g.mu = some 0) {i : Nat} {ts : List T} {vs : List T} {s : Sls} {t : T} {o : List T} (h : ownAt s i = some ts) (e : g.sem (.lst ts :: vs) = .ok t o) : after g (.r i :: vs.map .v) [] s false = .ok t (putOwn s i o) := by
  have hf : fill (vs.map .v) s = some vs := by
    induction vs with
    | nil => rfl
    | cons t r ih => 
      have : ∀ vs : List T, fill (vs.map .v) s = some vs := fun vs => by
        induction vs with
        | nil => rfl
        | cons t r ih => simp [fill, ih]
      exact this _
  have hl : ∀ (vs : List T) k, lent (vs.map .v) k (some 0) = [] := fun vs => by
    induction vs with
    | nil => intro k; rfl
    | cons t r ih => intro k; simp [lent, ih]
  unfold after
  simp only [fill, h, hf, hm, Option.map_some, muAt, List.getElem?_cons_zero, lent, if_true, hl, hasMi, List.contains_nil, Bool.false_eq_true, if_false, List.append_nil, e, retOk, List.isEmpty_nil, Bool.true_or, putMi]
theorem seq_nx {x : S} {xs : List S} {s s1 : Sls} {r : SO} (h : evS x s = .nx s1) (h2 : evSs xs s1 = r) : evSs (x :: xs) s = r := by
  rw [ss_cons_, h, then_nx, h2]
theorem seq_ret {x : S} {xs : List S} {s s1 : Sls} {t : T} (h : evS x s = .ret t s1) : evSs (x :: xs) s = .ret t s1 := by
  rw [ss_cons_, h, then_ret]
/-- a def's meaning from its body's end -/
theorem sem_ret {name : Str} {np n : Nat} {mu : Option Nat} {body : List S} {ts : List T} {s0 s1 : Sls} {t : T} {o : List T} (hl : ts.length = np) (h0 : startS mu ts 0 = some s0) (hb : evSs body (s0 ++ List.replicate n .un) = .ret t s1) (ho : outS mu s1 = some o) :
    (mkFS name np n mu false body).sem ts = .ok t o := by
  show mkSem np n mu false body ts = _
  unfold mkSem
  rw [if_pos hl, h0]
  simp only
  rw [hb]
  simp only [Bool.false_eq_true, if_false, ho]
theorem sem_retF {name : Str} {np n : Nat} {mu : Option Nat} {body : List S} {ts us : List T} {s0 s1 : Sls} {o : List T} (hl : ts.length = np) (h0 : startS mu ts 0 = some s0) (hb : evSs body (s0 ++ List.replicate n .un) = .retF us s1) (ho : outS mu s1 = some o) :
    (mkFS name np n mu true body).sem ts = .ok (.lst us) o := by
  show mkSem np n mu true body ts = _
  unfold mkSem
  rw [if_pos hl, h0]
  simp only
  rw [hb]
  simp only [if_true, ho]
theorem sem_ex {name : Str} {np n : Nat} {mu : Option Nat} {fr : Bool} {body : List S} {ts us : List T} {s0 s1 : Sls} {o : List T} {c : Str} {ns : List Str} (hl : ts.length = np) (h0 : startS mu ts 0 = some s0) (hb : evSs body (s0 ++ List.replicate n .un) = .ex c ns us s1) (ho : outS mu s1 = some o) :
    (mkFS name np n mu fr body).sem ts = .ex c ns us o := by
  show mkSem np n mu fr body ts = _
  unfold mkSem
  rw [if_pos hl, h0]
  simp only
  rw [hb]
  simp only [ho]
theorem seq_ex {x : S} {xs : List S} {s s1 : Sls} {c : Str} {ns : List Str} {ts : List T} (h : evS x s = .ex c ns ts s1) : evSs (x :: xs) s = .ex c ns ts s1 := by
  rw [ss_cons_, h, then_ex]
theorem forL_step {g : Tg} {body : Sls → SO} {x : T} {xs : List T} {s s1 s2 : Sls} (h1 : setTg g x s = some s1) (h2 : body s1 = .nx s2) : forL g body (x :: xs) s = forL g body xs s2 := by
  rw [forL, h1]
  simp only
  rw [h2]
theorem forL_ret {g : Tg} {body : Sls → SO} {x : T} {xs : List T} {s s1 s2 : Sls} {t : T} (h1 : setTg g x s = some s1) (h2 : body s1 = .ret t s2) : forL g body (x :: xs) s = .ret t s2 := by
  rw [forL, h1]
  simp only
  rw [h2]
theorem forL_nil {g : Tg} {body : Sls → SO} {s : Sls} : forL g body [] s = .nx s := by rw [forL]
end FL

/-! FS3: comprehensions, loops, picks: what every plain law uses. -/
namespace FL
open PySem L2
theorem step_ {x : S} {xs : List S} {s s1 : Sls} (h : evS x s = .nx s1) : evSs (x :: xs) s = evSs xs s1 := by
  rw [ss_cons_, h, then_nx]
theorem seq_retF {x : S} {xs : List S} {s s1 : Sls} {t : List T} (h : evS x s = .retF t s1) : evSs (x :: xs) s = .retF t s1 := by
  rw [ss_cons_, h, then_retF]
theorem setTg_nm (i : Nat) (t : T) (s : Sls) : setTg (.nm i) t s = if isMp s i then none else some (s.set i (.im t)) := by simp only [setTg]
theorem setTg_tup (gs : List Tg) (ts : List T) (s : Sls) : setTg (.tp gs) (.tup ts) s = setTgs gs ts s := by simp only [setTg]
theorem setTg_lst (gs : List Tg) (ts : List T) (s : Sls) : setTg (.tp gs) (.lst ts) s = setTgs gs ts s := by simp only [setTg]
/-- a call by values -/
theorem callV {g : FS} (hm : g.mu = none) {ts : List T} {avs : List AV} (e : avs = ts.map .v) {t : T} {o : List T} (h : g.sem ts = .ok t o) (s : Sls) (fin : Bool) : after g avs [] s fin = .ok t s := by
  subst e
  rw [after_v g hm, List.append_nil, h]
theorem callVd {g : FS} (hm : g.mu = none) {ts ds : List T} {avs : List AV} (e : avs = ts.map .v) {t : T} {o : List T} (h : g.sem (ts ++ ds) = .ok t o) (s : Sls) (fin : Bool) : after g avs ds s fin = .ok t s := by
  subst e
  rw [after_v g hm, h]
theorem callE {g : FS} (hm : g.mu = none) {ts ds : List T} {avs : List AV} (e : avs = ts.map .v) {c : Str} {ns : List Str} {es o : List T} (h : g.sem (ts ++ ds) = .ex c ns es o) (s : Sls) (fin : Bool) : after g avs ds s fin = .ex c ns es s := by
  subst e
  rw [after_v g hm, h]
/-- a call by a slot's own list, which it only reads -/
theorem callB {g : FS} (hm : g.mu = none) {i : Nat} {ts : List T} {s : Sls} {t : T} {o : List T} (h : ownAt s i = some ts) (e : g.sem [.lst ts] = .ok t o) (hn : noL t = true) (ho : noLs o = true) : after g [.r i] [] s false = .ok t s := by
  unfold after
  simp only [fill, h, hm, Option.map_some, muAt, lent, reduceCtorEq, if_false, hasMi, Bool.false_eq_true, List.append_nil, e, retOk, ho, hn, Bool.and_self, Bool.or_true, if_true, putMi]
/-! ### comprehensions -/
theorem compMap {own : List Nat} {s0 s : Sls} {g : Tg} {tst : Sls → Rs Bool} {elt : Sls → Rs T} {f : T → T} : ∀ (xs acc : List T), acc.length + xs.length ≤ big → (∀ x ∈ xs, ∃ s1 s2, setTg g x s = some s1 ∧ tst s1 = .ok true s1 ∧ elt s1 = .ok (f x) s2 ∧ wipeS s2 own = s) → compL own s0 g tst elt xs acc s = .ok (acc ++ xs.map f) s := by
  intro xs
  induction xs with
  | nil => intro acc h _; simp [compL]
  | cons x xs ih =>
    intro acc hl h
    obtain ⟨s1, s2, h1, h2, h3, h4⟩ := h x (by simp)
    rw [compL, h1]
    simp only [h2, h3]
    rw [if_pos (by simp at hl; omega)]
    rw [show compL.wipeS s2 own = s from h4]
    rw [ih (acc ++ [f x]) (by simp at hl ⊢; omega) (fun y hy => h y (List.mem_cons_of_mem _ hy))]
    simp
theorem comp_map {own : List Nat} {g : Tg} {it : FL.It} {elt : E} {s s0 : Sls} {xs : List T} {f : T → T} (hit : evIt it s0 = .ok xs s) (hno : noOwn s own = true) (hw : wipeS s own = s) (hb : backS s s own = s) (hl : xs.length ≤ big) (h : ∀ x ∈ xs, ∃ s1 s2, setTg g x s = some s1 ∧ evE elt s1 = .ok (f x) s2 ∧ wipeS s2 own = s) : evM (.comp own g it .nil elt) s0 = .ok (xs.map f) s := by
  simp only [evM, hit, bind_ok, hno, if_true]
  rw [hw]
  rw [compMap (f := f) xs [] (by simpa using hl) (fun x hx => by
    obtain ⟨s1, s2, h1, h2, h3⟩ := h x hx
    exact ⟨s1, s2, h1, by simp only [evTs], h2, h3⟩)]
  simp only [bind_ok, hb, List.nil_append]
/-- with a test: those that pass -/
theorem compIf {own : List Nat} {s0 s : Sls} {g : Tg} {tst : Sls → Rs Bool} {elt : Sls → Rs T} {f : T → T} {p : T → Bool} : ∀ (xs acc : List T), acc.length + xs.length ≤ big → (∀ x ∈ xs, ∃ s1 s2 s3, setTg g x s = some s1 ∧ tst s1 = .ok (p x) s2 ∧ wipeS s2 own = s ∧ (p x = true → elt s2 = .ok (f x) s3 ∧ wipeS s3 own = s)) → compL own s0 g tst elt xs acc s = .ok (acc ++ (xs.filter p).map f) s := by
  intro xs
  induction xs with
  | nil => intro acc h _; simp [compL]
  | cons x xs ih =>
    intro acc hl h
    obtain ⟨s1, s2, s3, h1, h2, h3, h4⟩ := h x (by simp)
    rw [compL, h1]
    simp only [h2]
    cases hp : p x with
    | true =>
      obtain ⟨h5, h6⟩ := h4 hp
      simp only [h5]
      rw [if_pos (by simp at hl; omega), show compL.wipeS s3 own = s from h6, ih (acc ++ [f x]) (by simp at hl ⊢; omega) (fun y hy => h y (List.mem_cons_of_mem _ hy))]
      simp [hp]
    | false =>
      simp only
      rw [show compL.wipeS s2 own = s from h3, ih acc (by simp at hl ⊢; omega) (fun y hy => h y (List.mem_cons_of_mem _ hy))]
      simp [hp]
theorem comp_if {own : List Nat} {g : Tg} {it : FL.It} {c : C} {elt : E} {s s0 : Sls} {xs : List T} {f : T → T} {p : T → Bool} (hit : evIt it s0 = .ok xs s) (hno : noOwn s own = true) (hw : wipeS s own = s) (hb : backS s s own = s) (hl : xs.length ≤ big) (h : ∀ x ∈ xs, ∃ s1 s2 s3, setTg g x s = some s1 ∧ evC c s1 = .ok (p x) s2 ∧ wipeS s2 own = s ∧ (p x = true → evE elt s2 = .ok (f x) s3 ∧ wipeS s3 own = s)) : evM (.comp own g it (.cons c .nil) elt) s0 = .ok ((xs.filter p).map f) s := by
  simp only [evM, hit, bind_ok, hno, if_true]
  rw [hw]
  rw [compIf (f := f) (p := p) xs [] (by simpa using hl) (fun x hx => by
    obtain ⟨s1, s2, s3, h1, h2, h3, h4⟩ := h x hx
    exact ⟨s1, s2, s3, h1, by simp only [evTs]; exact h2, h3, h4⟩)]
  simp only [bind_ok, hb, List.nil_append]
/-- none passes the test -/
theorem comp_none {own : List Nat} {g : Tg} {it : FL.It} {c : C} {elt : E} {s s0 : Sls} {xs : List T} (hit : evIt it s0 = .ok xs s) (hno : noOwn s own = true) (hw : wipeS s own = s) (hb : backS s s own = s) (hl : xs.length ≤ big) (h : ∀ x ∈ xs, ∃ s1 s2, setTg g x s = some s1 ∧ evC c s1 = .ok false s2 ∧ wipeS s2 own = s) : evM (.comp own g it (.cons c .nil) elt) s0 = .ok [] s := by
  have := comp_if (elt := elt) (f := fun x => x) (p := fun _ => false) hit hno hw hb hl (fun x hx => by
    obtain ⟨s1, s2, h1, h2, h3⟩ := h x hx
    exact ⟨s1, s2, s2, h1, h2, h3, fun z => by cases z⟩)
  have e : xs.filter (fun _ => false) = [] := by
    induction xs with
    | nil => rfl
    | cons _ _ ih => simp
  rw [e] at this
  exact this
/-- elements that change slots: by an invariant -/
theorem compRel {own : List Nat} {s0 : Sls} {g : Tg} {tst : Sls → Rs Bool} {elt : Sls → Rs T} {P : Sls → Prop} {Q : T → Prop} : ∀ (xs acc : List T) (s : Sls), acc.length + xs.length ≤ big → P s → (∀ s, P s → ∀ x ∈ xs, ∃ s1 s2 y, setTg g x s = some s1 ∧ tst s1 = .ok true s1 ∧ elt s1 = .ok y s2 ∧ Q y ∧ P (wipeS s2 own)) → ∃ ys s', ys.length = xs.length ∧ (∀ y ∈ ys, Q y) ∧ P s' ∧ compL own s0 g tst elt xs acc s = .ok (acc ++ ys) s' := by
  intro xs
  induction xs with
  | nil => intro acc s h hp _; exact ⟨[], s, rfl, by simp, hp, by simp [compL]⟩
  | cons x xs ih =>
    intro acc s hl hp h
    obtain ⟨s1, s2, y, h1, h2, h3, h4, h5⟩ := h s hp x (by simp)
    obtain ⟨ys, s', a1, a2, a3, a4⟩ := ih (acc ++ [y]) (wipeS s2 own) (by simp at hl ⊢; omega) h5 (fun s hs z hz => h s hs z (List.mem_cons_of_mem _ hz))
    refine ⟨y :: ys, s', by simp [a1], fun z hz => ?_, a3, ?_⟩
    · rcases List.mem_cons.mp hz with rfl | hz
      · exact h4
      · exact a2 z hz
    · rw [compL, h1]
      simp only [h2, h3]
      rw [if_pos (by simp at hl; omega)]
      refine a4.trans ?_
      simp
theorem comp_rel {own : List Nat} {g : Tg} {it : FL.It} {elt : E} {s s1 : Sls} {xs : List T} {P : Sls → Prop} {Q : T → Prop} (hit : evIt it s = .ok xs s1) (hno : noOwn s1 own = true) (hl : xs.length ≤ big) (hp : P (wipeS s1 own)) (h : ∀ s, P s → ∀ x ∈ xs, ∃ s1 s2 y, setTg g x s = some s1 ∧ evE elt s1 = .ok y s2 ∧ Q y ∧ P (wipeS s2 own)) : ∃ ys s', ys.length = xs.length ∧ (∀ y ∈ ys, Q y) ∧ P s' ∧ evM (.comp own g it .nil elt) s = .ok ys (backS s1 s' own) := by
  obtain ⟨ys, s', a1, a2, a3, a4⟩ := compRel (own := own) (s0 := s1) (g := g) (tst := evTs .nil) (elt := evE elt) (P := P) (Q := Q) xs [] (wipeS s1 own) (by simpa using hl) hp (fun s hs x hx => by
    obtain ⟨s1, s2, y, b1, b2, b3, b4⟩ := h s hs x hx
    exact ⟨s1, s2, y, b1, by simp only [evTs], b2, b3, b4⟩)
  refine ⟨ys, s', a1, a2, a3, ?_⟩
  simp only [evM, hit, bind_ok, hno, if_true]
  rw [a4]
  simp only [bind_ok, List.nil_append]
/-- a list told by what its items stand for -/
theorem list_of {α : Type} {f : α → T} {Q : α → Prop} : ∀ ys : List T, (∀ y ∈ ys, ∃ p, Q p ∧ y = f p) → ∃ ps : List α, ys = ps.map f ∧ ∀ p ∈ ps, Q p
  | [], _ => ⟨[], rfl, by simp⟩
  | y :: ys, h => by
    obtain ⟨z, hz, rfl⟩ := h y (by simp)
    obtain ⟨zs, rfl, h2⟩ := list_of ys (fun u hu => h u (List.mem_cons_of_mem _ hu))
    exact ⟨z :: zs, rfl, fun u hu => by
      rcases List.mem_cons.mp hu with rfl | hu
      · exact hz
      · exact h2 u hu⟩
/-! ### loops -/
/-- a loop whose turns keep an invariant over what has been seen -/
theorem forL_inv {g : Tg} {body : Sls → SO} {P : List T → Sls → Prop} : ∀ (xs seen : List T) (s : Sls), P seen s → (∀ pre x post s, pre ++ x :: post = seen ++ xs → P pre s → ∃ s1 s2, setTg g x s = some s1 ∧ body s1 = .nx s2 ∧ P (pre ++ [x]) s2) → ∃ s', P (seen ++ xs) s' ∧ forL g body xs s = .nx s' := by
  intro xs
  induction xs with
  | nil => intro seen s h _; exact ⟨s, by simpa using h, forL_nil⟩
  | cons x xs ih =>
    intro seen s h hs
    obtain ⟨s1, s2, h1, h2, h3⟩ := hs seen x xs s rfl h
    obtain ⟨s', a1, a2⟩ := ih (seen ++ [x]) s2 h3 (fun pre y post s e hp => hs pre y post s (by rw [e]; simp) hp)
    exact ⟨s', by simpa using a1, (forL_step h1 h2).trans a2⟩
/-- an item at an index in bounds -/
theorem atF {α : Type} {f : α → T} {xs : List α} {z : Int} (h0 : 0 ≤ z) (h1 : z < xs.length) : ∃ x ∈ xs, L2.atI (xs.map f) z = some (f x) := by
  have hn : z.toNat < xs.length := by omega
  refine ⟨xs[z.toNat], List.getElem_mem _, ?_⟩
  unfold L2.atI
  rw [ixN_lit h0 (by rw [List.length_map]; exact h1)]
  simp [hn]
theorem atN {α : Type} {f : α → T} {xs : List α} {n : Nat} (h : n < xs.length) : L2.atI (xs.map f) (n : Int) = some (f xs[n]) := by
  unfold L2.atI
  rw [ixN_lit (by omega) (by rw [List.length_map]; omega)]
  simp [h]
theorem atT {ts : List T} {n : Nat} (h : n < ts.length) : L2.atI ts (n : Int) = some ts[n] := by
  unfold L2.atI
  rw [ixN_lit (by omega) (by omega)]
  simp [h]
/-- the last item -/
theorem at_last {ts : List T} (h : ts ≠ []) : L2.atI ts (-1) = some (ts.getLast h) := by
  have hl := List.length_pos_iff.mpr h
  unfold L2.atI ixN
  rw [if_neg (by omega)]
  rw [if_pos (by omega)]
  have : ((-1 : Int) + ts.length).toNat = ts.length - 1 := by omega
  rw [this]
  show ts[ts.length - 1]? = _
  rw [List.getLast_eq_getElem, List.getElem?_eq_getElem]
/-- a slot that holds no list of its own -/
def pl : Sl → Bool
  | .un => true
  | .im _ => true
  | _ => false
theorem pl_mp {x : Sl} (h : pl x = true) : isMp [x] 0 = false := by
  cases x <;> first | rfl | cases h
theorem pl_xc {x : Sl} {r : Sls} (h : pl x = true) : noXc (x :: r) = noXc r := by
  cases x <;> first | rfl | cases h
theorem s_forB_ (g : Tg) (i : Nat) (b : List S) (s : Sls) : evS (.forB g i b) s = (match s[i]? with
    | some (.mu ts) => finB i ts (forL g (evSs b) ts (s.set i (.xc Str.empty [] [])))
    | _ => .bad) := by simp only [evS] <;> rfl
theorem s_retB_ (i : Nat) (s : Sls) : evS (.retB i) s = (match s[i]? with
    | some (.mu ts) => .retF ts (s.set i .un)
    | _ => .bad) := by simp only [evS] <;> rfl
theorem copNB (a b : Bool) : cop .notB (.bl a) (.bl b) = some (.bl (!decide (a = b))) := rfl
theorem copIB (a b : Bool) : cop .isB (.bl a) (.bl b) = some (.bl (decide (a = b))) := rfl
mutual
theorem eqT_refl : ∀ (n : Nat) (t : T), dat n t = true → eqT t t = true
  | _, .non, _ => by simp [eqT]
  | _, .bl _, _ => by simp [eqT]
  | _, .int _, _ => by simp [eqT]
  | _, .str _, _ => by simp [eqT]
  | 0, .tup ts, h => by simp [dat] at h
  | 0, .lst ts, h => by simp [dat] at h
  | n + 1, .tup ts, h => by
    simp only [eqT]
    exact eqTs_refl n ts (by simpa [dat] using h)
  | n + 1, .lst ts, h => by
    simp only [eqT]
    exact eqTs_refl n ts (by simpa [dat] using h)
  | _, .scr ts, h => (no_scr h).elim
  | _, .obj _ _ _, h => (no_obj h).elim
  | _, .exo _ _ _, h => (no_exo h).elim
theorem eqTs_refl : ∀ (n : Nat) (ts : List T), dats n ts = true → eqTs ts ts = true
  | _, [], _ => by simp [eqTs]
  | n, t :: ts, h => by
    simp only [dats, Bool.and_eq_true] at h
    simp only [eqTs, eqT_refl n t h.1, eqTs_refl n ts h.2, Bool.and_self]
end
theorem ne_self {t : T} (h : dat 60 t = true) : cop .ne t t = some (.bl false) := by
  have e := eqT_refl 60 t h
  have c : cop .ne t t = if dat 60 t && dat 60 t then some (.bl (!eqT t t)) else none := by
    cases t <;> rfl
  rw [c, h, e]
  rfl
theorem eq_self' {t : T} (h : dat 60 t = true) : cop .eq t t = some (.bl true) := by
  have e := eqT_refl 60 t h
  have c : cop .eq t t = if dat 60 t && dat 60 t then some (.bl (eqT t t)) else none := by
    cases t <;> rfl
  rw [c, h, e]
  rfl
theorem dats_map {α : Type} {f : α → T} {n : Nat} : ∀ (xs : List α), (∀ x ∈ xs, dat n (f x) = true) → dats n (xs.map f) = true
  | [], _ => by simp [dats]
  | x :: xs, h => by
    simp only [List.map_cons, dats, h x (by simp), dats_map xs (fun y hy => h y (List.mem_cons_of_mem _ hy)), Bool.and_self]
end FL

namespace KS
open PySem PySem.Spec L2 FL
abbrev ir_Lhand : List S := [.asg (.nm 1) (.bin .add (.bi .len (.cons (.var 0) (.nil))) (.cst (.int 31))),
    .asgM 2 (.disp (.nil)),
    .forS (.nm 3) (.seq (.var 0)) [.asg (.nm 1) (.bin .mod (.bi .int (.cons (.bin .add (.bin .mul (.var 1) (.cst (.int 1019))) (.bi .int (.cons (.var 3) (.nil)))) (.nil))) (.cst (.int 2147483629))),
    .app 2 (.ite (.cmp .ge (.var 3) (.cst (.int 0))) (.bi .int (.cons (.var 3) (.nil))) (.neg (.bi .int (.cons (.var 3) (.nil)))))],
    .retM (.disp (.cons (.var 2) (.cons (.cst (.int 0)) (.cons (.cst (.int 0)) (.cons (.var 1) (.nil))))))]
def f_Lhand : FS := mkFS ("_law_hand" : Str) 1 3 none true ir_Lhand
abbrev ir_Lcompare : List S := [.asg (.tp [.nm 2, .nm 3]) (.tup (.cons (.bin .mul (.idx (.var 0) (.cst (.int 0))) (.idx (.var 1) (.cst (.int 1)))) (.cons (.bin .mul (.idx (.var 1) (.cst (.int 0))) (.idx (.var 0) (.cst (.int 1)))) .nil))),
    .ret (.ite (.cmp .lt (.var 2) (.var 3)) (.neg (.cst (.int 1))) (.ite (.cmp .gt (.var 2) (.var 3)) (.cst (.int 1)) (.cst (.int 0))))]
def f_Lcompare : FS := mkFS ("_law_compare" : Str) 2 2 none false ir_Lcompare
abbrev ir_Lmixed : List S := [.asg (.nm 2) (.bin .mod (.bi .int (.cons (.bin .add (.bin .add (.bin .mul (.var 0) (.cst (.int 48271))) (.bin .mul (.var 1) (.cst (.int 7919)))) (.cst (.int 65537))) (.nil))) (.cst (.int 2147483647))),
    .asg (.nm 3) (.bin .mod (.bi .int (.cons (.bin .add (.bin .add (.bin .mul (.var 2) (.var 2)) (.bin .mul (.var 1) (.cst (.int 104729)))) (.bin .fdiv (.var 2) (.cst (.int 127)))) (.nil))) (.cst (.int 2147483629))),
    .ret (.bin .fdiv (.bi .int (.cons (.bin .mod (.bi .int (.cons (.bin .add (.bin .mul (.var 3) (.cst (.int 69621))) (.bin .fdiv (.var 2) (.cst (.int 5)))) (.nil))) (.cst (.int 2147483587))) (.nil))) (.cst (.int 16)))]
def f_Lmixed : FS := mkFS ("_law_mixed" : Str) 2 2 none false ir_Lmixed
abbrev ir_Ltake : List S := [.ifS (.bo true (.cons (.cmp .eq (.idxB 0 (.cst (.int 2))) (.cst (.int 0))) (.cons (.cmp .lt (.idxB 0 (.cst (.int 1))) (.bi .len (.cons (.idxB 0 (.cst (.int 0))) (.nil)))) (.nil)))) [.asg (.nm 2) (.idx (.idxB 0 (.cst (.int 0))) (.idxB 0 (.cst (.int 1)))),
    .setI 0 (.cst (.int 1)) (.bin .add (.idxB 0 (.cst (.int 1))) (.cst (.int 1))),
    .ifS (.cmp .lt (.var 2) (.bin .pow (.cst (.int 10)) (.cst (.int 18)))) [.ret (.bin .mod (.bi .int (.cons (.call f_Lmixed (.e (.bin .mod (.bi .int (.cons (.var 2) (.nil))) (.cst (.int 2147483647))) (.e (.idxB 0 (.cst (.int 1))) (.nil))) []) (.nil))) (.var 1))] [],
    .setI 0 (.cst (.int 2)) (.var 2)] [],
    .ifS (.cmp .gt (.idxB 0 (.cst (.int 2))) (.cst (.int 0))) [.asg (.nm 3) (.idxB 0 (.cst (.int 2))),
    .setI 0 (.cst (.int 2)) (.bin .fdiv (.bi .int (.cons (.var 3) (.nil))) (.var 1)),
    .ret (.bin .mod (.bi .int (.cons (.var 3) (.nil))) (.var 1))] [],
    .setI 0 (.cst (.int 3)) (.bin .mod (.bi .int (.cons (.bin .add (.idxB 0 (.cst (.int 3))) (.cst (.int 1))) (.nil))) (.cst (.int 2147483629))),
    .ret (.bin .mod (.bi .int (.cons (.call f_Lmixed (.e (.idxB 0 (.cst (.int 3))) (.e (.idxB 0 (.cst (.int 1))) (.nil))) []) (.nil))) (.var 1))]
def f_Ltake : FS := mkFS ("_law_take" : Str) 2 2 (some 0) false ir_Ltake
abbrev ir_Lnumber : List S := [.asg (.nm 1) (.call f_Ltake (.b 0 (.e (.cst (.int 9)) (.nil))) []),
    .ifS (.cmp .lt (.var 1) (.cst (.int 6))) [.ret (.bin .sub (.call f_Ltake (.b 0 (.e (.cst (.int 25)) (.nil))) []) (.cst (.int 12)))] [],
    .asg (.nm 2) (.cst (.int 0)),
    .forS (.nm 3) (.rng1 (.ite (.cmp .lt (.var 1) (.cst (.int 8))) (.cst (.int 1)) (.cst (.int 5)))) [.asg (.nm 2) (.bin .add (.bin .mul (.var 2) (.bin .pow (.cst (.int 10)) (.cst (.int 9)))) (.call f_Ltake (.b 0 (.e (.bin .pow (.cst (.int 10)) (.cst (.int 9))) (.nil))) []))],
    .ret (.bin .mul (.var 2) (.bin .sub (.cst (.int 1)) (.bin .mul (.cst (.int 2)) (.call f_Ltake (.b 0 (.e (.cst (.int 2)) (.nil))) []))))]
def f_Lnumber : FS := mkFS ("_law_number" : Str) 1 3 (some 0) false ir_Lnumber
abbrev ir_in_lowest : List S := [.asg (.nm 2) (.bi .gcd (.cons (.var 0) (.cons (.var 1) (.nil)))),
    .ifS (.cmp .lt (.var 1) (.cst (.int 0))) [.asg (.nm 2) (.neg (.var 2))] [],
    .ret (.tup (.cons (.bin .fdiv (.var 0) (.var 2)) (.cons (.bin .fdiv (.var 1) (.var 2)) (.nil))))]
def f_in_lowest : FS := mkFS ("in_lowest" : Str) 2 1 none false ir_in_lowest
abbrev ir_Lgcd : List S := [.asg (.tp [.nm 0, .nm 1]) (.tup (.cons (.bi .abs (.cons (.var 0) (.nil))) (.cons (.bi .abs (.cons (.var 1) (.nil))) .nil))),
    .whl (2 ^ 6000) (.e (.var 1)) [.asg (.tp [.nm 0, .nm 1]) (.tup (.cons (.var 1) (.cons (.bin .mod (.bi .int (.cons (.var 0) (.nil))) (.var 1)) .nil)))],
    .ret (.var 0)]
def f_Lgcd : FS := mkFS ("_law_gcd" : Str) 2 0 none false ir_Lgcd
abbrev ir_Lratio : List S := [.asg (.nm 2) (.call f_Lgcd (.e (.var 0) (.e (.var 1) (.nil))) []),
    .ifS (.cmp .lt (.var 1) (.cst (.int 0))) [.asg (.nm 2) (.neg (.var 2))] [],
    .ret (.tup (.cons (.bin .fdiv (.var 0) (.var 2)) (.cons (.bin .fdiv (.var 1) (.var 2)) (.nil))))]
def f_Lratio : FS := mkFS ("_law_ratio" : Str) 2 1 none false ir_Lratio
abbrev ir_Lplus : List S := [.ret (.call f_Lratio (.e (.bin .add (.bin .mul (.idx (.var 0) (.cst (.int 0))) (.idx (.var 1) (.cst (.int 1)))) (.bin .mul (.idx (.var 1) (.cst (.int 0))) (.idx (.var 0) (.cst (.int 1))))) (.e (.bin .mul (.idx (.var 0) (.cst (.int 1))) (.idx (.var 1) (.cst (.int 1)))) (.nil))) [])]
def f_Lplus : FS := mkFS ("_law_plus" : Str) 2 0 none false ir_Lplus
abbrev ir_compare : List S := [.asg (.nm 2) (.bin .mul (.idx (.var 0) (.cst (.int 0))) (.idx (.var 1) (.cst (.int 1)))),
    .asg (.nm 3) (.bin .mul (.idx (.var 1) (.cst (.int 0))) (.idx (.var 0) (.cst (.int 1)))),
    .ifS (.cmp .eq (.var 2) (.var 3)) [.ret (.cst (.int 0))] [],
    .ret (.ite (.cmp .lt (.var 2) (.var 3)) (.neg (.cst (.int 1))) (.cst (.int 1)))]
def f_compare : FS := mkFS ("compare" : Str) 2 2 none false ir_compare
abbrev ir_plus : List S := [.ret (.call f_in_lowest (.e (.bin .add (.bin .mul (.idx (.var 0) (.cst (.int 0))) (.idx (.var 1) (.cst (.int 1)))) (.bin .mul (.idx (.var 1) (.cst (.int 0))) (.idx (.var 0) (.cst (.int 1))))) (.e (.bin .mul (.idx (.var 0) (.cst (.int 1))) (.idx (.var 1) (.cst (.int 1)))) (.nil))) [])]
def f_plus : FS := mkFS ("plus" : Str) 2 0 none false ir_plus
abbrev ir_minus : List S := [.ret (.call f_in_lowest (.e (.bin .sub (.bin .mul (.idx (.var 0) (.cst (.int 0))) (.idx (.var 1) (.cst (.int 1)))) (.bin .mul (.idx (.var 1) (.cst (.int 0))) (.idx (.var 0) (.cst (.int 1))))) (.e (.bin .mul (.idx (.var 0) (.cst (.int 1))) (.idx (.var 1) (.cst (.int 1)))) (.nil))) [])]
def f_minus : FS := mkFS ("minus" : Str) 2 0 none false ir_minus
abbrev ir_Lless : List S := [.ret (.call f_Lratio (.e (.bin .sub (.bin .mul (.idx (.var 0) (.cst (.int 0))) (.idx (.var 1) (.cst (.int 1)))) (.bin .mul (.idx (.var 1) (.cst (.int 0))) (.idx (.var 0) (.cst (.int 1))))) (.e (.bin .mul (.idx (.var 0) (.cst (.int 1))) (.idx (.var 1) (.cst (.int 1)))) (.nil))) [])]
def f_Lless : FS := mkFS ("_law_less" : Str) 2 0 none false ir_Lless
abbrev ir_times : List S := [.ret (.call f_in_lowest (.e (.bin .mul (.idx (.var 0) (.cst (.int 0))) (.idx (.var 1) (.cst (.int 0)))) (.e (.bin .mul (.idx (.var 0) (.cst (.int 1))) (.idx (.var 1) (.cst (.int 1)))) (.nil))) [])]
def f_times : FS := mkFS ("times" : Str) 2 0 none false ir_times
abbrev ir_Ltimes : List S := [.ret (.call f_Lratio (.e (.bin .mul (.idx (.var 0) (.cst (.int 0))) (.idx (.var 1) (.cst (.int 0)))) (.e (.bin .mul (.idx (.var 0) (.cst (.int 1))) (.idx (.var 1) (.cst (.int 1)))) (.nil))) [])]
def f_Ltimes : FS := mkFS ("_law_times" : Str) 2 0 none false ir_Ltimes
abbrev ir_negative : List S := [.ret (.tup (.cons (.neg (.idx (.var 0) (.cst (.int 0)))) (.cons (.idx (.var 0) (.cst (.int 1))) (.nil))))]
def f_negative : FS := mkFS ("negative" : Str) 1 0 none false ir_negative
end KS

namespace KS
open PySem FL
/-! ## numbers -/
theorem log2_lt {n k : Nat} (hk : 0 < k) (h : n < 2 ^ k) : n.log2 < k := by
  by_cases hn : n = 0
  · subst hn; simpa using hk
  · exact (Nat.log2_lt hn).mpr h
theorem mul_ok {i j : Int} {k l : Nat} (hi : i.natAbs < 2 ^ k) (hj : j.natAbs < 2 ^ l) (h : k + l < 1000000) (hk : 0 < k) (hl : 0 < l) : FL.MulOk i j = true := by
  unfold FL.MulOk
  have := log2_lt hk hi
  have := log2_lt hl hj
  exact decide_eq_true (by omega)
abbrev qt (a b : Int) : T := .tup [.int a, .int b]
/-- the sign of the divisor with the gcd -/
def part (a b : Int) : Int := if b < 0 then -(Nat.gcd a.natAbs b.natAbs : Int) else (Nat.gcd a.natAbs b.natAbs : Int)
def nm (a b : Int) : T := qt (a.fdiv (part a b)) (b.fdiv (part a b))
theorem gcd_pos {a b : Int} (h : b ≠ 0) : 0 < Nat.gcd a.natAbs b.natAbs := Nat.gcd_pos_of_pos_right _ (Int.natAbs_pos.mpr h)
theorem part_ne {a b : Int} (h : b ≠ 0) : part a b ≠ 0 := by
  have := gcd_pos (a := a) h
  unfold part
  split <;> omega
theorem part_abs (a b : Int) : (part a b).natAbs = Nat.gcd a.natAbs b.natAbs := by
  unfold part
  split <;> omega
theorem part_le {a b : Int} (h : b ≠ 0) : (part a b).natAbs ≤ b.natAbs := by
  rw [part_abs]
  exact Nat.le_of_dvd (Int.natAbs_pos.mpr h) (Nat.gcd_dvd_right _ _)
theorem log2_mono {a b k : Nat} (h : a ≤ b) (hb : b < 2 ^ k) (hk : 0 < k) : a.log2 < k := log2_lt hk (Nat.lt_of_le_of_lt h hb)
theorem w_in_lowest (a b : Int) (h : b ≠ 0) (hl : b.natAbs < 2 ^ 9000) : f_in_lowest.sem [.int a, .int b] = .ok (nm a b) [] := by
  have h1 := part_ne (a := a) h
  have h2 : (part a b).natAbs.log2 < 9000 := log2_mono (part_le h) hl (by decide)
  by_cases hb : b < 0
  · have e : part a b = -(Nat.gcd a.natAbs b.natAbs : Int) := if_pos hb
    rw [e] at h1 h2
    simp [f_in_lowest, mkFS, mkSem, startS, getV, outS, biF, setTg, isMp, hb, b_fdiv _ _ h1 h2, nm, e]
  · have e : part a b = (Nat.gcd a.natAbs b.natAbs : Int) := if_neg hb
    rw [e] at h1 h2
    simp [f_in_lowest, mkFS, mkSem, startS, getV, outS, biF, setTg, isMp, hb, b_fdiv _ _ h1 h2, nm, e]
/-! ## the law's own gcd -/
theorem gcd_loop : ∀ (n : Nat) (a b : Int), 0 ≤ a → 0 ≤ b → b.natAbs < n → ∃ s, whileL (evC (.e (.var 1))) (evSs [.asg (.tp [.nm 0, .nm 1]) (.tup (.cons (.var 1) (.cons (.bin .mod (.bi .int (.cons (.var 0) .nil)) (.var 1)) .nil)))]) n [.im (.int a), .im (.int b)] = .nx s ∧ s[0]? = some (.im (.int (Nat.gcd a.natAbs b.natAbs : Nat))) := by
  intro n
  induction n with
  | zero => intro a b _ _ h; omega
  | succ n ih =>
    intro a b ha hb h
    by_cases h0 : b = 0
    · subst h0
      refine ⟨_, by unfold whileL; simp [getV]; rfl, ?_⟩
      simp; omega
    · have hm := b_mod a b h0
      obtain ⟨s, h1, h2⟩ := ih b (a.fmod b) hb (Int.fmod_nonneg ha hb) (by
        have := Int.fmod_lt_of_pos a (show 0 < b by omega)
        have := Int.fmod_nonneg ha hb
        omega)
      refine ⟨s, ?_, ?_⟩
      · unfold whileL
        simp only [c_e, e_var, getV, List.getElem?_cons_succ, List.getElem?_cons_zero, bind_ok, truR_int, so_ok]
        have : (b != 0) = true := by simpa using h0
        rw [this]
        simp [getV, biF, hm, setTg, setTgs, isMp]
        exact h1
      · rw [h2]
        have e : Nat.gcd b.natAbs (a.fmod b).natAbs = Nat.gcd a.natAbs b.natAbs := by
          have e1 : (a.fmod b).natAbs = a.natAbs % b.natAbs := by
            rw [Int.fmod_eq_emod_of_nonneg _ hb]
            have := Int.natAbs_emod_of_nonneg ha b
            omega
          rw [e1, Nat.gcd_comm a.natAbs b.natAbs, Nat.gcd_rec b.natAbs a.natAbs, Nat.gcd_comm]
        rw [e]
theorem w_Lgcd (a b : Int) (h : b.natAbs < 2 ^ 6000) : f_Lgcd.sem [.int a, .int b] = .ok (.int (Nat.gcd a.natAbs b.natAbs : Nat)) [] := by
  obtain ⟨s, h1, h2⟩ := gcd_loop (2 ^ 6000) (if a < 0 then -a else a) (if b < 0 then -b else b) (by split <;> omega) (by split <;> omega) (by split <;> omega)
  have e1 : (if a < 0 then -a else a).natAbs = a.natAbs := by split <;> omega
  have e2 : (if b < 0 then -b else b).natAbs = b.natAbs := by split <;> omega
  rw [e1, e2] at h2
  simp [f_Lgcd, mkFS, mkSem, startS, getV, outS, biF, setTg, setTgs, isMp]
  rw [h1]
  simp [getV, h2]
end KS

namespace KS
open PySem FL
abbrev tq (p : Int × Int) : T := qt p.1 p.2
def nmP (a b : Int) : Int × Int := (a.fdiv (part a b), b.fdiv (part a b))
theorem nm_tq (a b : Int) : nm a b = tq (nmP a b) := rfl
theorem part_dvd_l (a b : Int) : part a b ∣ a := by
  have h : (Nat.gcd a.natAbs b.natAbs : Int) ∣ a := Int.ofNat_dvd_left.mpr (Nat.gcd_dvd_left _ _)
  unfold part
  split
  · exact Int.neg_dvd.mpr h
  · exact h
theorem part_dvd_r (a b : Int) : part a b ∣ b := by
  have h : (Nat.gcd a.natAbs b.natAbs : Int) ∣ b := Int.ofNat_dvd_left.mpr (Nat.gcd_dvd_right _ _)
  unfold part
  split
  · exact Int.neg_dvd.mpr h
  · exact h
/-- the parts are what they are times the shared one -/
theorem nmP_l (a b : Int) : (nmP a b).1 * part a b = a := Int.fdiv_mul_cancel (part_dvd_l a b)
theorem nmP_r (a b : Int) : (nmP a b).2 * part a b = b := Int.fdiv_mul_cancel (part_dvd_r a b)
theorem nmP_pos {a b : Int} (h : b ≠ 0) : 0 < (nmP a b).2 := by
  have h1 := nmP_r a b
  have h2 := gcd_pos (a := a) h
  unfold part at h1
  split at h1
  · rename_i hb
    rcases Int.lt_trichotomy (nmP a b).2 0 with z | z | z
    · have := Int.mul_pos_of_neg_of_neg z (show -(Nat.gcd a.natAbs b.natAbs : Int) < 0 by omega)
      omega
    · rw [z] at h1; omega
    · exact z
  · rename_i hb
    rcases Int.lt_trichotomy (nmP a b).2 0 with z | z | z
    · have := Int.mul_neg_of_neg_of_pos z (show 0 < (Nat.gcd a.natAbs b.natAbs : Int) by omega)
      omega
    · rw [z] at h1; omega
    · exact z
theorem nmP_cop {a b : Int} (h : b ≠ 0) : Nat.gcd (nmP a b).1.natAbs (nmP a b).2.natAbs = 1 := by
  have h1 := congrArg Int.natAbs (nmP_l a b)
  have h2 := congrArg Int.natAbs (nmP_r a b)
  rw [Int.natAbs_mul, part_abs] at h1 h2
  have hg := gcd_pos (a := a) h
  have e : Nat.gcd ((nmP a b).1.natAbs * Nat.gcd a.natAbs b.natAbs) ((nmP a b).2.natAbs * Nat.gcd a.natAbs b.natAbs) = Nat.gcd a.natAbs b.natAbs := by rw [h1, h2]
  rw [Nat.gcd_mul_right] at e
  exact Nat.eq_of_mul_eq_mul_right hg (by omega)
theorem nmP_le {a b : Int} (h : b ≠ 0) : (nmP a b).1.natAbs ≤ a.natAbs ∧ (nmP a b).2.natAbs ≤ b.natAbs := by
  have h1 := congrArg Int.natAbs (nmP_l a b)
  have h2 := congrArg Int.natAbs (nmP_r a b)
  rw [Int.natAbs_mul, part_abs] at h1 h2
  have hg := gcd_pos (a := a) h
  exact ⟨by rw [← h1]; exact Nat.le_mul_of_pos_right _ hg, by rw [← h2]; exact Nat.le_mul_of_pos_right _ hg⟩
/-- numbers of less than k bits -/
def Bd (k : Nat) (x : Int) : Prop := x.natAbs < 2 ^ k
theorem Bd.mul {k l : Nat} {x y : Int} (h : Bd k x) (h' : Bd l y) : Bd (k + l) (x * y) := by
  unfold Bd at *
  rw [Int.natAbs_mul, Nat.pow_add]
  exact Nat.mul_lt_mul'' h h'
theorem Bd.up {k l : Nat} {x : Int} (h : Bd k x) (l' : k ≤ l) : Bd l x := Nat.lt_of_lt_of_le h (Nat.pow_le_pow_right (by decide) l')
theorem Bd.add {k : Nat} {x y : Int} (h : Bd k x) (h' : Bd k y) : Bd (k + 1) (x + y) := by
  unfold Bd at *
  rw [Nat.pow_succ]
  have := Int.natAbs_add_le x y
  omega
theorem Bd.sub {k : Nat} {x y : Int} (h : Bd k x) (h' : Bd k y) : Bd (k + 1) (x - y) := by
  unfold Bd at *
  rw [Nat.pow_succ]
  have := Int.natAbs_sub_le x y
  omega
theorem Bd.mulOk {k l : Nat} {x y : Int} (h : Bd k x) (h' : Bd l y) (a : 0 < k ∧ 0 < l ∧ k + l < 1000000) : FL.MulOk x y = true := mul_ok h h' a.2.2 a.1 a.2.1
/-- a ratio's parts -/
structure Rt (k : Nat) (p : Int × Int) : Prop where
  n : Bd k p.1
  d : Bd k p.2
  ne : p.2 ≠ 0
theorem Rt.up {k l : Nat} {p : Int × Int} (h : Rt k p) (l' : k ≤ l) : Rt l p := ⟨h.n.up l', h.d.up l', h.ne⟩
theorem Rt.nm {k : Nat} {a b : Int} (ha : Bd k a) (hb : Bd k b) (h : b ≠ 0) : Rt k (nmP a b) :=
  ⟨Nat.lt_of_le_of_lt (nmP_le h).1 ha, Nat.lt_of_le_of_lt (nmP_le h).2 hb, by have := nmP_pos (a := a) h; omega⟩
theorem w_Lratio (a b : Int) (h : b ≠ 0) (hl : b.natAbs < 2 ^ 6000) : f_Lratio.sem [.int a, .int b] = .ok (nm a b) [] := by
  have h1 := part_ne (a := a) h
  have h2 : (part a b).natAbs.log2 < 9000 := log2_mono (part_le h) (Nat.lt_of_lt_of_le hl (Nat.pow_le_pow_right (by decide) (by decide))) (by decide)
  have hg := w_Lgcd a b hl
  have ha := after_v f_Lgcd rfl [.int a, .int b] []
  simp only [List.map_cons, List.map_nil, List.cons_append, List.nil_append, hg] at ha
  by_cases hb : b < 0
  · have e : part a b = -(Nat.gcd a.natAbs b.natAbs : Int) := if_pos hb
    rw [e] at h1 h2
    simp [f_Lratio, mkFS, mkSem, startS, getV, outS, setTg, isMp, hb, b_fdiv _ _ h1 h2, nm, e, ha, show f_Lgcd.fresh = false from rfl]
  · have e : part a b = (Nat.gcd a.natAbs b.natAbs : Int) := if_neg hb
    rw [e] at h1 h2
    simp [f_Lratio, mkFS, mkSem, startS, getV, outS, setTg, isMp, hb, b_fdiv _ _ h1 h2, nm, e, ha, show f_Lgcd.fresh = false from rfl]
/-- a call by values -/
theorem call_v {g : FS} (hm : g.mu = none) {ts : List T} {avs : List AV} (e : avs = ts.map .v) {t : T} {o : List T} (h : g.sem ts = .ok t o) (s : Sls) : after g avs [] s false = .ok t s := by
  subst e
  rw [after_v g hm, List.append_nil, h]
variable {p r : Int × Int}
theorem w_plus (hp : Rt 2900 p) (hr : Rt 2900 r) : f_plus.sem [tq p, tq r] = .ok (tq (nmP (p.1 * r.2 + r.1 * p.2) (p.2 * r.2))) [] := by
  have m1 := b_mul p.1 r.2 (hp.n.mulOk hr.d (by decide))
  have m2 := b_mul r.1 p.2 (hr.n.mulOk hp.d (by decide))
  have m3 := b_mul p.2 r.2 (hp.d.mulOk hr.d (by decide))
  have hc := call_v (avs := [.v (.int (p.1 * r.2 + r.1 * p.2)), .v (.int (p.2 * r.2))]) rfl rfl (w_in_lowest (p.1 * r.2 + r.1 * p.2) (p.2 * r.2) (Int.mul_ne_zero hp.ne hr.ne) (((hp.d.mul hr.d)).up (l := 9000) (by decide)))
  simp [f_plus, mkFS, mkSem, startS, getV, outS, m1, m2, m3, hc, show f_in_lowest.fresh = false from rfl, nm_tq]
theorem w_Lplus (hp : Rt 2900 p) (hr : Rt 2900 r) : f_Lplus.sem [tq p, tq r] = .ok (tq (nmP (p.1 * r.2 + r.1 * p.2) (p.2 * r.2))) [] := by
  have m1 := b_mul p.1 r.2 (hp.n.mulOk hr.d (by decide))
  have m2 := b_mul r.1 p.2 (hr.n.mulOk hp.d (by decide))
  have m3 := b_mul p.2 r.2 (hp.d.mulOk hr.d (by decide))
  have hc := call_v (avs := [.v (.int (p.1 * r.2 + r.1 * p.2)), .v (.int (p.2 * r.2))]) rfl rfl (w_Lratio (p.1 * r.2 + r.1 * p.2) (p.2 * r.2) (Int.mul_ne_zero hp.ne hr.ne) (((hp.d.mul hr.d)).up (l := 6000) (by decide)))
  simp [f_Lplus, mkFS, mkSem, startS, getV, outS, m1, m2, m3, hc, show f_Lratio.fresh = false from rfl, nm_tq]
theorem w_minus (hp : Rt 2900 p) (hr : Rt 2900 r) : f_minus.sem [tq p, tq r] = .ok (tq (nmP (p.1 * r.2 - r.1 * p.2) (p.2 * r.2))) [] := by
  have m1 := b_mul p.1 r.2 (hp.n.mulOk hr.d (by decide))
  have m2 := b_mul r.1 p.2 (hr.n.mulOk hp.d (by decide))
  have m3 := b_mul p.2 r.2 (hp.d.mulOk hr.d (by decide))
  have hc := call_v (avs := [.v (.int (p.1 * r.2 - r.1 * p.2)), .v (.int (p.2 * r.2))]) rfl rfl (w_in_lowest (p.1 * r.2 - r.1 * p.2) (p.2 * r.2) (Int.mul_ne_zero hp.ne hr.ne) (((hp.d.mul hr.d)).up (l := 9000) (by decide)))
  simp [f_minus, mkFS, mkSem, startS, getV, outS, m1, m2, m3, hc, show f_in_lowest.fresh = false from rfl, nm_tq]
theorem w_Lless (hp : Rt 2900 p) (hr : Rt 2900 r) : f_Lless.sem [tq p, tq r] = .ok (tq (nmP (p.1 * r.2 - r.1 * p.2) (p.2 * r.2))) [] := by
  have m1 := b_mul p.1 r.2 (hp.n.mulOk hr.d (by decide))
  have m2 := b_mul r.1 p.2 (hr.n.mulOk hp.d (by decide))
  have m3 := b_mul p.2 r.2 (hp.d.mulOk hr.d (by decide))
  have hc := call_v (avs := [.v (.int (p.1 * r.2 - r.1 * p.2)), .v (.int (p.2 * r.2))]) rfl rfl (w_Lratio (p.1 * r.2 - r.1 * p.2) (p.2 * r.2) (Int.mul_ne_zero hp.ne hr.ne) (((hp.d.mul hr.d)).up (l := 6000) (by decide)))
  simp [f_Lless, mkFS, mkSem, startS, getV, outS, m1, m2, m3, hc, show f_Lratio.fresh = false from rfl, nm_tq]
theorem w_times (hp : Rt 2900 p) (hr : Rt 2900 r) : f_times.sem [tq p, tq r] = .ok (tq (nmP (p.1 * r.1) (p.2 * r.2))) [] := by
  have m1 := b_mul p.1 r.1 (hp.n.mulOk hr.n (by decide))
  have m3 := b_mul p.2 r.2 (hp.d.mulOk hr.d (by decide))
  have hc := call_v (avs := [.v (.int (p.1 * r.1)), .v (.int (p.2 * r.2))]) rfl rfl (w_in_lowest (p.1 * r.1) (p.2 * r.2) (Int.mul_ne_zero hp.ne hr.ne) (((hp.d.mul hr.d)).up (l := 9000) (by decide)))
  simp [f_times, mkFS, mkSem, startS, getV, outS, m1, m3, hc, show f_in_lowest.fresh = false from rfl, nm_tq]
theorem w_Ltimes (hp : Rt 2900 p) (hr : Rt 2900 r) : f_Ltimes.sem [tq p, tq r] = .ok (tq (nmP (p.1 * r.1) (p.2 * r.2))) [] := by
  have m1 := b_mul p.1 r.1 (hp.n.mulOk hr.n (by decide))
  have m3 := b_mul p.2 r.2 (hp.d.mulOk hr.d (by decide))
  have hc := call_v (avs := [.v (.int (p.1 * r.1)), .v (.int (p.2 * r.2))]) rfl rfl (w_Lratio (p.1 * r.1) (p.2 * r.2) (Int.mul_ne_zero hp.ne hr.ne) (((hp.d.mul hr.d)).up (l := 6000) (by decide)))
  simp [f_Ltimes, mkFS, mkSem, startS, getV, outS, m1, m3, hc, show f_Lratio.fresh = false from rfl, nm_tq]
theorem w_negative : f_negative.sem [tq p] = .ok (tq (-p.1, p.2)) [] := by
  simp [f_negative, mkFS, mkSem, startS, getV, outS]
def cmpP (p r : Int × Int) : Int := if p.1 * r.2 < r.1 * p.2 then -1 else if r.1 * p.2 < p.1 * r.2 then 1 else 0
theorem w_compare (hp : Rt 2900 p) (hr : Rt 2900 r) : f_compare.sem [tq p, tq r] = .ok (.int (cmpP p r)) [] := by
  have m1 := b_mul p.1 r.2 (hp.n.mulOk hr.d (by decide))
  have m2 := b_mul r.1 p.2 (hr.n.mulOk hp.d (by decide))
  unfold cmpP
  by_cases h1 : p.1 * r.2 = r.1 * p.2
  · simp [f_compare, mkFS, mkSem, startS, getV, outS, m1, m2, setTg, isMp, h1]
  · by_cases h2 : p.1 * r.2 < r.1 * p.2
    · simp [f_compare, mkFS, mkSem, startS, getV, outS, m1, m2, setTg, isMp, h1, h2]
    · have h3 : r.1 * p.2 < p.1 * r.2 := by omega
      simp [f_compare, mkFS, mkSem, startS, getV, outS, m1, m2, setTg, isMp, h1, h2, h3]
theorem w_Lcompare (hp : Rt 2900 p) (hr : Rt 2900 r) : f_Lcompare.sem [tq p, tq r] = .ok (.int (cmpP p r)) [] := by
  have m1 := b_mul p.1 r.2 (hp.n.mulOk hr.d (by decide))
  have m2 := b_mul r.1 p.2 (hr.n.mulOk hp.d (by decide))
  unfold cmpP
  by_cases h2 : p.1 * r.2 < r.1 * p.2
  · simp [f_Lcompare, mkFS, mkSem, startS, getV, outS, m1, m2, setTg, setTgs, isMp, h2]
  · by_cases h3 : r.1 * p.2 < p.1 * r.2
    · simp [f_Lcompare, mkFS, mkSem, startS, getV, outS, m1, m2, setTg, setTgs, isMp, h2, h3]
    · simp [f_Lcompare, mkFS, mkSem, startS, getV, outS, m1, m2, setTg, setTgs, isMp, h2, h3]
end KS

namespace KS
open PySem FL
/-! ## the script's hand -/
theorem mulS {x y : Int} (hx : x.natAbs < 2 ^ 60) (hy : y.natAbs < 2 ^ 60) : FL.MulOk x y = true := mul_ok hx hy (by decide) (by decide) (by decide)
theorem fdiv_nn {a b : Int} (ha : 0 ≤ a) (hb : 0 < b) : 0 ≤ a.fdiv b ∧ a.fdiv b ≤ a := by
  rw [Int.fdiv_eq_ediv_of_nonneg _ (by omega)]
  exact ⟨Int.ediv_nonneg ha (by omega), Int.ediv_le_self _ ha⟩
theorem fmod_nn {a b : Int} (hb : 0 < b) : 0 ≤ a.fmod b ∧ a.fmod b < b := ⟨by rw [Int.fmod_eq_emod_of_nonneg _ (by omega)]; exact Int.emod_nonneg _ (by omega), Int.fmod_lt_of_pos _ hb⟩
theorem w_Lmixed (a b : Int) (ha : 0 ≤ a ∧ a < 2 ^ 40) (hb : 0 ≤ b ∧ b < 2 ^ 20) : ∃ z, 0 ≤ z ∧ f_Lmixed.sem [.int a, .int b] = .ok (.int z) [] := by
  have m1 := b_mul a 48271 (mulS (by omega) (by decide))
  have m2 := b_mul b 7919 (mulS (by omega) (by decide))
  have q1 := b_mod (a * 48271 + b * 7919 + 65537) 2147483647 (by decide)
  obtain ⟨o1, o2⟩ := fmod_nn (a := a * 48271 + b * 7919 + 65537) (b := 2147483647) (by decide)
  generalize (a * 48271 + b * 7919 + 65537).fmod 2147483647 = o at q1 o1 o2
  have m3 := b_mul o o (mulS (by omega) (by omega))
  have m4 := b_mul b 104729 (mulS (by omega) (by decide))
  have d1 := b_fdiv o 127 (by decide) (by decide)
  have q2 := b_mod (o * o + b * 104729 + o.fdiv 127) 2147483629 (by decide)
  obtain ⟨t1, t2⟩ := fmod_nn (a := o * o + b * 104729 + o.fdiv 127) (b := 2147483629) (by decide)
  generalize (o * o + b * 104729 + o.fdiv 127).fmod 2147483629 = t at q2 t1 t2
  have m5 := b_mul t 69621 (mulS (by omega) (by decide))
  have d2 := b_fdiv o 5 (by decide) (by decide)
  have q3 := b_mod (t * 69621 + o.fdiv 5) 2147483587 (by decide)
  obtain ⟨u1, u2⟩ := fmod_nn (a := t * 69621 + o.fdiv 5) (b := 2147483587) (by decide)
  generalize (t * 69621 + o.fdiv 5).fmod 2147483587 = u at q3 u1 u2
  have d3 := b_fdiv u 16 (by decide) (by decide)
  refine ⟨u.fdiv 16, (fdiv_nn u1 (by decide)).1, ?_⟩
  simp [f_Lmixed, mkFS, mkSem, startS, getV, outS, biF, setTg, isMp, m1, m2, q1, m3, m4, d1, q2, m5, d2, q3, d3]
/-- the hand's list -/
structure HandOk (h : List T) : Prop where
  ex : ∃ (cells : List Int) (pos rest mix : Int), h = [.lst (cells.map T.int), .int pos, .int rest, .int mix] ∧ cells.length ≤ 63 ∧ (∀ c ∈ cells, 0 ≤ c) ∧ 0 ≤ pos ∧ pos ≤ cells.length ∧ 0 ≤ rest ∧ 0 ≤ mix ∧ mix < 2 ^ 40
theorem atI_map {l : List Int} {i : Int} (h0 : 0 ≤ i) (h : i < l.length) : ∃ c, c ∈ l ∧ L2.atI (l.map T.int) i = some (.int c) := by
  unfold L2.atI
  rw [ixN_lit h0 (by rw [List.length_map]; exact h)]
  have hi : i.toNat < l.length := by omega
  exact ⟨l[i.toNat], List.getElem_mem hi, by simp [hi]⟩
theorem ix4_1 : L2.ixN 4 1 = some 1 := rfl
theorem ix4_2 : L2.ixN 4 2 = some 2 := rfl
theorem ix4_3 : L2.ixN 4 3 = some 3 := rfl
theorem pow18 : bop .pow (.int 10) (.int 18) = some (.int (10 ^ 18)) := rfl
theorem pow9 : bop .pow (.int 10) (.int 9) = some (.int (10 ^ 9)) := rfl
def takeHead : S := ir_Ltake.headD .pass
def takeTail : List S := ir_Ltake.tail
theorem w_Ltake {h : List T} (hh : HandOk h) (m : Int) (hm : 1 ≤ m ∧ m < 2 ^ 60) : ∃ z h', HandOk h' ∧ 0 ≤ z ∧ z < m ∧ f_Ltake.sem [.lst h, .int m] = .ok (.int z) h' := by
  obtain ⟨cells, pos, rest, mix, rfl, hl, hc, p0, p1, r0, x0, x1⟩ := hh.ex
  have dm : ∀ a : Int, bop .fdiv (.int a) (.int m) = some (.int (a.fdiv m)) := fun a => b_fdiv a m (by omega) (by
    have : m.natAbs < 2 ^ 9000 := Nat.lt_of_lt_of_le (show m.natAbs < 2 ^ 60 by omega) (Nat.pow_le_pow_right (by decide) (by decide))
    exact log2_lt (by decide) this)
  have mm : ∀ a : Int, bop .mod (.int a) (.int m) = some (.int (a.fmod m)) := fun a => b_mod a m (by omega)
  have z0 : ∀ a : Int, 0 ≤ a.fmod m ∧ a.fmod m < m := fun a => fmod_nn (by omega)
  -- what is done with a rest
  have tail : ∀ (pos rest : Int), 0 ≤ pos → pos ≤ cells.length → 0 ≤ rest → ∀ s2, ∃ z h' s', HandOk h' ∧ 0 ≤ z ∧ z < m ∧ outS (some 0) s' = some h' ∧
      evSs takeTail [.mp [.lst (cells.map T.int), .int pos, .int rest, .int mix], .im (.int m), s2, .un] = .ret (.int z) s' := by
    intro pos rest p0 p1 r0 s2
    by_cases hr : 0 < rest
    · refine ⟨rest.fmod m, [.lst (cells.map T.int), .int pos, .int (rest.fdiv m), .int mix], _, ⟨cells, pos, _, mix, rfl, hl, hc, p0, p1, (fdiv_nn r0 (by omega)).1, x0, x1⟩, (z0 _).1, (z0 _).2, ?_, by
        simp [takeTail, ir_Ltake, getV, ownAt, Sl.own, hr, setTg, isMp, biF, dm, mm, ix4_2, putOwn]; rfl⟩
      rfl
    · have q1 := b_mod (mix + 1) 2147483629 (by decide)
      obtain ⟨u1, u2⟩ := fmod_nn (a := mix + 1) (b := 2147483629) (by decide)
      generalize (mix + 1).fmod 2147483629 = u at q1 u1 u2
      obtain ⟨z, hz, hx⟩ := w_Lmixed u pos ⟨u1, by omega⟩ ⟨p0, by omega⟩
      have hcall := call_v (g := f_Lmixed) (avs := [.v (.int u), .v (.int pos)]) rfl rfl hx
      refine ⟨z.fmod m, [.lst (cells.map T.int), .int pos, .int rest, .int u], _, ⟨cells, pos, rest, u, rfl, hl, hc, p0, p1, r0, u1, by omega⟩, (z0 _).1, (z0 _).2, ?_, by
        simp [takeTail, ir_Ltake, getV, ownAt, Sl.own, hr, setTg, isMp, biF, mm, ix4_3, putOwn, q1, hcall, show f_Lmixed.fresh = false from rfl]; rfl⟩
      rfl
  have fin : ∀ (st2 : Sls) (s' : Sls) (z : Int) (h' : List T), evS takeHead [.mp [.lst (cells.map T.int), .int pos, .int rest, .int mix], .im (.int m), .un, .un] = .nx st2 → evSs takeTail st2 = .ret (.int z) s' → outS (some 0) s' = some h' → f_Ltake.sem [.lst [.lst (cells.map T.int), .int pos, .int rest, .int mix], .int m] = .ok (.int z) h' := by
    intro st2 s' z h' e1 e2 e3
    have e : evSs ir_Ltake [.mp [.lst (cells.map T.int), .int pos, .int rest, .int mix], .im (.int m), .un, .un] = .ret (.int z) s' := by
      show evSs (takeHead :: takeTail) _ = _
      rw [ss_cons_, e1, then_nx, e2]
    simp only [f_Ltake, mkFS, mkSem, startS, List.length_cons, List.length_nil, if_true, Option.map_some, Option.some.injEq, Nat.zero_ne_one, if_false]
    simp [startS, e, e3, List.replicate]
  by_cases hr : rest = 0
  · subst hr
    by_cases hp : pos < cells.length
    · obtain ⟨c, hcm, hat⟩ := atI_map p0 hp
      have c0 := hc c hcm
      by_cases hlt : c < 10 ^ 18
      · have q1 := b_mod c 2147483647 (by decide)
        obtain ⟨u1, u2⟩ := fmod_nn (a := c) (b := 2147483647) (by decide)
        generalize c.fmod 2147483647 = u at q1 u1 u2
        obtain ⟨z, hz, hx⟩ := w_Lmixed u (pos + 1) ⟨u1, by omega⟩ ⟨by omega, by omega⟩
        have hcall := call_v (g := f_Lmixed) (avs := [.v (.int u), .v (.int (pos + 1))]) rfl rfl hx
        refine ⟨z.fmod m, [.lst (cells.map T.int), .int (pos + 1), .int 0, .int mix], ⟨cells, pos + 1, 0, mix, rfl, hl, hc, by omega, by omega, by omega, x0, x1⟩, (z0 _).1, (z0 _).2, ?_⟩
        have hlt' : c < 1000000000000000000 := hlt
        simp [f_Ltake, mkFS, mkSem, startS, getV, ownAt, Sl.own, biF, hp, hat, setTg, isMp, ix4_1, putOwn, pow18, hlt', q1, hcall, mm, outS, show f_Lmixed.fresh = false from rfl]
      · obtain ⟨z, h', s', a1, a2, a3, a5, a4⟩ := tail (pos + 1) c (by omega) (by omega) c0 (.im (.int c))
        have hlt' : ¬ c < 1000000000000000000 := hlt
        refine ⟨z, h', a1, a2, a3, fin _ s' z h' ?_ a4 a5⟩
        simp [takeHead, ir_Ltake, getV, ownAt, Sl.own, biF, hp, hat, setTg, isMp, ix4_1, ix4_2, putOwn, pow18, hlt']
    · obtain ⟨z, h', s', a1, a2, a3, a5, a4⟩ := tail pos 0 p0 p1 (by omega) .un
      refine ⟨z, h', a1, a2, a3, fin _ s' z h' ?_ a4 a5⟩
      simp [takeHead, ir_Ltake, getV, ownAt, Sl.own, biF, hp]
  · obtain ⟨z, h', s', a1, a2, a3, a5, a4⟩ := tail pos rest p0 p1 r0 .un
    refine ⟨z, h', a1, a2, a3, fin _ s' z h' ?_ a4 a5⟩
    simp [takeHead, ir_Ltake, getV, ownAt, Sl.own, biF, hr]
end KS

namespace KS
open PySem FL
theorem take_at {s : Sls} {i : Nat} {h : List T} (ho : ownAt s i = some h) (hh : HandOk h) {e : E} {m : Int} (he : evE e s = .ok (.int m) s) (hm : 1 ≤ m ∧ m < 2 ^ 60) :
    ∃ z h', HandOk h' ∧ 0 ≤ z ∧ z < m ∧ evE (.call f_Ltake (.b i (.e e .nil)) []) s = .ok (.int z) (putOwn s i h') := by
  obtain ⟨z, h', a1, a2, a3, a4⟩ := w_Ltake hh m hm
  refine ⟨z, h', a1, a2, a3, ?_⟩
  have ha := after_r0 (g := f_Ltake) (i := i) (vs := [.int m]) (s := s) rfl ho a4
  simp only [List.map_cons, List.map_nil] at ha
  simp [show f_Ltake.fresh = false from rfl, ho, he, ha]
/-- four slots, the first is the hand -/
theorem num_loop {n : Nat} : ∀ (xs : List T) (h : List T) (t : Int) (a b : Sl), xs.length = n → isMp [Sl.mp h, a, .im (.int t), b] 3 = false → HandOk h → ∀ k, Bd k t → 0 < k → k + 31 * n < 10000 → 0 ≤ t → ∃ h' t' b', HandOk h' ∧ Bd (k + 31 * n) t' ∧ 0 ≤ t' ∧
    forL (.nm 3) (evSs [.asg (.nm 2) (.bin .add (.bin .mul (.var 2) (.bin .pow (.cst (.int 10)) (.cst (.int 9)))) (.call f_Ltake (.b 0 (.e (.bin .pow (.cst (.int 10)) (.cst (.int 9))) (.nil))) []))]) xs [.mp h, a, .im (.int t), b] = .nx [.mp h', a, .im (.int t'), b'] := by
  induction n with
  | zero =>
    intro xs h t a b hl hb hh k hk hk0 hkn ht
    obtain rfl : xs = [] := List.length_eq_zero_iff.mp hl
    exact ⟨h, t, b, hh, hk, ht, forL_nil⟩
  | succ n ih =>
    intro xs h t a b hl hb hh k hk hk0 hkn ht
    cases xs with
    | nil => simp at hl
    | cons x xs =>
      obtain ⟨z, h', z1, z2, z3, z4⟩ := take_at (s := [.mp h, a, .im (.int t), .im x]) (i := 0) rfl hh (e := .bin .pow (.cst (.int 10)) (.cst (.int 9))) (m := 10 ^ 9) (by simp [pow9]) (by decide)
      have m1 := b_mul t 1000000000 (hk.mulOk (show Bd 60 1000000000 by unfold Bd; decide) (by omega))
      have hb2 : Bd (k + 31) (t * 1000000000 + z) := by
        have h1 : Bd (k + 30) (t * 1000000000) := hk.mul (show Bd 30 1000000000 by unfold Bd; decide)
        have h2 : Bd (k + 30) z := by
          have : Bd 30 z := by unfold Bd; omega
          exact this.up (by omega)
        exact h1.add h2
      obtain ⟨h2, t2, b2, y1, y2, y3, y4⟩ := ih xs h' (t * 1000000000 + z) a (.im x) (by simpa using hl) rfl z1 (k + 31) hb2 (by omega) (by omega) (by have := Int.mul_nonneg ht (show (0 : Int) ≤ 1000000000 by decide); omega)
      refine ⟨h2, t2, b2, y1, by rw [show k + 31 * (n + 1) = k + 31 + 31 * n by omega]; exact y2, y3, ?_⟩
      have z4' : evE (.call f_Ltake (.b 0 (.e (.bin .pow (.cst (.int 10)) (.cst (.int 9))) (.nil))) []) [.mp h, a, .im (.int t), .im x] = .ok (.int z) [.mp h', a, .im (.int t), .im x] := z4
      have st : setTg (.nm 3) x [.mp h, a, .im (.int t), b] = some [.mp h, a, .im (.int t), .im x] := by
        simp only [setTg, hb, Bool.false_eq_true, if_false]
        rfl
      have bd : evSs [.asg (.nm 2) (.bin .add (.bin .mul (.var 2) (.bin .pow (.cst (.int 10)) (.cst (.int 9)))) (.call f_Ltake (.b 0 (.e (.bin .pow (.cst (.int 10)) (.cst (.int 9))) (.nil))) []))] [.mp h, a, .im (.int t), .im x] = .nx [.mp h', a, .im (.int (t * 1000000000 + z)), .im x] := by
        simp only [ss_cons_, ss_nil_, s_asg_, e_bin, e_var, kBin_, kBin2_, z4', bind_ok, getV, List.getElem?_cons_succ, List.getElem?_cons_zero, e_cst, pow9, of_some, show (10 : Int) ^ 9 = 1000000000 from rfl, m1, b_add, so_ok, kAsg_, setTg, isMp, Bool.false_eq_true, if_false, then_nx]
        rfl
      rw [forL_step st bd]
      exact y4
theorem w_Lnumber {h : List T} (hh : HandOk h) : ∃ z h', HandOk h' ∧ Bd 160 z ∧ f_Lnumber.sem [.lst h] = .ok (.int z) h' := by
  obtain ⟨k, h1, a1, a2, a3, a4⟩ := take_at (s := [.mp h, .un, .un, .un]) (i := 0) rfl hh (e := .cst (.int 9)) (m := 9) rfl (by decide)
  have a4' : evE (.call f_Ltake (.b 0 (.e (.cst (.int 9)) .nil)) []) [.mp h, .un, .un, .un] = .ok (.int k) [.mp h1, .un, .un, .un] := a4
  by_cases hk : k < 6
  · obtain ⟨z, h2, b1, b2, b3, b4⟩ := take_at (s := [.mp h1, .im (.int k), .un, .un]) (i := 0) rfl a1 (e := .cst (.int 25)) (m := 25) rfl (by decide)
    have b4' : evE (.call f_Ltake (.b 0 (.e (.cst (.int 25)) .nil)) []) [.mp h1, .im (.int k), .un, .un] = .ok (.int z) [.mp h2, .im (.int k), .un, .un] := b4
    refine ⟨z - 12, h2, b1, by unfold Bd; omega, ?_⟩
    simp only [f_Lnumber, mkFS, mkSem, startS, List.length_cons, List.length_nil, if_true, Option.map_some, List.cons_append, List.nil_append, List.replicate, ir_Lnumber, ss_cons_, s_asg_, a4', so_ok, kAsg_, setTg, isMp, Bool.false_eq_true, if_false]
    simp [hk, getV, isMp, setTg, b4', outS, evSs, -e_call]
  · have hb : ∃ n : Nat, n ≤ 5 ∧ evIt (.rng1 (.ite (.cmp .lt (.var 1) (.cst (.int 8))) (.cst (.int 1)) (.cst (.int 5)))) [.mp h1, .im (.int k), .im (.int 0), .un] = .ok ((List.range n).map fun k => .int (k : Nat)) [.mp h1, .im (.int k), .im (.int 0), .un] := by
      by_cases h8 : k < 8
      · refine ⟨1, by decide, ?_⟩
        have := kRng_ 1 [.mp h1, .im (.int k), .im (.int 0), .un] (by decide)
        simp [getV, h8, this]
      · refine ⟨5, by decide, ?_⟩
        have := kRng_ 5 [.mp h1, .im (.int k), .im (.int 0), .un] (by decide)
        simp [getV, h8, this]
    obtain ⟨n, hn, hi⟩ := hb
    obtain ⟨h2, t, b', c1, c2, c3, c4⟩ := num_loop (n := n) ((List.range n).map fun k => .int (k : Nat)) h1 0 (.im (.int k)) .un (by simp) rfl a1 1 (by unfold Bd; decide) (by decide) (by omega) (by decide)
    obtain ⟨s, h3, d1, d2, d3, d4⟩ := take_at (s := [.mp h2, .im (.int k), .im (.int t), b']) (i := 0) rfl c1 (e := .cst (.int 2)) (m := 2) rfl (by decide)
    have d4' : evE (.call f_Ltake (.b 0 (.e (.cst (.int 2)) .nil)) []) [.mp h2, .im (.int k), .im (.int t), b'] = .ok (.int s) [.mp h3, .im (.int k), .im (.int t), b'] := d4
    have m1 := b_mul 2 s (mulS (by decide) (by omega))
    have m2 := b_mul t (1 - 2 * s) (c2.mulOk (show Bd 60 (1 - 2 * s) by unfold Bd; omega) (by omega))
    refine ⟨t * (1 - 2 * s), h3, d1, ?_, ?_⟩
    · have h1 : Bd (1 + 31 * n + 3) (t * (1 - 2 * s)) := c2.mul (show Bd 3 (1 - 2 * s) by unfold Bd; omega)
      exact h1.up (by omega)
    · refine sem_ret (s0 := [.mp h]) (s1 := [.mp h3, .im (.int k), .im (.int t), b']) rfl rfl ?_ rfl
      show evSs ir_Lnumber [.mp h, .un, .un, .un] = _
      refine seq_nx (s1 := [.mp h1, .im (.int k), .un, .un]) (by rw [s_asg_, a4', so_ok]; rfl) ?_
      refine seq_nx (s1 := [.mp h1, .im (.int k), .un, .un]) (by simp [getV, hk]) ?_
      refine seq_nx (s1 := [.mp h1, .im (.int k), .im (.int 0), .un]) (by rfl) ?_
      refine seq_nx (s1 := [.mp h2, .im (.int k), .im (.int t), b']) (by rw [s_for_, hi, so_ok, kFor_, c4]) ?_
      refine seq_ret ?_
      simp only [s_ret_, e_bin, e_var, getV, List.getElem?_cons_succ, List.getElem?_cons_zero, bind_ok, kBin_, e_cst, kBin2_, d4', m1, of_some, b_sub, m2, so_ok]
end KS

namespace KS
open PySem FL
abbrev handBody : List S := [.asg (.nm 1) (.bin .mod (.bi .int (.cons (.bin .add (.bin .mul (.var 1) (.cst (.int 1019))) (.bi .int (.cons (.var 3) (.nil)))) (.nil))) (.cst (.int 2147483629))),
    .app 2 (.ite (.cmp .ge (.var 3) (.cst (.int 0))) (.bi .int (.cons (.var 3) (.nil))) (.neg (.bi .int (.cons (.var 3) (.nil)))))]
theorem hand_loop (sc : T) : ∀ (ns : List Int) (cs : List Int) (t : Int) (b : Sl), isMp [.im sc, .im (.int t), .mu (cs.map T.int), b] 3 = false → ns.length + cs.length ≤ 1000 → (∀ c ∈ cs, 0 ≤ c) → 0 ≤ t → t < 2 ^ 40 → ∃ (cs' : List Int) (t' : Int) (b' : Sl), cs'.length = cs.length + ns.length ∧ (∀ c ∈ cs', 0 ≤ c) ∧ 0 ≤ t' ∧ t' < 2 ^ 40 ∧
    forL (.nm 3) (evSs handBody) (ns.map T.int) [.im sc, .im (.int t), .mu (cs.map T.int), b] = .nx [.im sc, .im (.int t'), .mu (cs'.map T.int), b'] := by
  intro ns
  induction ns with
  | nil => intro cs t b hb hl hc t0 t1; exact ⟨cs, t, b, rfl, hc, t0, t1, forL_nil⟩
  | cons n ns ih =>
    intro cs t b hb hl hc t0 t1
    rw [List.length_cons] at hl
    have m1 := b_mul t 1019 (mulS (by omega) (by decide))
    have q1 := b_mod (t * 1019 + n) 2147483629 (by decide)
    obtain ⟨u1, u2⟩ := fmod_nn (a := t * 1019 + n) (b := 2147483629) (by decide)
    generalize (t * 1019 + n).fmod 2147483629 = u at q1 u1 u2
    obtain ⟨cs', t', b', h1, h2, h3, h4, h5⟩ := ih (cs ++ [(n.natAbs : Int)]) u (.im (.int n)) rfl (by simp; omega) (fun c hm => by
      rcases List.mem_append.mp hm with hm | hm
      · exact hc c hm
      · simp at hm; omega) u1 (by omega)
    refine ⟨cs', t', b', by rw [h1]; simp; omega, h2, h3, h4, ?_⟩
    rw [List.map_cons]
    have st : setTg (.nm 3) (.int n) [.im sc, .im (.int t), .mu (cs.map T.int), b] = some [.im sc, .im (.int t), .mu (cs.map T.int), .im (.int n)] := by
      simp only [setTg, hb, Bool.false_eq_true, if_false]
      rfl
    refine (forL_step st (s2 := [.im sc, .im (.int u), .mu ((cs ++ [(n.natAbs : Int)]).map T.int), .im (.int n)]) ?_).trans h5
    refine seq_nx (s1 := [.im sc, .im (.int u), .mu (cs.map T.int), .im (.int n)]) (by simp [getV, biF, m1, q1, setTg, isMp]) ?_
    have hlen : (cs.map T.int).length < big := by rw [List.length_map]; have : big = 16777216 := rfl; omega
    rw [List.length_map] at hlen
    by_cases hn : 0 ≤ n
    · have e : (n.natAbs : Int) = n := by omega
      simp [ownAt, Sl.own, getV, hn, biF, hlen, putOwn, e]
    · have e : (n.natAbs : Int) = -n := by omega
      simp [ownAt, Sl.own, getV, hn, biF, hlen, putOwn, e]
theorem w_Lhand (ns : List Int) (hl : ns.length ≤ 63) : ∃ h, HandOk h ∧ f_Lhand.sem [.scr (ns.map T.int)] = .ok (.lst h) [] := by
  obtain ⟨cs, t, b', h1, h2, h3, h4, h5⟩ := hand_loop (.scr (ns.map T.int)) ns [] (ns.length + 31) .un rfl (by simp; omega) (by simp) (by omega) (by omega)
  refine ⟨[.lst (cs.map T.int), .int 0, .int 0, .int t], ⟨cs, 0, 0, t, rfl, by simp at h1; omega, h2, by decide, by omega, by decide, h3, h4⟩, ?_⟩
  have hb : evSs ir_Lhand [.im (.scr (ns.map T.int)), .un, .un, .un] = .retF [.lst (cs.map T.int), .int 0, .int 0, .int t] [.im (.scr (ns.map T.int)), .im (.int t), .im (.lst (cs.map T.int)), b'] := by
    refine seq_nx (s1 := [.im (.scr (ns.map T.int)), .im (.int (ns.length + 31)), .un, .un]) (by simp [getV, biF, setTg, isMp]) ?_
    refine seq_nx (s1 := [.im (.scr (ns.map T.int)), .im (.int (ns.length + 31)), .mu [], .un]) (by rfl) ?_
    refine seq_nx (s1 := [.im (.scr (ns.map T.int)), .im (.int t), .mu (cs.map T.int), b']) (by rw [s_for_]; simp only [i_seq_, e_var, getV, List.getElem?_cons_zero, bind_ok, kSeq_scr, so_ok, kFor_]; exact h5) ?_
    simp [getV, kDisp]
    rfl
  exact sem_retF (s0 := [.im (.scr (ns.map T.int))]) rfl rfl hb rfl
end KS

namespace K00
open PySem PySem.Spec L2 FL KS
/-! the terms of the text and the readings of its bodies: printed by gen.py -/
def top (i : Nat) : Stmt := PySem.Challenge.pw_feltstone_k00_errors_side_by_side.main.body.getD i (.Pass ⟨0, 0, 0, 0⟩)
/-! law_hand -/
abbrev N_Lhand : List Str := ["script", "total", "cells", "cell"]
abbrev sc_Lhand : Scope := defScope (top 35)
theorem v_Lhand_0 : Vr N_Lhand sc_Lhand 0 ("script" : Str) := vr_of (by decide +kernel)
theorem v_Lhand_1 : Vr N_Lhand sc_Lhand 1 ("total" : Str) := vr_of (by decide +kernel)
theorem v_Lhand_2 : Vr N_Lhand sc_Lhand 2 ("cells" : Str) := vr_of (by decide +kernel)
theorem v_Lhand_3 : Vr N_Lhand sc_Lhand 3 ("cell" : Str) := vr_of (by decide +kernel)
theorem g_Lhand_int : Gb sc_Lhand ("int" : Str) := gb_of (by decide +kernel)
theorem g_Lhand_len : Gb sc_Lhand ("len" : Str) := gb_of (by decide +kernel)
theorem b_Lhand {G : Gx} (ho : IsiOk G) (f_int : G.mg "int" = none) (f_len : G.mg "len" = none) : BodyOk G 0 N_Lhand sc_Lhand (defBody (top 35)) ir_Lhand := fun X W B g T hB =>
    (ss_cons (r_asg g T v_Lhand_1 (q_bin g (o := .add) rfl (p_bi g (bb := .len) (fun z => by rcases z with z | z <;> cases z) rfl f_len g_Lhand_len (p_cons (p_var g (v_Lhand_0).f) q_nil rfl) rfl rfl) q_cst_int) rfl)
    (ss_cons (r_asgM g T v_Lhand_2 (q_disp q_nil) rfl)
    (ss_cons (r_for g T (i_seq' g (p_var g (v_Lhand_0).f)) (t_nm g v_Lhand_3 (.inl (T.fn _))) (ss_cons (r_asg g T v_Lhand_1 (q_bin g (o := .mod) rfl (p_bi g (bb := .int) (fun z => by rcases z with z | z <;> cases z) rfl f_int g_Lhand_int (p_cons (q_bin g (o := .add) rfl (q_bin g (o := .mul) rfl (p_var g (v_Lhand_1).f) q_cst_int) (p_bi g (bb := .int) (fun z => by rcases z with z | z <;> cases z) rfl f_int g_Lhand_int (p_cons (p_var g (v_Lhand_3).f) q_nil rfl) rfl rfl)) q_nil rfl) rfl rfl) q_cst_int) rfl)
    (ss_cons (r_app g (v_Lhand_2).f (q_ite (q_cmpT g (o := .ge) rfl (p_var g (v_Lhand_3).f) q_cst_int rfl) (p_bi g (bb := .int) (fun z => by rcases z with z | z <;> cases z) rfl f_int g_Lhand_int (p_cons (p_var g (v_Lhand_3).f) q_nil rfl) rfl rfl) (q_neg (p_bi g (bb := .int) (fun z => by rcases z with z | z <;> cases z) rfl f_int g_Lhand_int (p_cons (p_var g (v_Lhand_3).f) q_nil rfl) rfl rfl))) rfl rfl)
    ss_nil)) (fun _ => rfl))
    (ss_cons (s_retM (q_disp (p_cons (p_var g (v_Lhand_2).f) (p_cons q_cst_int (p_cons q_cst_int (p_cons (p_var g (v_Lhand_1).f) q_nil rfl) rfl) rfl) rfl)))
    ss_nil))))
theorem s_Lhand : FnScope N_Lhand ["script"] sc_Lhand := ⟨by rfl, by rfl, by rfl, by decide +kernel, by rfl, by decide +kernel, by decide +kernel⟩
/-! law_mixed -/
abbrev N_Lmixed : List Str := ["number", "turn", "once", "twice"]
abbrev sc_Lmixed : Scope := defScope (top 36)
theorem v_Lmixed_0 : Vr N_Lmixed sc_Lmixed 0 ("number" : Str) := vr_of (by decide +kernel)
theorem v_Lmixed_1 : Vr N_Lmixed sc_Lmixed 1 ("turn" : Str) := vr_of (by decide +kernel)
theorem v_Lmixed_2 : Vr N_Lmixed sc_Lmixed 2 ("once" : Str) := vr_of (by decide +kernel)
theorem v_Lmixed_3 : Vr N_Lmixed sc_Lmixed 3 ("twice" : Str) := vr_of (by decide +kernel)
theorem g_Lmixed_int : Gb sc_Lmixed ("int" : Str) := gb_of (by decide +kernel)
theorem b_Lmixed {G : Gx} (ho : IsiOk G) (f_int : G.mg "int" = none) : BodyOk G 0 N_Lmixed sc_Lmixed (defBody (top 36)) ir_Lmixed := fun X W B g T hB =>
    (ss_cons (r_asg g T v_Lmixed_2 (q_bin g (o := .mod) rfl (p_bi g (bb := .int) (fun z => by rcases z with z | z <;> cases z) rfl f_int g_Lmixed_int (p_cons (q_bin g (o := .add) rfl (q_bin g (o := .add) rfl (q_bin g (o := .mul) rfl (p_var g (v_Lmixed_0).f) q_cst_int) (q_bin g (o := .mul) rfl (p_var g (v_Lmixed_1).f) q_cst_int)) q_cst_int) q_nil rfl) rfl rfl) q_cst_int) rfl)
    (ss_cons (r_asg g T v_Lmixed_3 (q_bin g (o := .mod) rfl (p_bi g (bb := .int) (fun z => by rcases z with z | z <;> cases z) rfl f_int g_Lmixed_int (p_cons (q_bin g (o := .add) rfl (q_bin g (o := .add) rfl (q_bin g (o := .mul) rfl (p_var g (v_Lmixed_2).f) (p_var g (v_Lmixed_2).f)) (q_bin g (o := .mul) rfl (p_var g (v_Lmixed_1).f) q_cst_int)) (q_bin g (o := .fdiv) rfl (p_var g (v_Lmixed_2).f) q_cst_int)) q_nil rfl) rfl rfl) q_cst_int) rfl)
    (ss_cons (s_ret (q_bin g (o := .fdiv) rfl (p_bi g (bb := .int) (fun z => by rcases z with z | z <;> cases z) rfl f_int g_Lmixed_int (p_cons (q_bin g (o := .mod) rfl (p_bi g (bb := .int) (fun z => by rcases z with z | z <;> cases z) rfl f_int g_Lmixed_int (p_cons (q_bin g (o := .add) rfl (q_bin g (o := .mul) rfl (p_var g (v_Lmixed_3).f) q_cst_int) (q_bin g (o := .fdiv) rfl (p_var g (v_Lmixed_2).f) q_cst_int)) q_nil rfl) rfl rfl) q_cst_int) q_nil rfl) rfl rfl) q_cst_int))
    ss_nil)))
theorem s_Lmixed : FnScope N_Lmixed ["number", "turn"] sc_Lmixed := ⟨by rfl, by rfl, by rfl, by decide +kernel, by rfl, by decide +kernel, by decide +kernel⟩
/-! law_take -/
abbrev N_Ltake : List Str := ["hand", "many", "cell", "rest"]
abbrev sc_Ltake : Scope := defScope (top 37)
theorem v_Ltake_0 : Vr N_Ltake sc_Ltake 0 ("hand" : Str) := vr_of (by decide +kernel)
theorem v_Ltake_1 : Vr N_Ltake sc_Ltake 1 ("many" : Str) := vr_of (by decide +kernel)
theorem v_Ltake_2 : Vr N_Ltake sc_Ltake 2 ("cell" : Str) := vr_of (by decide +kernel)
theorem v_Ltake_3 : Vr N_Ltake sc_Ltake 3 ("rest" : Str) := vr_of (by decide +kernel)
theorem g_Ltake_Lmixed : Gb sc_Ltake ("_law_mixed" : Str) := gb_of (by decide +kernel)
theorem g_Ltake_int : Gb sc_Ltake ("int" : Str) := gb_of (by decide +kernel)
theorem g_Ltake_len : Gb sc_Ltake ("len" : Str) := gb_of (by decide +kernel)
theorem b_Ltake {G : Gx} (ho : IsiOk G) (f_int : G.mg "int" = none) (f_len : G.mg "len" = none) (h_Lmixed : HasFn G 1 f_Lmixed []) : BodyOk G 1 N_Ltake sc_Ltake (defBody (top 37)) ir_Ltake := fun X W B g T hB =>
    (ss_cons (s_if (q_boT (q_andT (q_cmpT g (o := .eq) rfl (p_idxB g (v_Ltake_0).f q_cst_int rfl) q_cst_int rfl) (q_bo1T (by simp) (q_cmpT g (o := .lt) rfl (p_idxB g (v_Ltake_0).f q_cst_int rfl) (p_bi g (bb := .len) (fun z => by rcases z with z | z <;> cases z) rfl f_len g_Ltake_len (p_cons (p_idxB g (v_Ltake_0).f q_cst_int rfl) q_nil rfl) rfl rfl) rfl)))) (ss_cons (r_asg g T v_Ltake_2 (p_idx g (p_idxB g (v_Ltake_0).f q_cst_int rfl) (p_idxB g (v_Ltake_0).f q_cst_int rfl) rfl) rfl)
    (ss_cons (r_setI g (v_Ltake_0).f q_cst_int (q_bin g (o := .add) rfl (p_idxB g (v_Ltake_0).f q_cst_int rfl) q_cst_int) (fun _ => rfl) rfl)
    (ss_cons (s_if (q_cmpT g (o := .lt) rfl (p_var g (v_Ltake_2).f) (q_bin g (o := .pow) rfl q_cst_int q_cst_int) rfl) (ss_cons (s_ret (q_bin g (o := .mod) rfl (p_bi g (bb := .int) (fun z => by rcases z with z | z <;> cases z) rfl f_int g_Ltake_int (p_cons (p_call g rfl h_Lmixed g_Ltake_Lmixed (p_ae (q_bin g (o := .mod) rfl (p_bi g (bb := .int) (fun z => by rcases z with z | z <;> cases z) rfl f_int g_Ltake_int (p_cons (p_var g (v_Ltake_2).f) q_nil rfl) rfl rfl) q_cst_int) (p_ae (p_idxB g (v_Ltake_0).f q_cst_int rfl) q_an rfl) rfl) rfl rfl) q_nil rfl) rfl rfl) (p_var g (v_Ltake_1).f)))
    ss_nil) ss_nil)
    (ss_cons (r_setI g (v_Ltake_0).f q_cst_int (p_var g (v_Ltake_2).f) (fun _ => rfl) rfl)
    ss_nil)))) ss_nil)
    (ss_cons (s_if (q_cmpT g (o := .gt) rfl (p_idxB g (v_Ltake_0).f q_cst_int rfl) q_cst_int rfl) (ss_cons (r_asg g T v_Ltake_3 (p_idxB g (v_Ltake_0).f q_cst_int rfl) rfl)
    (ss_cons (r_setI g (v_Ltake_0).f q_cst_int (q_bin g (o := .fdiv) rfl (p_bi g (bb := .int) (fun z => by rcases z with z | z <;> cases z) rfl f_int g_Ltake_int (p_cons (p_var g (v_Ltake_3).f) q_nil rfl) rfl rfl) (p_var g (v_Ltake_1).f)) (fun _ => rfl) rfl)
    (ss_cons (s_ret (q_bin g (o := .mod) rfl (p_bi g (bb := .int) (fun z => by rcases z with z | z <;> cases z) rfl f_int g_Ltake_int (p_cons (p_var g (v_Ltake_3).f) q_nil rfl) rfl rfl) (p_var g (v_Ltake_1).f)))
    ss_nil))) ss_nil)
    (ss_cons (r_setI g (v_Ltake_0).f q_cst_int (q_bin g (o := .mod) rfl (p_bi g (bb := .int) (fun z => by rcases z with z | z <;> cases z) rfl f_int g_Ltake_int (p_cons (q_bin g (o := .add) rfl (p_idxB g (v_Ltake_0).f q_cst_int rfl) q_cst_int) q_nil rfl) rfl rfl) q_cst_int) (fun _ => rfl) rfl)
    (ss_cons (s_ret (q_bin g (o := .mod) rfl (p_bi g (bb := .int) (fun z => by rcases z with z | z <;> cases z) rfl f_int g_Ltake_int (p_cons (p_call g rfl h_Lmixed g_Ltake_Lmixed (p_ae (p_idxB g (v_Ltake_0).f q_cst_int rfl) (p_ae (p_idxB g (v_Ltake_0).f q_cst_int rfl) q_an rfl) rfl) rfl rfl) q_nil rfl) rfl rfl) (p_var g (v_Ltake_1).f)))
    ss_nil))))
theorem s_Ltake : FnScope N_Ltake ["hand", "many"] sc_Ltake := ⟨by rfl, by rfl, by rfl, by decide +kernel, by rfl, by decide +kernel, by decide +kernel⟩
/-! law_name -/
abbrev N_Lname : List Str := ["hand", "word", "turn"]
abbrev sc_Lname : Scope := defScope (top 38)
abbrev ir_Lname : List S := [.asg (.nm 1) (.cst (.str ("" : Str))),
    .forS (.nm 2) (.rng1 (.bin .add (.cst (.int 1)) (.call f_Ltake (.b 0 (.e (.cst (.int 8)) (.nil))) []))) [.asg (.nm 1) (.bin .add (.var 1) (.idx (.cst (.str ("abcdefghijklmnopqrstuvwxyz" : Str))) (.call f_Ltake (.b 0 (.e (.cst (.int 26)) (.nil))) [])))],
    .ret (.var 1)]
def f_Lname : FS := mkFS ("_law_name" : Str) 1 2 (some 0) false ir_Lname
theorem v_Lname_0 : Vr N_Lname sc_Lname 0 ("hand" : Str) := vr_of (by decide +kernel)
theorem v_Lname_1 : Vr N_Lname sc_Lname 1 ("word" : Str) := vr_of (by decide +kernel)
theorem v_Lname_2 : Vr N_Lname sc_Lname 2 ("turn" : Str) := vr_of (by decide +kernel)
theorem g_Lname_Ltake : Gb sc_Lname ("_law_take" : Str) := gb_of (by decide +kernel)
theorem g_Lname_range : Gb sc_Lname ("range" : Str) := gb_of (by decide +kernel)
theorem b_Lname {G : Gx} (ho : IsiOk G) (f_range : G.mg "range" = none) (h_Ltake : HasFn G 2 f_Ltake []) : BodyOk G 2 N_Lname sc_Lname (defBody (top 38)) ir_Lname := fun X W B g T hB =>
    (ss_cons (r_asg g T v_Lname_1 q_cst_str rfl)
    (ss_cons (r_for g T (i_rng1' g f_range g_Lname_range (q_bin g (o := .add) rfl q_cst_int (p_call g rfl h_Ltake g_Lname_Ltake (p_ab g (v_Lname_0).f (p_ae q_cst_int q_an rfl)) rfl rfl)) rfl) (t_nm g v_Lname_2 (.inl (T.fn _))) (ss_cons (r_asg g T v_Lname_1 (q_bin g (o := .add) rfl (p_var g (v_Lname_1).f) (p_idx g q_cst_str (p_call g rfl h_Ltake g_Lname_Ltake (p_ab g (v_Lname_0).f (p_ae q_cst_int q_an rfl)) rfl rfl) rfl)) rfl)
    ss_nil) (fun _ => rfl))
    (ss_cons (s_ret (p_var g (v_Lname_1).f))
    ss_nil)))
theorem s_Lname : FnScope N_Lname ["hand"] sc_Lname := ⟨by rfl, by rfl, by rfl, by decide +kernel, by rfl, by decide +kernel, by decide +kernel⟩
/-! law_third -/
abbrev N_Lthird : List Str := ["at", "to", "word", "name", "found", "one"]
abbrev sc_Lthird : Scope := defScope (top 41)
abbrev ir_Lthird : List S := [.asgM 4 (.disp (.nil)),
    .asg (.nm 5) (.newX ("BadReading" : Str) 2 [(("what" : Str), 1), (("index" : Str), 0)] (.cons (.var 1) (.cons (.var 3) (.nil)))),
    .app 4 (.tup (.cons (.var 5) (.cons (.frz (.disp (.cons (.fldX (.var 5) ("index" : Str) [("BadCase" : Str), ("BadChoice" : Str), ("BadReading" : Str), ("BadDirections" : Str), ("BadChange" : Str), ("BadWish" : Str)]) (.cons (.fldX (.var 5) ("what" : Str) [("BadRatio" : Str), ("BadPatch" : Str), ("BadTable" : Str), ("BadText" : Str), ("BadFact" : Str), ("BadCase" : Str), ("BadLots" : Str), ("BadClaim" : Str), ("BadKept" : Str), ("BadReading" : Str), ("BadBox" : Str), ("BadChange" : Str)]) (.nil))))) (.cons (.frz (.disp (.cons (.var 1) (.cons (.var 3) (.nil))))) (.nil))))),
    .app 4 (.tup (.cons (.newX ("BadBreadth" : Str) 0 [] .nil) (.cons (.frz (.disp (.nil))) (.cons (.frz (.disp (.nil))) (.nil))))),
    .asg (.nm 5) (.newX ("BadBox" : Str) 1 [(("what" : Str), 0)] (.cons (.var 3) (.nil))),
    .app 4 (.tup (.cons (.var 5) (.cons (.frz (.disp (.cons (.fldX (.var 5) ("what" : Str) [("BadRatio" : Str), ("BadPatch" : Str), ("BadTable" : Str), ("BadText" : Str), ("BadFact" : Str), ("BadCase" : Str), ("BadLots" : Str), ("BadClaim" : Str), ("BadKept" : Str), ("BadReading" : Str), ("BadBox" : Str), ("BadChange" : Str)]) (.nil)))) (.cons (.frz (.disp (.cons (.var 3) (.nil)))) (.nil))))),
    .asg (.nm 5) (.newX ("BadDirections" : Str) 1 [(("index" : Str), 0)] (.cons (.var 0) (.nil))),
    .app 4 (.tup (.cons (.var 5) (.cons (.frz (.disp (.cons (.fldX (.var 5) ("index" : Str) [("BadCase" : Str), ("BadChoice" : Str), ("BadReading" : Str), ("BadDirections" : Str), ("BadChange" : Str), ("BadWish" : Str)]) (.nil)))) (.cons (.frz (.disp (.cons (.var 0) (.nil)))) (.nil))))),
    .app 4 (.tup (.cons (.newX ("BadStone" : Str) 0 [] .nil) (.cons (.frz (.disp (.nil))) (.cons (.frz (.disp (.nil))) (.nil))))),
    .app 4 (.tup (.cons (.newX ("BadMost" : Str) 0 [] .nil) (.cons (.frz (.disp (.nil))) (.cons (.frz (.disp (.nil))) (.nil))))),
    .asg (.nm 5) (.newX ("BadChange" : Str) 2 [(("what" : Str), 1), (("index" : Str), 0)] (.cons (.var 1) (.cons (.var 3) (.nil)))),
    .app 4 (.tup (.cons (.var 5) (.cons (.frz (.disp (.cons (.fldX (.var 5) ("index" : Str) [("BadCase" : Str), ("BadChoice" : Str), ("BadReading" : Str), ("BadDirections" : Str), ("BadChange" : Str), ("BadWish" : Str)]) (.cons (.fldX (.var 5) ("what" : Str) [("BadRatio" : Str), ("BadPatch" : Str), ("BadTable" : Str), ("BadText" : Str), ("BadFact" : Str), ("BadCase" : Str), ("BadLots" : Str), ("BadClaim" : Str), ("BadKept" : Str), ("BadReading" : Str), ("BadBox" : Str), ("BadChange" : Str)]) (.nil))))) (.cons (.frz (.disp (.cons (.var 1) (.cons (.var 3) (.nil))))) (.nil))))),
    .asg (.nm 5) (.newX ("BadWish" : Str) 1 [(("index" : Str), 0)] (.cons (.var 0) (.nil))),
    .app 4 (.tup (.cons (.var 5) (.cons (.frz (.disp (.cons (.fldX (.var 5) ("index" : Str) [("BadCase" : Str), ("BadChoice" : Str), ("BadReading" : Str), ("BadDirections" : Str), ("BadChange" : Str), ("BadWish" : Str)]) (.nil)))) (.cons (.frz (.disp (.cons (.var 0) (.nil)))) (.nil))))),
    .asg (.nm 5) (.newX ("NoNumber" : Str) 1 [(("number" : Str), 0)] (.cons (.var 0) (.nil))),
    .app 4 (.tup (.cons (.var 5) (.cons (.frz (.disp (.cons (.fldX (.var 5) ("number" : Str) [("NoFact" : Str), ("NoArea" : Str), ("BadCorner" : Str), ("NoNumber" : Str)]) (.nil)))) (.cons (.frz (.disp (.cons (.var 0) (.nil)))) (.nil))))),
    .app 4 (.tup (.cons (.newX ("BookFull" : Str) 0 [] .nil) (.cons (.frz (.disp (.nil))) (.cons (.frz (.disp (.nil))) (.nil))))),
    .retB 4]
def f_Lthird : FS := mkFS ("_law_third" : Str) 4 2 none true ir_Lthird
theorem v_Lthird_0 : Vr N_Lthird sc_Lthird 0 ("at" : Str) := vr_of (by decide +kernel)
theorem v_Lthird_1 : Vr N_Lthird sc_Lthird 1 ("to" : Str) := vr_of (by decide +kernel)
theorem v_Lthird_3 : Vr N_Lthird sc_Lthird 3 ("name" : Str) := vr_of (by decide +kernel)
theorem v_Lthird_4 : Vr N_Lthird sc_Lthird 4 ("found" : Str) := vr_of (by decide +kernel)
theorem v_Lthird_5 : Vr N_Lthird sc_Lthird 5 ("one" : Str) := vr_of (by decide +kernel)
theorem g_Lthird_BadBox : Gb sc_Lthird ("BadBox" : Str) := gb_of (by decide +kernel)
theorem g_Lthird_BadBreadth : Gb sc_Lthird ("BadBreadth" : Str) := gb_of (by decide +kernel)
theorem g_Lthird_BadChange : Gb sc_Lthird ("BadChange" : Str) := gb_of (by decide +kernel)
theorem g_Lthird_BadDirections : Gb sc_Lthird ("BadDirections" : Str) := gb_of (by decide +kernel)
theorem g_Lthird_BadMost : Gb sc_Lthird ("BadMost" : Str) := gb_of (by decide +kernel)
theorem g_Lthird_BadReading : Gb sc_Lthird ("BadReading" : Str) := gb_of (by decide +kernel)
theorem g_Lthird_BadStone : Gb sc_Lthird ("BadStone" : Str) := gb_of (by decide +kernel)
theorem g_Lthird_BadWish : Gb sc_Lthird ("BadWish" : Str) := gb_of (by decide +kernel)
theorem g_Lthird_BookFull : Gb sc_Lthird ("BookFull" : Str) := gb_of (by decide +kernel)
theorem g_Lthird_NoNumber : Gb sc_Lthird ("NoNumber" : Str) := gb_of (by decide +kernel)
theorem b_Lthird {G : Gx} (ho : IsiOk G) (e_BadBox : ExcOk G ("BadBox" : Str) 1 [(("what" : Str), 0)]) (e_BadBreadth : ExcOk G ("BadBreadth" : Str) 0 []) (e_BadChange : ExcOk G ("BadChange" : Str) 2 [(("what" : Str), 1), (("index" : Str), 0)]) (e_BadDirections : ExcOk G ("BadDirections" : Str) 1 [(("index" : Str), 0)]) (e_BadMost : ExcOk G ("BadMost" : Str) 0 []) (e_BadReading : ExcOk G ("BadReading" : Str) 2 [(("what" : Str), 1), (("index" : Str), 0)]) (e_BadStone : ExcOk G ("BadStone" : Str) 0 []) (e_BadWish : ExcOk G ("BadWish" : Str) 1 [(("index" : Str), 0)]) (e_BookFull : ExcOk G ("BookFull" : Str) 0 []) (e_NoNumber : ExcOk G ("NoNumber" : Str) 1 [(("number" : Str), 0)]) (x_index_all : XfOk G ("index" : Str) [("BadCase" : Str), ("BadChoice" : Str), ("BadReading" : Str), ("BadDirections" : Str), ("BadChange" : Str), ("BadWish" : Str)]) (x_number_all : XfOk G ("number" : Str) [("NoFact" : Str), ("NoArea" : Str), ("BadCorner" : Str), ("NoNumber" : Str)]) (x_what_all : XfOk G ("what" : Str) [("BadRatio" : Str), ("BadPatch" : Str), ("BadTable" : Str), ("BadText" : Str), ("BadFact" : Str), ("BadCase" : Str), ("BadLots" : Str), ("BadClaim" : Str), ("BadKept" : Str), ("BadReading" : Str), ("BadBox" : Str), ("BadChange" : Str)]) : BodyOk G 2 N_Lthird sc_Lthird (defBody (top 41)) ir_Lthird := fun X W B g T hB =>
    (ss_cons (r_asgM g T v_Lthird_4 (q_disp q_nil) rfl)
    (ss_cons (r_asg g T v_Lthird_5 (p_newX g e_BadReading g_Lthird_BadReading (p_cons (p_var g (v_Lthird_1).f) (p_cons (p_var g (v_Lthird_3).f) q_nil rfl) rfl) rfl rfl) rfl)
    (ss_cons (r_app g (v_Lthird_4).f (q_tup (p_cons (p_var g (v_Lthird_5).f) (p_cons (q_frz (q_disp (p_cons (p_fldX g x_index_all (p_var g (v_Lthird_5).f) rfl) (p_cons (p_fldX g x_what_all (p_var g (v_Lthird_5).f) rfl) q_nil rfl) rfl))) (p_cons (q_frz (q_disp (p_cons (p_var g (v_Lthird_1).f) (p_cons (p_var g (v_Lthird_3).f) q_nil rfl) rfl))) q_nil rfl) rfl) rfl)) rfl rfl)
    (ss_cons (r_app g (v_Lthird_4).f (q_tup (p_cons (p_newX0 g e_BadBreadth g_Lthird_BadBreadth) (p_cons (q_frz (q_disp q_nil)) (p_cons (q_frz (q_disp q_nil)) q_nil rfl) rfl) rfl)) rfl rfl)
    (ss_cons (r_asg g T v_Lthird_5 (p_newX g e_BadBox g_Lthird_BadBox (p_cons (p_var g (v_Lthird_3).f) q_nil rfl) rfl rfl) rfl)
    (ss_cons (r_app g (v_Lthird_4).f (q_tup (p_cons (p_var g (v_Lthird_5).f) (p_cons (q_frz (q_disp (p_cons (p_fldX g x_what_all (p_var g (v_Lthird_5).f) rfl) q_nil rfl))) (p_cons (q_frz (q_disp (p_cons (p_var g (v_Lthird_3).f) q_nil rfl))) q_nil rfl) rfl) rfl)) rfl rfl)
    (ss_cons (r_asg g T v_Lthird_5 (p_newX g e_BadDirections g_Lthird_BadDirections (p_cons (p_var g (v_Lthird_0).f) q_nil rfl) rfl rfl) rfl)
    (ss_cons (r_app g (v_Lthird_4).f (q_tup (p_cons (p_var g (v_Lthird_5).f) (p_cons (q_frz (q_disp (p_cons (p_fldX g x_index_all (p_var g (v_Lthird_5).f) rfl) q_nil rfl))) (p_cons (q_frz (q_disp (p_cons (p_var g (v_Lthird_0).f) q_nil rfl))) q_nil rfl) rfl) rfl)) rfl rfl)
    (ss_cons (r_app g (v_Lthird_4).f (q_tup (p_cons (p_newX0 g e_BadStone g_Lthird_BadStone) (p_cons (q_frz (q_disp q_nil)) (p_cons (q_frz (q_disp q_nil)) q_nil rfl) rfl) rfl)) rfl rfl)
    (ss_cons (r_app g (v_Lthird_4).f (q_tup (p_cons (p_newX0 g e_BadMost g_Lthird_BadMost) (p_cons (q_frz (q_disp q_nil)) (p_cons (q_frz (q_disp q_nil)) q_nil rfl) rfl) rfl)) rfl rfl)
    (ss_cons (r_asg g T v_Lthird_5 (p_newX g e_BadChange g_Lthird_BadChange (p_cons (p_var g (v_Lthird_1).f) (p_cons (p_var g (v_Lthird_3).f) q_nil rfl) rfl) rfl rfl) rfl)
    (ss_cons (r_app g (v_Lthird_4).f (q_tup (p_cons (p_var g (v_Lthird_5).f) (p_cons (q_frz (q_disp (p_cons (p_fldX g x_index_all (p_var g (v_Lthird_5).f) rfl) (p_cons (p_fldX g x_what_all (p_var g (v_Lthird_5).f) rfl) q_nil rfl) rfl))) (p_cons (q_frz (q_disp (p_cons (p_var g (v_Lthird_1).f) (p_cons (p_var g (v_Lthird_3).f) q_nil rfl) rfl))) q_nil rfl) rfl) rfl)) rfl rfl)
    (ss_cons (r_asg g T v_Lthird_5 (p_newX g e_BadWish g_Lthird_BadWish (p_cons (p_var g (v_Lthird_0).f) q_nil rfl) rfl rfl) rfl)
    (ss_cons (r_app g (v_Lthird_4).f (q_tup (p_cons (p_var g (v_Lthird_5).f) (p_cons (q_frz (q_disp (p_cons (p_fldX g x_index_all (p_var g (v_Lthird_5).f) rfl) q_nil rfl))) (p_cons (q_frz (q_disp (p_cons (p_var g (v_Lthird_0).f) q_nil rfl))) q_nil rfl) rfl) rfl)) rfl rfl)
    (ss_cons (r_asg g T v_Lthird_5 (p_newX g e_NoNumber g_Lthird_NoNumber (p_cons (p_var g (v_Lthird_0).f) q_nil rfl) rfl rfl) rfl)
    (ss_cons (r_app g (v_Lthird_4).f (q_tup (p_cons (p_var g (v_Lthird_5).f) (p_cons (q_frz (q_disp (p_cons (p_fldX g x_number_all (p_var g (v_Lthird_5).f) rfl) q_nil rfl))) (p_cons (q_frz (q_disp (p_cons (p_var g (v_Lthird_0).f) q_nil rfl))) q_nil rfl) rfl) rfl)) rfl rfl)
    (ss_cons (r_app g (v_Lthird_4).f (q_tup (p_cons (p_newX0 g e_BookFull g_Lthird_BookFull) (p_cons (q_frz (q_disp q_nil)) (p_cons (q_frz (q_disp q_nil)) q_nil rfl) rfl) rfl)) rfl rfl)
    (ss_cons (r_retB g (v_Lthird_4).f)
    ss_nil))))))))))))))))))
theorem s_Lthird : FnScope N_Lthird ["at", "to", "word", "name"] sc_Lthird := ⟨by rfl, by rfl, by rfl, by decide +kernel, by rfl, by decide +kernel, by decide +kernel⟩
/-! law_first -/
abbrev N_Lfirst : List Str := ["at", "to", "word", "name", "found", "one"]
abbrev sc_Lfirst : Scope := defScope (top 39)
abbrev ir_Lfirst : List S := [.asgM 4 (.disp (.nil)),
    .asg (.nm 5) (.newX ("BadRatio" : Str) 1 [(("what" : Str), 0)] (.cons (.var 3) (.nil))),
    .app 4 (.tup (.cons (.var 5) (.cons (.frz (.disp (.cons (.fldX (.var 5) ("what" : Str) [("BadRatio" : Str), ("BadPatch" : Str), ("BadTable" : Str), ("BadText" : Str), ("BadFact" : Str), ("BadCase" : Str), ("BadLots" : Str), ("BadClaim" : Str), ("BadKept" : Str), ("BadReading" : Str), ("BadBox" : Str), ("BadChange" : Str)]) (.nil)))) (.cons (.frz (.disp (.cons (.var 3) (.nil)))) (.nil))))),
    .app 4 (.tup (.cons (.newX ("BadPlace" : Str) 0 [] .nil) (.cons (.frz (.disp (.nil))) (.cons (.frz (.disp (.nil))) (.nil))))),
    .app 4 (.tup (.cons (.newX ("BadDirection" : Str) 0 [] .nil) (.cons (.frz (.disp (.nil))) (.cons (.frz (.disp (.nil))) (.nil))))),
    .app 4 (.tup (.cons (.newX ("BadAmount" : Str) 0 [] .nil) (.cons (.frz (.disp (.nil))) (.cons (.frz (.disp (.nil))) (.nil))))),
    .app 4 (.tup (.cons (.newX ("BadSize" : Str) 0 [] .nil) (.cons (.frz (.disp (.nil))) (.cons (.frz (.disp (.nil))) (.nil))))),
    .asg (.nm 5) (.newX ("BadPatch" : Str) 1 [(("what" : Str), 0)] (.cons (.var 2) (.nil))),
    .app 4 (.tup (.cons (.var 5) (.cons (.frz (.disp (.cons (.fldX (.var 5) ("what" : Str) [("BadRatio" : Str), ("BadPatch" : Str), ("BadTable" : Str), ("BadText" : Str), ("BadFact" : Str), ("BadCase" : Str), ("BadLots" : Str), ("BadClaim" : Str), ("BadKept" : Str), ("BadReading" : Str), ("BadBox" : Str), ("BadChange" : Str)]) (.nil)))) (.cons (.frz (.disp (.cons (.var 2) (.nil)))) (.nil))))),
    .asg (.nm 5) (.newX ("BadTable" : Str) 1 [(("what" : Str), 0)] (.cons (.var 3) (.nil))),
    .app 4 (.tup (.cons (.var 5) (.cons (.frz (.disp (.cons (.fldX (.var 5) ("what" : Str) [("BadRatio" : Str), ("BadPatch" : Str), ("BadTable" : Str), ("BadText" : Str), ("BadFact" : Str), ("BadCase" : Str), ("BadLots" : Str), ("BadClaim" : Str), ("BadKept" : Str), ("BadReading" : Str), ("BadBox" : Str), ("BadChange" : Str)]) (.nil)))) (.cons (.frz (.disp (.cons (.var 3) (.nil)))) (.nil))))),
    .asg (.nm 5) (.newX ("BadText" : Str) 2 [(("what" : Str), 1), (("row" : Str), 0)] (.cons (.var 0) (.cons (.var 2) (.nil)))),
    .app 4 (.tup (.cons (.var 5) (.cons (.frz (.disp (.cons (.fldX (.var 5) ("row" : Str) [("BadText" : Str)]) (.cons (.fldX (.var 5) ("what" : Str) [("BadRatio" : Str), ("BadPatch" : Str), ("BadTable" : Str), ("BadText" : Str), ("BadFact" : Str), ("BadCase" : Str), ("BadLots" : Str), ("BadClaim" : Str), ("BadKept" : Str), ("BadReading" : Str), ("BadBox" : Str), ("BadChange" : Str)]) (.nil))))) (.cons (.frz (.disp (.cons (.var 0) (.cons (.var 2) (.nil))))) (.nil))))),
    .asg (.nm 5) (.newX ("BadFact" : Str) 1 [(("what" : Str), 0)] (.cons (.var 3) (.nil))),
    .app 4 (.tup (.cons (.var 5) (.cons (.frz (.disp (.cons (.fldX (.var 5) ("what" : Str) [("BadRatio" : Str), ("BadPatch" : Str), ("BadTable" : Str), ("BadText" : Str), ("BadFact" : Str), ("BadCase" : Str), ("BadLots" : Str), ("BadClaim" : Str), ("BadKept" : Str), ("BadReading" : Str), ("BadBox" : Str), ("BadChange" : Str)]) (.nil)))) (.cons (.frz (.disp (.cons (.var 3) (.nil)))) (.nil))))),
    .asg (.nm 5) (.newX ("BadCase" : Str) 2 [(("what" : Str), 1), (("index" : Str), 0)] (.cons (.var 0) (.cons (.var 2) (.nil)))),
    .app 4 (.tup (.cons (.var 5) (.cons (.frz (.disp (.cons (.fldX (.var 5) ("index" : Str) [("BadCase" : Str), ("BadChoice" : Str), ("BadReading" : Str), ("BadDirections" : Str), ("BadChange" : Str), ("BadWish" : Str)]) (.cons (.fldX (.var 5) ("what" : Str) [("BadRatio" : Str), ("BadPatch" : Str), ("BadTable" : Str), ("BadText" : Str), ("BadFact" : Str), ("BadCase" : Str), ("BadLots" : Str), ("BadClaim" : Str), ("BadKept" : Str), ("BadReading" : Str), ("BadBox" : Str), ("BadChange" : Str)]) (.nil))))) (.cons (.frz (.disp (.cons (.var 0) (.cons (.var 2) (.nil))))) (.nil))))),
    .asg (.nm 5) (.newX ("NoFact" : Str) 1 [(("number" : Str), 0)] (.cons (.var 0) (.nil))),
    .app 4 (.tup (.cons (.var 5) (.cons (.frz (.disp (.cons (.fldX (.var 5) ("number" : Str) [("NoFact" : Str), ("NoArea" : Str), ("BadCorner" : Str), ("NoNumber" : Str)]) (.nil)))) (.cons (.frz (.disp (.cons (.var 0) (.nil)))) (.nil))))),
    .retB 4]
def f_Lfirst : FS := mkFS ("_law_first" : Str) 4 2 none true ir_Lfirst
theorem v_Lfirst_0 : Vr N_Lfirst sc_Lfirst 0 ("at" : Str) := vr_of (by decide +kernel)
theorem v_Lfirst_2 : Vr N_Lfirst sc_Lfirst 2 ("word" : Str) := vr_of (by decide +kernel)
theorem v_Lfirst_3 : Vr N_Lfirst sc_Lfirst 3 ("name" : Str) := vr_of (by decide +kernel)
theorem v_Lfirst_4 : Vr N_Lfirst sc_Lfirst 4 ("found" : Str) := vr_of (by decide +kernel)
theorem v_Lfirst_5 : Vr N_Lfirst sc_Lfirst 5 ("one" : Str) := vr_of (by decide +kernel)
theorem g_Lfirst_BadAmount : Gb sc_Lfirst ("BadAmount" : Str) := gb_of (by decide +kernel)
theorem g_Lfirst_BadCase : Gb sc_Lfirst ("BadCase" : Str) := gb_of (by decide +kernel)
theorem g_Lfirst_BadDirection : Gb sc_Lfirst ("BadDirection" : Str) := gb_of (by decide +kernel)
theorem g_Lfirst_BadFact : Gb sc_Lfirst ("BadFact" : Str) := gb_of (by decide +kernel)
theorem g_Lfirst_BadPatch : Gb sc_Lfirst ("BadPatch" : Str) := gb_of (by decide +kernel)
theorem g_Lfirst_BadPlace : Gb sc_Lfirst ("BadPlace" : Str) := gb_of (by decide +kernel)
theorem g_Lfirst_BadRatio : Gb sc_Lfirst ("BadRatio" : Str) := gb_of (by decide +kernel)
theorem g_Lfirst_BadSize : Gb sc_Lfirst ("BadSize" : Str) := gb_of (by decide +kernel)
theorem g_Lfirst_BadTable : Gb sc_Lfirst ("BadTable" : Str) := gb_of (by decide +kernel)
theorem g_Lfirst_BadText : Gb sc_Lfirst ("BadText" : Str) := gb_of (by decide +kernel)
theorem g_Lfirst_NoFact : Gb sc_Lfirst ("NoFact" : Str) := gb_of (by decide +kernel)
theorem b_Lfirst {G : Gx} (ho : IsiOk G) (e_BadAmount : ExcOk G ("BadAmount" : Str) 0 []) (e_BadCase : ExcOk G ("BadCase" : Str) 2 [(("what" : Str), 1), (("index" : Str), 0)]) (e_BadDirection : ExcOk G ("BadDirection" : Str) 0 []) (e_BadFact : ExcOk G ("BadFact" : Str) 1 [(("what" : Str), 0)]) (e_BadPatch : ExcOk G ("BadPatch" : Str) 1 [(("what" : Str), 0)]) (e_BadPlace : ExcOk G ("BadPlace" : Str) 0 []) (e_BadRatio : ExcOk G ("BadRatio" : Str) 1 [(("what" : Str), 0)]) (e_BadSize : ExcOk G ("BadSize" : Str) 0 []) (e_BadTable : ExcOk G ("BadTable" : Str) 1 [(("what" : Str), 0)]) (e_BadText : ExcOk G ("BadText" : Str) 2 [(("what" : Str), 1), (("row" : Str), 0)]) (e_NoFact : ExcOk G ("NoFact" : Str) 1 [(("number" : Str), 0)]) (x_index_all : XfOk G ("index" : Str) [("BadCase" : Str), ("BadChoice" : Str), ("BadReading" : Str), ("BadDirections" : Str), ("BadChange" : Str), ("BadWish" : Str)]) (x_number_all : XfOk G ("number" : Str) [("NoFact" : Str), ("NoArea" : Str), ("BadCorner" : Str), ("NoNumber" : Str)]) (x_row_all : XfOk G ("row" : Str) [("BadText" : Str)]) (x_what_all : XfOk G ("what" : Str) [("BadRatio" : Str), ("BadPatch" : Str), ("BadTable" : Str), ("BadText" : Str), ("BadFact" : Str), ("BadCase" : Str), ("BadLots" : Str), ("BadClaim" : Str), ("BadKept" : Str), ("BadReading" : Str), ("BadBox" : Str), ("BadChange" : Str)]) : BodyOk G 2 N_Lfirst sc_Lfirst (defBody (top 39)) ir_Lfirst := fun X W B g T hB =>
    (ss_cons (r_asgM g T v_Lfirst_4 (q_disp q_nil) rfl)
    (ss_cons (r_asg g T v_Lfirst_5 (p_newX g e_BadRatio g_Lfirst_BadRatio (p_cons (p_var g (v_Lfirst_3).f) q_nil rfl) rfl rfl) rfl)
    (ss_cons (r_app g (v_Lfirst_4).f (q_tup (p_cons (p_var g (v_Lfirst_5).f) (p_cons (q_frz (q_disp (p_cons (p_fldX g x_what_all (p_var g (v_Lfirst_5).f) rfl) q_nil rfl))) (p_cons (q_frz (q_disp (p_cons (p_var g (v_Lfirst_3).f) q_nil rfl))) q_nil rfl) rfl) rfl)) rfl rfl)
    (ss_cons (r_app g (v_Lfirst_4).f (q_tup (p_cons (p_newX0 g e_BadPlace g_Lfirst_BadPlace) (p_cons (q_frz (q_disp q_nil)) (p_cons (q_frz (q_disp q_nil)) q_nil rfl) rfl) rfl)) rfl rfl)
    (ss_cons (r_app g (v_Lfirst_4).f (q_tup (p_cons (p_newX0 g e_BadDirection g_Lfirst_BadDirection) (p_cons (q_frz (q_disp q_nil)) (p_cons (q_frz (q_disp q_nil)) q_nil rfl) rfl) rfl)) rfl rfl)
    (ss_cons (r_app g (v_Lfirst_4).f (q_tup (p_cons (p_newX0 g e_BadAmount g_Lfirst_BadAmount) (p_cons (q_frz (q_disp q_nil)) (p_cons (q_frz (q_disp q_nil)) q_nil rfl) rfl) rfl)) rfl rfl)
    (ss_cons (r_app g (v_Lfirst_4).f (q_tup (p_cons (p_newX0 g e_BadSize g_Lfirst_BadSize) (p_cons (q_frz (q_disp q_nil)) (p_cons (q_frz (q_disp q_nil)) q_nil rfl) rfl) rfl)) rfl rfl)
    (ss_cons (r_asg g T v_Lfirst_5 (p_newX g e_BadPatch g_Lfirst_BadPatch (p_cons (p_var g (v_Lfirst_2).f) q_nil rfl) rfl rfl) rfl)
    (ss_cons (r_app g (v_Lfirst_4).f (q_tup (p_cons (p_var g (v_Lfirst_5).f) (p_cons (q_frz (q_disp (p_cons (p_fldX g x_what_all (p_var g (v_Lfirst_5).f) rfl) q_nil rfl))) (p_cons (q_frz (q_disp (p_cons (p_var g (v_Lfirst_2).f) q_nil rfl))) q_nil rfl) rfl) rfl)) rfl rfl)
    (ss_cons (r_asg g T v_Lfirst_5 (p_newX g e_BadTable g_Lfirst_BadTable (p_cons (p_var g (v_Lfirst_3).f) q_nil rfl) rfl rfl) rfl)
    (ss_cons (r_app g (v_Lfirst_4).f (q_tup (p_cons (p_var g (v_Lfirst_5).f) (p_cons (q_frz (q_disp (p_cons (p_fldX g x_what_all (p_var g (v_Lfirst_5).f) rfl) q_nil rfl))) (p_cons (q_frz (q_disp (p_cons (p_var g (v_Lfirst_3).f) q_nil rfl))) q_nil rfl) rfl) rfl)) rfl rfl)
    (ss_cons (r_asg g T v_Lfirst_5 (p_newX g e_BadText g_Lfirst_BadText (p_cons (p_var g (v_Lfirst_0).f) (p_cons (p_var g (v_Lfirst_2).f) q_nil rfl) rfl) rfl rfl) rfl)
    (ss_cons (r_app g (v_Lfirst_4).f (q_tup (p_cons (p_var g (v_Lfirst_5).f) (p_cons (q_frz (q_disp (p_cons (p_fldX g x_row_all (p_var g (v_Lfirst_5).f) rfl) (p_cons (p_fldX g x_what_all (p_var g (v_Lfirst_5).f) rfl) q_nil rfl) rfl))) (p_cons (q_frz (q_disp (p_cons (p_var g (v_Lfirst_0).f) (p_cons (p_var g (v_Lfirst_2).f) q_nil rfl) rfl))) q_nil rfl) rfl) rfl)) rfl rfl)
    (ss_cons (r_asg g T v_Lfirst_5 (p_newX g e_BadFact g_Lfirst_BadFact (p_cons (p_var g (v_Lfirst_3).f) q_nil rfl) rfl rfl) rfl)
    (ss_cons (r_app g (v_Lfirst_4).f (q_tup (p_cons (p_var g (v_Lfirst_5).f) (p_cons (q_frz (q_disp (p_cons (p_fldX g x_what_all (p_var g (v_Lfirst_5).f) rfl) q_nil rfl))) (p_cons (q_frz (q_disp (p_cons (p_var g (v_Lfirst_3).f) q_nil rfl))) q_nil rfl) rfl) rfl)) rfl rfl)
    (ss_cons (r_asg g T v_Lfirst_5 (p_newX g e_BadCase g_Lfirst_BadCase (p_cons (p_var g (v_Lfirst_0).f) (p_cons (p_var g (v_Lfirst_2).f) q_nil rfl) rfl) rfl rfl) rfl)
    (ss_cons (r_app g (v_Lfirst_4).f (q_tup (p_cons (p_var g (v_Lfirst_5).f) (p_cons (q_frz (q_disp (p_cons (p_fldX g x_index_all (p_var g (v_Lfirst_5).f) rfl) (p_cons (p_fldX g x_what_all (p_var g (v_Lfirst_5).f) rfl) q_nil rfl) rfl))) (p_cons (q_frz (q_disp (p_cons (p_var g (v_Lfirst_0).f) (p_cons (p_var g (v_Lfirst_2).f) q_nil rfl) rfl))) q_nil rfl) rfl) rfl)) rfl rfl)
    (ss_cons (r_asg g T v_Lfirst_5 (p_newX g e_NoFact g_Lfirst_NoFact (p_cons (p_var g (v_Lfirst_0).f) q_nil rfl) rfl rfl) rfl)
    (ss_cons (r_app g (v_Lfirst_4).f (q_tup (p_cons (p_var g (v_Lfirst_5).f) (p_cons (q_frz (q_disp (p_cons (p_fldX g x_number_all (p_var g (v_Lfirst_5).f) rfl) q_nil rfl))) (p_cons (q_frz (q_disp (p_cons (p_var g (v_Lfirst_0).f) q_nil rfl))) q_nil rfl) rfl) rfl)) rfl rfl)
    (ss_cons (r_retB g (v_Lfirst_4).f)
    ss_nil))))))))))))))))))))
theorem s_Lfirst : FnScope N_Lfirst ["at", "to", "word", "name"] sc_Lfirst := ⟨by rfl, by rfl, by rfl, by decide +kernel, by rfl, by decide +kernel, by decide +kernel⟩
/-! law_second -/
abbrev N_Lsecond : List Str := ["at", "to", "word", "name", "found", "one"]
abbrev sc_Lsecond : Scope := defScope (top 40)
abbrev ir_Lsecond : List S := [.asgM 4 (.disp (.nil)),
    .app 4 (.tup (.cons (.newX ("NoStones" : Str) 0 [] .nil) (.cons (.frz (.disp (.nil))) (.cons (.frz (.disp (.nil))) (.nil))))),
    .asg (.nm 5) (.newX ("BadChoice" : Str) 1 [(("index" : Str), 0)] (.cons (.var 1) (.nil))),
    .app 4 (.tup (.cons (.var 5) (.cons (.frz (.disp (.cons (.fldX (.var 5) ("index" : Str) [("BadCase" : Str), ("BadChoice" : Str), ("BadReading" : Str), ("BadDirections" : Str), ("BadChange" : Str), ("BadWish" : Str)]) (.nil)))) (.cons (.frz (.disp (.cons (.var 1) (.nil)))) (.nil))))),
    .asg (.nm 5) (.newX ("NotFit" : Str) 1 [(("fact" : Str), 0)] (.cons (.var 0) (.nil))),
    .app 4 (.tup (.cons (.var 5) (.cons (.frz (.disp (.cons (.fldX (.var 5) ("fact" : Str) [("NotFit" : Str)]) (.nil)))) (.cons (.frz (.disp (.cons (.var 0) (.nil)))) (.nil))))),
    .asg (.nm 5) (.newX ("BadLots" : Str) 1 [(("what" : Str), 0)] (.cons (.var 3) (.nil))),
    .app 4 (.tup (.cons (.var 5) (.cons (.frz (.disp (.cons (.fldX (.var 5) ("what" : Str) [("BadRatio" : Str), ("BadPatch" : Str), ("BadTable" : Str), ("BadText" : Str), ("BadFact" : Str), ("BadCase" : Str), ("BadLots" : Str), ("BadClaim" : Str), ("BadKept" : Str), ("BadReading" : Str), ("BadBox" : Str), ("BadChange" : Str)]) (.nil)))) (.cons (.frz (.disp (.cons (.var 3) (.nil)))) (.nil))))),
    .app 4 (.tup (.cons (.newX ("NotMet" : Str) 0 [] .nil) (.cons (.frz (.disp (.nil))) (.cons (.frz (.disp (.nil))) (.nil))))),
    .asg (.nm 5) (.newX ("BadClaim" : Str) 1 [(("what" : Str), 0)] (.cons (.var 3) (.nil))),
    .app 4 (.tup (.cons (.var 5) (.cons (.frz (.disp (.cons (.fldX (.var 5) ("what" : Str) [("BadRatio" : Str), ("BadPatch" : Str), ("BadTable" : Str), ("BadText" : Str), ("BadFact" : Str), ("BadCase" : Str), ("BadLots" : Str), ("BadClaim" : Str), ("BadKept" : Str), ("BadReading" : Str), ("BadBox" : Str), ("BadChange" : Str)]) (.nil)))) (.cons (.frz (.disp (.cons (.var 3) (.nil)))) (.nil))))),
    .asg (.nm 5) (.newX ("NoArea" : Str) 1 [(("number" : Str), 0)] (.cons (.var 1) (.nil))),
    .app 4 (.tup (.cons (.var 5) (.cons (.frz (.disp (.cons (.fldX (.var 5) ("number" : Str) [("NoFact" : Str), ("NoArea" : Str), ("BadCorner" : Str), ("NoNumber" : Str)]) (.nil)))) (.cons (.frz (.disp (.cons (.var 1) (.nil)))) (.nil))))),
    .asg (.nm 5) (.newX ("BadCorner" : Str) 1 [(("number" : Str), 0)] (.cons (.var 0) (.nil))),
    .app 4 (.tup (.cons (.var 5) (.cons (.frz (.disp (.cons (.fldX (.var 5) ("number" : Str) [("NoFact" : Str), ("NoArea" : Str), ("BadCorner" : Str), ("NoNumber" : Str)]) (.nil)))) (.cons (.frz (.disp (.cons (.var 0) (.nil)))) (.nil))))),
    .asg (.nm 5) (.newX ("BadKept" : Str) 1 [(("what" : Str), 0)] (.cons (.var 2) (.nil))),
    .app 4 (.tup (.cons (.var 5) (.cons (.frz (.disp (.cons (.fldX (.var 5) ("what" : Str) [("BadRatio" : Str), ("BadPatch" : Str), ("BadTable" : Str), ("BadText" : Str), ("BadFact" : Str), ("BadCase" : Str), ("BadLots" : Str), ("BadClaim" : Str), ("BadKept" : Str), ("BadReading" : Str), ("BadBox" : Str), ("BadChange" : Str)]) (.nil)))) (.cons (.frz (.disp (.cons (.var 2) (.nil)))) (.nil))))),
    .asg (.nm 5) (.newX ("TooMany" : Str) 1 [(("most" : Str), 0)] (.cons (.var 1) (.nil))),
    .app 4 (.tup (.cons (.var 5) (.cons (.frz (.disp (.cons (.fldX (.var 5) ("most" : Str) [("TooMany" : Str)]) (.nil)))) (.cons (.frz (.disp (.cons (.var 1) (.nil)))) (.nil))))),
    .app 4 (.tup (.cons (.newX ("BadLine" : Str) 0 [] .nil) (.cons (.frz (.disp (.nil))) (.cons (.frz (.disp (.nil))) (.nil))))),
    .retB 4]
def f_Lsecond : FS := mkFS ("_law_second" : Str) 4 2 none true ir_Lsecond
theorem v_Lsecond_0 : Vr N_Lsecond sc_Lsecond 0 ("at" : Str) := vr_of (by decide +kernel)
theorem v_Lsecond_1 : Vr N_Lsecond sc_Lsecond 1 ("to" : Str) := vr_of (by decide +kernel)
theorem v_Lsecond_2 : Vr N_Lsecond sc_Lsecond 2 ("word" : Str) := vr_of (by decide +kernel)
theorem v_Lsecond_3 : Vr N_Lsecond sc_Lsecond 3 ("name" : Str) := vr_of (by decide +kernel)
theorem v_Lsecond_4 : Vr N_Lsecond sc_Lsecond 4 ("found" : Str) := vr_of (by decide +kernel)
theorem v_Lsecond_5 : Vr N_Lsecond sc_Lsecond 5 ("one" : Str) := vr_of (by decide +kernel)
theorem g_Lsecond_BadChoice : Gb sc_Lsecond ("BadChoice" : Str) := gb_of (by decide +kernel)
theorem g_Lsecond_BadClaim : Gb sc_Lsecond ("BadClaim" : Str) := gb_of (by decide +kernel)
theorem g_Lsecond_BadCorner : Gb sc_Lsecond ("BadCorner" : Str) := gb_of (by decide +kernel)
theorem g_Lsecond_BadKept : Gb sc_Lsecond ("BadKept" : Str) := gb_of (by decide +kernel)
theorem g_Lsecond_BadLine : Gb sc_Lsecond ("BadLine" : Str) := gb_of (by decide +kernel)
theorem g_Lsecond_BadLots : Gb sc_Lsecond ("BadLots" : Str) := gb_of (by decide +kernel)
theorem g_Lsecond_NoArea : Gb sc_Lsecond ("NoArea" : Str) := gb_of (by decide +kernel)
theorem g_Lsecond_NoStones : Gb sc_Lsecond ("NoStones" : Str) := gb_of (by decide +kernel)
theorem g_Lsecond_NotFit : Gb sc_Lsecond ("NotFit" : Str) := gb_of (by decide +kernel)
theorem g_Lsecond_NotMet : Gb sc_Lsecond ("NotMet" : Str) := gb_of (by decide +kernel)
theorem g_Lsecond_TooMany : Gb sc_Lsecond ("TooMany" : Str) := gb_of (by decide +kernel)
theorem b_Lsecond {G : Gx} (ho : IsiOk G) (e_BadChoice : ExcOk G ("BadChoice" : Str) 1 [(("index" : Str), 0)]) (e_BadClaim : ExcOk G ("BadClaim" : Str) 1 [(("what" : Str), 0)]) (e_BadCorner : ExcOk G ("BadCorner" : Str) 1 [(("number" : Str), 0)]) (e_BadKept : ExcOk G ("BadKept" : Str) 1 [(("what" : Str), 0)]) (e_NoArea : ExcOk G ("NoArea" : Str) 1 [(("number" : Str), 0)]) (e_NoStones : ExcOk G ("NoStones" : Str) 0 []) (e_NotFit : ExcOk G ("NotFit" : Str) 1 [(("fact" : Str), 0)]) (e_NotMet : ExcOk G ("NotMet" : Str) 0 []) (e_TooMany : ExcOk G ("TooMany" : Str) 1 [(("most" : Str), 0)]) (eb_BadLine : BinOk G ("BadLine" : Str) 0 []) (eb_BadLots : BinOk G ("BadLots" : Str) 1 [(("what" : Str), 0)]) (x_fact_all : XfOk G ("fact" : Str) [("NotFit" : Str)]) (x_index_all : XfOk G ("index" : Str) [("BadCase" : Str), ("BadChoice" : Str), ("BadReading" : Str), ("BadDirections" : Str), ("BadChange" : Str), ("BadWish" : Str)]) (x_most_all : XfOk G ("most" : Str) [("TooMany" : Str)]) (x_number_all : XfOk G ("number" : Str) [("NoFact" : Str), ("NoArea" : Str), ("BadCorner" : Str), ("NoNumber" : Str)]) (x_what_all : XfOk G ("what" : Str) [("BadRatio" : Str), ("BadPatch" : Str), ("BadTable" : Str), ("BadText" : Str), ("BadFact" : Str), ("BadCase" : Str), ("BadLots" : Str), ("BadClaim" : Str), ("BadKept" : Str), ("BadReading" : Str), ("BadBox" : Str), ("BadChange" : Str)]) : BodyOk G 2 N_Lsecond sc_Lsecond (defBody (top 40)) ir_Lsecond := fun X W B g T hB =>
    (ss_cons (r_asgM g T v_Lsecond_4 (q_disp q_nil) rfl)
    (ss_cons (r_app g (v_Lsecond_4).f (q_tup (p_cons (p_newX0 g e_NoStones g_Lsecond_NoStones) (p_cons (q_frz (q_disp q_nil)) (p_cons (q_frz (q_disp q_nil)) q_nil rfl) rfl) rfl)) rfl rfl)
    (ss_cons (r_asg g T v_Lsecond_5 (p_newX g e_BadChoice g_Lsecond_BadChoice (p_cons (p_var g (v_Lsecond_1).f) q_nil rfl) rfl rfl) rfl)
    (ss_cons (r_app g (v_Lsecond_4).f (q_tup (p_cons (p_var g (v_Lsecond_5).f) (p_cons (q_frz (q_disp (p_cons (p_fldX g x_index_all (p_var g (v_Lsecond_5).f) rfl) q_nil rfl))) (p_cons (q_frz (q_disp (p_cons (p_var g (v_Lsecond_1).f) q_nil rfl))) q_nil rfl) rfl) rfl)) rfl rfl)
    (ss_cons (r_asg g T v_Lsecond_5 (p_newX g e_NotFit g_Lsecond_NotFit (p_cons (p_var g (v_Lsecond_0).f) q_nil rfl) rfl rfl) rfl)
    (ss_cons (r_app g (v_Lsecond_4).f (q_tup (p_cons (p_var g (v_Lsecond_5).f) (p_cons (q_frz (q_disp (p_cons (p_fldX g x_fact_all (p_var g (v_Lsecond_5).f) rfl) q_nil rfl))) (p_cons (q_frz (q_disp (p_cons (p_var g (v_Lsecond_0).f) q_nil rfl))) q_nil rfl) rfl) rfl)) rfl rfl)
    (ss_cons (r_asg g T v_Lsecond_5 (p_newC g eb_BadLots g_Lsecond_BadLots (p_cons (p_var g (v_Lsecond_3).f) q_nil rfl) rfl rfl) rfl)
    (ss_cons (r_app g (v_Lsecond_4).f (q_tup (p_cons (p_var g (v_Lsecond_5).f) (p_cons (q_frz (q_disp (p_cons (p_fldX g x_what_all (p_var g (v_Lsecond_5).f) rfl) q_nil rfl))) (p_cons (q_frz (q_disp (p_cons (p_var g (v_Lsecond_3).f) q_nil rfl))) q_nil rfl) rfl) rfl)) rfl rfl)
    (ss_cons (r_app g (v_Lsecond_4).f (q_tup (p_cons (p_newX0 g e_NotMet g_Lsecond_NotMet) (p_cons (q_frz (q_disp q_nil)) (p_cons (q_frz (q_disp q_nil)) q_nil rfl) rfl) rfl)) rfl rfl)
    (ss_cons (r_asg g T v_Lsecond_5 (p_newX g e_BadClaim g_Lsecond_BadClaim (p_cons (p_var g (v_Lsecond_3).f) q_nil rfl) rfl rfl) rfl)
    (ss_cons (r_app g (v_Lsecond_4).f (q_tup (p_cons (p_var g (v_Lsecond_5).f) (p_cons (q_frz (q_disp (p_cons (p_fldX g x_what_all (p_var g (v_Lsecond_5).f) rfl) q_nil rfl))) (p_cons (q_frz (q_disp (p_cons (p_var g (v_Lsecond_3).f) q_nil rfl))) q_nil rfl) rfl) rfl)) rfl rfl)
    (ss_cons (r_asg g T v_Lsecond_5 (p_newX g e_NoArea g_Lsecond_NoArea (p_cons (p_var g (v_Lsecond_1).f) q_nil rfl) rfl rfl) rfl)
    (ss_cons (r_app g (v_Lsecond_4).f (q_tup (p_cons (p_var g (v_Lsecond_5).f) (p_cons (q_frz (q_disp (p_cons (p_fldX g x_number_all (p_var g (v_Lsecond_5).f) rfl) q_nil rfl))) (p_cons (q_frz (q_disp (p_cons (p_var g (v_Lsecond_1).f) q_nil rfl))) q_nil rfl) rfl) rfl)) rfl rfl)
    (ss_cons (r_asg g T v_Lsecond_5 (p_newX g e_BadCorner g_Lsecond_BadCorner (p_cons (p_var g (v_Lsecond_0).f) q_nil rfl) rfl rfl) rfl)
    (ss_cons (r_app g (v_Lsecond_4).f (q_tup (p_cons (p_var g (v_Lsecond_5).f) (p_cons (q_frz (q_disp (p_cons (p_fldX g x_number_all (p_var g (v_Lsecond_5).f) rfl) q_nil rfl))) (p_cons (q_frz (q_disp (p_cons (p_var g (v_Lsecond_0).f) q_nil rfl))) q_nil rfl) rfl) rfl)) rfl rfl)
    (ss_cons (r_asg g T v_Lsecond_5 (p_newX g e_BadKept g_Lsecond_BadKept (p_cons (p_var g (v_Lsecond_2).f) q_nil rfl) rfl rfl) rfl)
    (ss_cons (r_app g (v_Lsecond_4).f (q_tup (p_cons (p_var g (v_Lsecond_5).f) (p_cons (q_frz (q_disp (p_cons (p_fldX g x_what_all (p_var g (v_Lsecond_5).f) rfl) q_nil rfl))) (p_cons (q_frz (q_disp (p_cons (p_var g (v_Lsecond_2).f) q_nil rfl))) q_nil rfl) rfl) rfl)) rfl rfl)
    (ss_cons (r_asg g T v_Lsecond_5 (p_newX g e_TooMany g_Lsecond_TooMany (p_cons (p_var g (v_Lsecond_1).f) q_nil rfl) rfl rfl) rfl)
    (ss_cons (r_app g (v_Lsecond_4).f (q_tup (p_cons (p_var g (v_Lsecond_5).f) (p_cons (q_frz (q_disp (p_cons (p_fldX g x_most_all (p_var g (v_Lsecond_5).f) rfl) q_nil rfl))) (p_cons (q_frz (q_disp (p_cons (p_var g (v_Lsecond_1).f) q_nil rfl))) q_nil rfl) rfl) rfl)) rfl rfl)
    (ss_cons (r_app g (v_Lsecond_4).f (q_tup (p_cons (p_newC0 g eb_BadLine g_Lsecond_BadLine) (p_cons (q_frz (q_disp q_nil)) (p_cons (q_frz (q_disp q_nil)) q_nil rfl) rfl) rfl)) rfl rfl)
    (ss_cons (r_retB g (v_Lsecond_4).f)
    ss_nil)))))))))))))))))))))
theorem s_Lsecond : FnScope N_Lsecond ["at", "to", "word", "name"] sc_Lsecond := ⟨by rfl, by rfl, by rfl, by decide +kernel, by rfl, by decide +kernel, by decide +kernel⟩
/-! law_classes -/
abbrev N_Lclasses : List Str := ["e", "found"]
abbrev sc_Lclasses : Scope := defScope (top 42)
abbrev ys_BadAmount : List Str := [("BadAmount" : Str)]
abbrev ns_BadAmount : List Str := [("FeltError" : Str), ("BadRatio" : Str), ("BadPlace" : Str), ("BadDirection" : Str), ("BadSize" : Str), ("BadPatch" : Str), ("BadTable" : Str), ("BadText" : Str), ("BadFact" : Str), ("BadCase" : Str), ("NoFact" : Str), ("NoStones" : Str), ("BadChoice" : Str), ("NotFit" : Str), ("BadLots" : Str), ("NotMet" : Str), ("BadClaim" : Str), ("NoArea" : Str), ("BadCorner" : Str), ("BadKept" : Str), ("TooMany" : Str), ("BadLine" : Str), ("BadReading" : Str), ("BadBreadth" : Str), ("BadBox" : Str), ("BadDirections" : Str), ("BadStone" : Str), ("BadMost" : Str), ("BadChange" : Str), ("BadWish" : Str), ("NoNumber" : Str), ("BookFull" : Str)]
abbrev ys_BadDirection : List Str := [("BadDirection" : Str)]
abbrev ns_BadDirection : List Str := [("FeltError" : Str), ("BadRatio" : Str), ("BadPlace" : Str), ("BadAmount" : Str), ("BadSize" : Str), ("BadPatch" : Str), ("BadTable" : Str), ("BadText" : Str), ("BadFact" : Str), ("BadCase" : Str), ("NoFact" : Str), ("NoStones" : Str), ("BadChoice" : Str), ("NotFit" : Str), ("BadLots" : Str), ("NotMet" : Str), ("BadClaim" : Str), ("NoArea" : Str), ("BadCorner" : Str), ("BadKept" : Str), ("TooMany" : Str), ("BadLine" : Str), ("BadReading" : Str), ("BadBreadth" : Str), ("BadBox" : Str), ("BadDirections" : Str), ("BadStone" : Str), ("BadMost" : Str), ("BadChange" : Str), ("BadWish" : Str), ("NoNumber" : Str), ("BookFull" : Str)]
abbrev ys_BadPlace : List Str := [("BadPlace" : Str)]
abbrev ns_BadPlace : List Str := [("FeltError" : Str), ("BadRatio" : Str), ("BadDirection" : Str), ("BadAmount" : Str), ("BadSize" : Str), ("BadPatch" : Str), ("BadTable" : Str), ("BadText" : Str), ("BadFact" : Str), ("BadCase" : Str), ("NoFact" : Str), ("NoStones" : Str), ("BadChoice" : Str), ("NotFit" : Str), ("BadLots" : Str), ("NotMet" : Str), ("BadClaim" : Str), ("NoArea" : Str), ("BadCorner" : Str), ("BadKept" : Str), ("TooMany" : Str), ("BadLine" : Str), ("BadReading" : Str), ("BadBreadth" : Str), ("BadBox" : Str), ("BadDirections" : Str), ("BadStone" : Str), ("BadMost" : Str), ("BadChange" : Str), ("BadWish" : Str), ("NoNumber" : Str), ("BookFull" : Str)]
abbrev ys_BadRatio : List Str := [("BadRatio" : Str)]
abbrev ns_BadRatio : List Str := [("FeltError" : Str), ("BadPlace" : Str), ("BadDirection" : Str), ("BadAmount" : Str), ("BadSize" : Str), ("BadPatch" : Str), ("BadTable" : Str), ("BadText" : Str), ("BadFact" : Str), ("BadCase" : Str), ("NoFact" : Str), ("NoStones" : Str), ("BadChoice" : Str), ("NotFit" : Str), ("BadLots" : Str), ("NotMet" : Str), ("BadClaim" : Str), ("NoArea" : Str), ("BadCorner" : Str), ("BadKept" : Str), ("TooMany" : Str), ("BadLine" : Str), ("BadReading" : Str), ("BadBreadth" : Str), ("BadBox" : Str), ("BadDirections" : Str), ("BadStone" : Str), ("BadMost" : Str), ("BadChange" : Str), ("BadWish" : Str), ("NoNumber" : Str), ("BookFull" : Str)]
abbrev ys_BadText : List Str := [("BadText" : Str)]
abbrev ns_BadText : List Str := [("FeltError" : Str), ("BadRatio" : Str), ("BadPlace" : Str), ("BadDirection" : Str), ("BadAmount" : Str), ("BadSize" : Str), ("BadPatch" : Str), ("BadTable" : Str), ("BadFact" : Str), ("BadCase" : Str), ("NoFact" : Str), ("NoStones" : Str), ("BadChoice" : Str), ("NotFit" : Str), ("BadLots" : Str), ("NotMet" : Str), ("BadClaim" : Str), ("NoArea" : Str), ("BadCorner" : Str), ("BadKept" : Str), ("TooMany" : Str), ("BadLine" : Str), ("BadReading" : Str), ("BadBreadth" : Str), ("BadBox" : Str), ("BadDirections" : Str), ("BadStone" : Str), ("BadMost" : Str), ("BadChange" : Str), ("BadWish" : Str), ("NoNumber" : Str), ("BookFull" : Str)]
abbrev ys_BadTable : List Str := [("BadTable" : Str)]
abbrev ns_BadTable : List Str := [("FeltError" : Str), ("BadRatio" : Str), ("BadPlace" : Str), ("BadDirection" : Str), ("BadAmount" : Str), ("BadSize" : Str), ("BadPatch" : Str), ("BadText" : Str), ("BadFact" : Str), ("BadCase" : Str), ("NoFact" : Str), ("NoStones" : Str), ("BadChoice" : Str), ("NotFit" : Str), ("BadLots" : Str), ("NotMet" : Str), ("BadClaim" : Str), ("NoArea" : Str), ("BadCorner" : Str), ("BadKept" : Str), ("TooMany" : Str), ("BadLine" : Str), ("BadReading" : Str), ("BadBreadth" : Str), ("BadBox" : Str), ("BadDirections" : Str), ("BadStone" : Str), ("BadMost" : Str), ("BadChange" : Str), ("BadWish" : Str), ("NoNumber" : Str), ("BookFull" : Str)]
abbrev ys_BadPatch : List Str := [("BadPatch" : Str)]
abbrev ns_BadPatch : List Str := [("FeltError" : Str), ("BadRatio" : Str), ("BadPlace" : Str), ("BadDirection" : Str), ("BadAmount" : Str), ("BadSize" : Str), ("BadTable" : Str), ("BadText" : Str), ("BadFact" : Str), ("BadCase" : Str), ("NoFact" : Str), ("NoStones" : Str), ("BadChoice" : Str), ("NotFit" : Str), ("BadLots" : Str), ("NotMet" : Str), ("BadClaim" : Str), ("NoArea" : Str), ("BadCorner" : Str), ("BadKept" : Str), ("TooMany" : Str), ("BadLine" : Str), ("BadReading" : Str), ("BadBreadth" : Str), ("BadBox" : Str), ("BadDirections" : Str), ("BadStone" : Str), ("BadMost" : Str), ("BadChange" : Str), ("BadWish" : Str), ("NoNumber" : Str), ("BookFull" : Str)]
abbrev ys_BadSize : List Str := [("BadSize" : Str)]
abbrev ns_BadSize : List Str := [("FeltError" : Str), ("BadRatio" : Str), ("BadPlace" : Str), ("BadDirection" : Str), ("BadAmount" : Str), ("BadPatch" : Str), ("BadTable" : Str), ("BadText" : Str), ("BadFact" : Str), ("BadCase" : Str), ("NoFact" : Str), ("NoStones" : Str), ("BadChoice" : Str), ("NotFit" : Str), ("BadLots" : Str), ("NotMet" : Str), ("BadClaim" : Str), ("NoArea" : Str), ("BadCorner" : Str), ("BadKept" : Str), ("TooMany" : Str), ("BadLine" : Str), ("BadReading" : Str), ("BadBreadth" : Str), ("BadBox" : Str), ("BadDirections" : Str), ("BadStone" : Str), ("BadMost" : Str), ("BadChange" : Str), ("BadWish" : Str), ("NoNumber" : Str), ("BookFull" : Str)]
abbrev ys_NoStones : List Str := [("NoStones" : Str)]
abbrev ns_NoStones : List Str := [("FeltError" : Str), ("BadRatio" : Str), ("BadPlace" : Str), ("BadDirection" : Str), ("BadAmount" : Str), ("BadSize" : Str), ("BadPatch" : Str), ("BadTable" : Str), ("BadText" : Str), ("BadFact" : Str), ("BadCase" : Str), ("NoFact" : Str), ("BadChoice" : Str), ("NotFit" : Str), ("BadLots" : Str), ("NotMet" : Str), ("BadClaim" : Str), ("NoArea" : Str), ("BadCorner" : Str), ("BadKept" : Str), ("TooMany" : Str), ("BadLine" : Str), ("BadReading" : Str), ("BadBreadth" : Str), ("BadBox" : Str), ("BadDirections" : Str), ("BadStone" : Str), ("BadMost" : Str), ("BadChange" : Str), ("BadWish" : Str), ("NoNumber" : Str), ("BookFull" : Str)]
abbrev ys_NoFact : List Str := [("NoFact" : Str)]
abbrev ns_NoFact : List Str := [("FeltError" : Str), ("BadRatio" : Str), ("BadPlace" : Str), ("BadDirection" : Str), ("BadAmount" : Str), ("BadSize" : Str), ("BadPatch" : Str), ("BadTable" : Str), ("BadText" : Str), ("BadFact" : Str), ("BadCase" : Str), ("NoStones" : Str), ("BadChoice" : Str), ("NotFit" : Str), ("BadLots" : Str), ("NotMet" : Str), ("BadClaim" : Str), ("NoArea" : Str), ("BadCorner" : Str), ("BadKept" : Str), ("TooMany" : Str), ("BadLine" : Str), ("BadReading" : Str), ("BadBreadth" : Str), ("BadBox" : Str), ("BadDirections" : Str), ("BadStone" : Str), ("BadMost" : Str), ("BadChange" : Str), ("BadWish" : Str), ("NoNumber" : Str), ("BookFull" : Str)]
abbrev ys_BadCase : List Str := [("BadCase" : Str)]
abbrev ns_BadCase : List Str := [("FeltError" : Str), ("BadRatio" : Str), ("BadPlace" : Str), ("BadDirection" : Str), ("BadAmount" : Str), ("BadSize" : Str), ("BadPatch" : Str), ("BadTable" : Str), ("BadText" : Str), ("BadFact" : Str), ("NoFact" : Str), ("NoStones" : Str), ("BadChoice" : Str), ("NotFit" : Str), ("BadLots" : Str), ("NotMet" : Str), ("BadClaim" : Str), ("NoArea" : Str), ("BadCorner" : Str), ("BadKept" : Str), ("TooMany" : Str), ("BadLine" : Str), ("BadReading" : Str), ("BadBreadth" : Str), ("BadBox" : Str), ("BadDirections" : Str), ("BadStone" : Str), ("BadMost" : Str), ("BadChange" : Str), ("BadWish" : Str), ("NoNumber" : Str), ("BookFull" : Str)]
abbrev ys_BadFact : List Str := [("BadFact" : Str)]
abbrev ns_BadFact : List Str := [("FeltError" : Str), ("BadRatio" : Str), ("BadPlace" : Str), ("BadDirection" : Str), ("BadAmount" : Str), ("BadSize" : Str), ("BadPatch" : Str), ("BadTable" : Str), ("BadText" : Str), ("BadCase" : Str), ("NoFact" : Str), ("NoStones" : Str), ("BadChoice" : Str), ("NotFit" : Str), ("BadLots" : Str), ("NotMet" : Str), ("BadClaim" : Str), ("NoArea" : Str), ("BadCorner" : Str), ("BadKept" : Str), ("TooMany" : Str), ("BadLine" : Str), ("BadReading" : Str), ("BadBreadth" : Str), ("BadBox" : Str), ("BadDirections" : Str), ("BadStone" : Str), ("BadMost" : Str), ("BadChange" : Str), ("BadWish" : Str), ("NoNumber" : Str), ("BookFull" : Str)]
abbrev ys_NotMet : List Str := [("NotMet" : Str)]
abbrev ns_NotMet : List Str := [("FeltError" : Str), ("BadRatio" : Str), ("BadPlace" : Str), ("BadDirection" : Str), ("BadAmount" : Str), ("BadSize" : Str), ("BadPatch" : Str), ("BadTable" : Str), ("BadText" : Str), ("BadFact" : Str), ("BadCase" : Str), ("NoFact" : Str), ("NoStones" : Str), ("BadChoice" : Str), ("NotFit" : Str), ("BadLots" : Str), ("BadClaim" : Str), ("NoArea" : Str), ("BadCorner" : Str), ("BadKept" : Str), ("TooMany" : Str), ("BadLine" : Str), ("BadReading" : Str), ("BadBreadth" : Str), ("BadBox" : Str), ("BadDirections" : Str), ("BadStone" : Str), ("BadMost" : Str), ("BadChange" : Str), ("BadWish" : Str), ("NoNumber" : Str), ("BookFull" : Str)]
abbrev ys_BadLots : List Str := [("BadLots" : Str)]
abbrev ns_BadLots : List Str := [("FeltError" : Str), ("BadRatio" : Str), ("BadPlace" : Str), ("BadDirection" : Str), ("BadAmount" : Str), ("BadSize" : Str), ("BadPatch" : Str), ("BadTable" : Str), ("BadText" : Str), ("BadFact" : Str), ("BadCase" : Str), ("NoFact" : Str), ("NoStones" : Str), ("BadChoice" : Str), ("NotFit" : Str), ("NotMet" : Str), ("BadClaim" : Str), ("NoArea" : Str), ("BadCorner" : Str), ("BadKept" : Str), ("TooMany" : Str), ("BadLine" : Str), ("BadReading" : Str), ("BadBreadth" : Str), ("BadBox" : Str), ("BadDirections" : Str), ("BadStone" : Str), ("BadMost" : Str), ("BadChange" : Str), ("BadWish" : Str), ("NoNumber" : Str), ("BookFull" : Str)]
abbrev ys_NotFit : List Str := [("NotFit" : Str)]
abbrev ns_NotFit : List Str := [("FeltError" : Str), ("BadRatio" : Str), ("BadPlace" : Str), ("BadDirection" : Str), ("BadAmount" : Str), ("BadSize" : Str), ("BadPatch" : Str), ("BadTable" : Str), ("BadText" : Str), ("BadFact" : Str), ("BadCase" : Str), ("NoFact" : Str), ("NoStones" : Str), ("BadChoice" : Str), ("BadLots" : Str), ("NotMet" : Str), ("BadClaim" : Str), ("NoArea" : Str), ("BadCorner" : Str), ("BadKept" : Str), ("TooMany" : Str), ("BadLine" : Str), ("BadReading" : Str), ("BadBreadth" : Str), ("BadBox" : Str), ("BadDirections" : Str), ("BadStone" : Str), ("BadMost" : Str), ("BadChange" : Str), ("BadWish" : Str), ("NoNumber" : Str), ("BookFull" : Str)]
abbrev ys_BadChoice : List Str := [("BadChoice" : Str)]
abbrev ns_BadChoice : List Str := [("FeltError" : Str), ("BadRatio" : Str), ("BadPlace" : Str), ("BadDirection" : Str), ("BadAmount" : Str), ("BadSize" : Str), ("BadPatch" : Str), ("BadTable" : Str), ("BadText" : Str), ("BadFact" : Str), ("BadCase" : Str), ("NoFact" : Str), ("NoStones" : Str), ("NotFit" : Str), ("BadLots" : Str), ("NotMet" : Str), ("BadClaim" : Str), ("NoArea" : Str), ("BadCorner" : Str), ("BadKept" : Str), ("TooMany" : Str), ("BadLine" : Str), ("BadReading" : Str), ("BadBreadth" : Str), ("BadBox" : Str), ("BadDirections" : Str), ("BadStone" : Str), ("BadMost" : Str), ("BadChange" : Str), ("BadWish" : Str), ("NoNumber" : Str), ("BookFull" : Str)]
abbrev ys_BadKept : List Str := [("BadKept" : Str)]
abbrev ns_BadKept : List Str := [("FeltError" : Str), ("BadRatio" : Str), ("BadPlace" : Str), ("BadDirection" : Str), ("BadAmount" : Str), ("BadSize" : Str), ("BadPatch" : Str), ("BadTable" : Str), ("BadText" : Str), ("BadFact" : Str), ("BadCase" : Str), ("NoFact" : Str), ("NoStones" : Str), ("BadChoice" : Str), ("NotFit" : Str), ("BadLots" : Str), ("NotMet" : Str), ("BadClaim" : Str), ("NoArea" : Str), ("BadCorner" : Str), ("TooMany" : Str), ("BadLine" : Str), ("BadReading" : Str), ("BadBreadth" : Str), ("BadBox" : Str), ("BadDirections" : Str), ("BadStone" : Str), ("BadMost" : Str), ("BadChange" : Str), ("BadWish" : Str), ("NoNumber" : Str), ("BookFull" : Str)]
abbrev ys_BadCorner : List Str := [("BadCorner" : Str)]
abbrev ns_BadCorner : List Str := [("FeltError" : Str), ("BadRatio" : Str), ("BadPlace" : Str), ("BadDirection" : Str), ("BadAmount" : Str), ("BadSize" : Str), ("BadPatch" : Str), ("BadTable" : Str), ("BadText" : Str), ("BadFact" : Str), ("BadCase" : Str), ("NoFact" : Str), ("NoStones" : Str), ("BadChoice" : Str), ("NotFit" : Str), ("BadLots" : Str), ("NotMet" : Str), ("BadClaim" : Str), ("NoArea" : Str), ("BadKept" : Str), ("TooMany" : Str), ("BadLine" : Str), ("BadReading" : Str), ("BadBreadth" : Str), ("BadBox" : Str), ("BadDirections" : Str), ("BadStone" : Str), ("BadMost" : Str), ("BadChange" : Str), ("BadWish" : Str), ("NoNumber" : Str), ("BookFull" : Str)]
abbrev ys_NoArea : List Str := [("NoArea" : Str)]
abbrev ns_NoArea : List Str := [("FeltError" : Str), ("BadRatio" : Str), ("BadPlace" : Str), ("BadDirection" : Str), ("BadAmount" : Str), ("BadSize" : Str), ("BadPatch" : Str), ("BadTable" : Str), ("BadText" : Str), ("BadFact" : Str), ("BadCase" : Str), ("NoFact" : Str), ("NoStones" : Str), ("BadChoice" : Str), ("NotFit" : Str), ("BadLots" : Str), ("NotMet" : Str), ("BadClaim" : Str), ("BadCorner" : Str), ("BadKept" : Str), ("TooMany" : Str), ("BadLine" : Str), ("BadReading" : Str), ("BadBreadth" : Str), ("BadBox" : Str), ("BadDirections" : Str), ("BadStone" : Str), ("BadMost" : Str), ("BadChange" : Str), ("BadWish" : Str), ("NoNumber" : Str), ("BookFull" : Str)]
abbrev ys_BadClaim : List Str := [("BadClaim" : Str)]
abbrev ns_BadClaim : List Str := [("FeltError" : Str), ("BadRatio" : Str), ("BadPlace" : Str), ("BadDirection" : Str), ("BadAmount" : Str), ("BadSize" : Str), ("BadPatch" : Str), ("BadTable" : Str), ("BadText" : Str), ("BadFact" : Str), ("BadCase" : Str), ("NoFact" : Str), ("NoStones" : Str), ("BadChoice" : Str), ("NotFit" : Str), ("BadLots" : Str), ("NotMet" : Str), ("NoArea" : Str), ("BadCorner" : Str), ("BadKept" : Str), ("TooMany" : Str), ("BadLine" : Str), ("BadReading" : Str), ("BadBreadth" : Str), ("BadBox" : Str), ("BadDirections" : Str), ("BadStone" : Str), ("BadMost" : Str), ("BadChange" : Str), ("BadWish" : Str), ("NoNumber" : Str), ("BookFull" : Str)]
abbrev ys_BadBreadth : List Str := [("BadBreadth" : Str)]
abbrev ns_BadBreadth : List Str := [("FeltError" : Str), ("BadRatio" : Str), ("BadPlace" : Str), ("BadDirection" : Str), ("BadAmount" : Str), ("BadSize" : Str), ("BadPatch" : Str), ("BadTable" : Str), ("BadText" : Str), ("BadFact" : Str), ("BadCase" : Str), ("NoFact" : Str), ("NoStones" : Str), ("BadChoice" : Str), ("NotFit" : Str), ("BadLots" : Str), ("NotMet" : Str), ("BadClaim" : Str), ("NoArea" : Str), ("BadCorner" : Str), ("BadKept" : Str), ("TooMany" : Str), ("BadLine" : Str), ("BadReading" : Str), ("BadBox" : Str), ("BadDirections" : Str), ("BadStone" : Str), ("BadMost" : Str), ("BadChange" : Str), ("BadWish" : Str), ("NoNumber" : Str), ("BookFull" : Str)]
abbrev ys_BadReading : List Str := [("BadReading" : Str)]
abbrev ns_BadReading : List Str := [("FeltError" : Str), ("BadRatio" : Str), ("BadPlace" : Str), ("BadDirection" : Str), ("BadAmount" : Str), ("BadSize" : Str), ("BadPatch" : Str), ("BadTable" : Str), ("BadText" : Str), ("BadFact" : Str), ("BadCase" : Str), ("NoFact" : Str), ("NoStones" : Str), ("BadChoice" : Str), ("NotFit" : Str), ("BadLots" : Str), ("NotMet" : Str), ("BadClaim" : Str), ("NoArea" : Str), ("BadCorner" : Str), ("BadKept" : Str), ("TooMany" : Str), ("BadLine" : Str), ("BadBreadth" : Str), ("BadBox" : Str), ("BadDirections" : Str), ("BadStone" : Str), ("BadMost" : Str), ("BadChange" : Str), ("BadWish" : Str), ("NoNumber" : Str), ("BookFull" : Str)]
abbrev ys_BadLine : List Str := [("BadLine" : Str)]
abbrev ns_BadLine : List Str := [("FeltError" : Str), ("BadRatio" : Str), ("BadPlace" : Str), ("BadDirection" : Str), ("BadAmount" : Str), ("BadSize" : Str), ("BadPatch" : Str), ("BadTable" : Str), ("BadText" : Str), ("BadFact" : Str), ("BadCase" : Str), ("NoFact" : Str), ("NoStones" : Str), ("BadChoice" : Str), ("NotFit" : Str), ("BadLots" : Str), ("NotMet" : Str), ("BadClaim" : Str), ("NoArea" : Str), ("BadCorner" : Str), ("BadKept" : Str), ("TooMany" : Str), ("BadReading" : Str), ("BadBreadth" : Str), ("BadBox" : Str), ("BadDirections" : Str), ("BadStone" : Str), ("BadMost" : Str), ("BadChange" : Str), ("BadWish" : Str), ("NoNumber" : Str), ("BookFull" : Str)]
abbrev ys_TooMany : List Str := [("TooMany" : Str)]
abbrev ns_TooMany : List Str := [("FeltError" : Str), ("BadRatio" : Str), ("BadPlace" : Str), ("BadDirection" : Str), ("BadAmount" : Str), ("BadSize" : Str), ("BadPatch" : Str), ("BadTable" : Str), ("BadText" : Str), ("BadFact" : Str), ("BadCase" : Str), ("NoFact" : Str), ("NoStones" : Str), ("BadChoice" : Str), ("NotFit" : Str), ("BadLots" : Str), ("NotMet" : Str), ("BadClaim" : Str), ("NoArea" : Str), ("BadCorner" : Str), ("BadKept" : Str), ("BadLine" : Str), ("BadReading" : Str), ("BadBreadth" : Str), ("BadBox" : Str), ("BadDirections" : Str), ("BadStone" : Str), ("BadMost" : Str), ("BadChange" : Str), ("BadWish" : Str), ("NoNumber" : Str), ("BookFull" : Str)]
abbrev ys_BadMost : List Str := [("BadMost" : Str)]
abbrev ns_BadMost : List Str := [("FeltError" : Str), ("BadRatio" : Str), ("BadPlace" : Str), ("BadDirection" : Str), ("BadAmount" : Str), ("BadSize" : Str), ("BadPatch" : Str), ("BadTable" : Str), ("BadText" : Str), ("BadFact" : Str), ("BadCase" : Str), ("NoFact" : Str), ("NoStones" : Str), ("BadChoice" : Str), ("NotFit" : Str), ("BadLots" : Str), ("NotMet" : Str), ("BadClaim" : Str), ("NoArea" : Str), ("BadCorner" : Str), ("BadKept" : Str), ("TooMany" : Str), ("BadLine" : Str), ("BadReading" : Str), ("BadBreadth" : Str), ("BadBox" : Str), ("BadDirections" : Str), ("BadStone" : Str), ("BadChange" : Str), ("BadWish" : Str), ("NoNumber" : Str), ("BookFull" : Str)]
abbrev ys_BadStone : List Str := [("BadStone" : Str)]
abbrev ns_BadStone : List Str := [("FeltError" : Str), ("BadRatio" : Str), ("BadPlace" : Str), ("BadDirection" : Str), ("BadAmount" : Str), ("BadSize" : Str), ("BadPatch" : Str), ("BadTable" : Str), ("BadText" : Str), ("BadFact" : Str), ("BadCase" : Str), ("NoFact" : Str), ("NoStones" : Str), ("BadChoice" : Str), ("NotFit" : Str), ("BadLots" : Str), ("NotMet" : Str), ("BadClaim" : Str), ("NoArea" : Str), ("BadCorner" : Str), ("BadKept" : Str), ("TooMany" : Str), ("BadLine" : Str), ("BadReading" : Str), ("BadBreadth" : Str), ("BadBox" : Str), ("BadDirections" : Str), ("BadMost" : Str), ("BadChange" : Str), ("BadWish" : Str), ("NoNumber" : Str), ("BookFull" : Str)]
abbrev ys_BadDirections : List Str := [("BadDirections" : Str)]
abbrev ns_BadDirections : List Str := [("FeltError" : Str), ("BadRatio" : Str), ("BadPlace" : Str), ("BadDirection" : Str), ("BadAmount" : Str), ("BadSize" : Str), ("BadPatch" : Str), ("BadTable" : Str), ("BadText" : Str), ("BadFact" : Str), ("BadCase" : Str), ("NoFact" : Str), ("NoStones" : Str), ("BadChoice" : Str), ("NotFit" : Str), ("BadLots" : Str), ("NotMet" : Str), ("BadClaim" : Str), ("NoArea" : Str), ("BadCorner" : Str), ("BadKept" : Str), ("TooMany" : Str), ("BadLine" : Str), ("BadReading" : Str), ("BadBreadth" : Str), ("BadBox" : Str), ("BadStone" : Str), ("BadMost" : Str), ("BadChange" : Str), ("BadWish" : Str), ("NoNumber" : Str), ("BookFull" : Str)]
abbrev ys_BadBox : List Str := [("BadBox" : Str)]
abbrev ns_BadBox : List Str := [("FeltError" : Str), ("BadRatio" : Str), ("BadPlace" : Str), ("BadDirection" : Str), ("BadAmount" : Str), ("BadSize" : Str), ("BadPatch" : Str), ("BadTable" : Str), ("BadText" : Str), ("BadFact" : Str), ("BadCase" : Str), ("NoFact" : Str), ("NoStones" : Str), ("BadChoice" : Str), ("NotFit" : Str), ("BadLots" : Str), ("NotMet" : Str), ("BadClaim" : Str), ("NoArea" : Str), ("BadCorner" : Str), ("BadKept" : Str), ("TooMany" : Str), ("BadLine" : Str), ("BadReading" : Str), ("BadBreadth" : Str), ("BadDirections" : Str), ("BadStone" : Str), ("BadMost" : Str), ("BadChange" : Str), ("BadWish" : Str), ("NoNumber" : Str), ("BookFull" : Str)]
abbrev ys_BookFull : List Str := [("BookFull" : Str)]
abbrev ns_BookFull : List Str := [("FeltError" : Str), ("BadRatio" : Str), ("BadPlace" : Str), ("BadDirection" : Str), ("BadAmount" : Str), ("BadSize" : Str), ("BadPatch" : Str), ("BadTable" : Str), ("BadText" : Str), ("BadFact" : Str), ("BadCase" : Str), ("NoFact" : Str), ("NoStones" : Str), ("BadChoice" : Str), ("NotFit" : Str), ("BadLots" : Str), ("NotMet" : Str), ("BadClaim" : Str), ("NoArea" : Str), ("BadCorner" : Str), ("BadKept" : Str), ("TooMany" : Str), ("BadLine" : Str), ("BadReading" : Str), ("BadBreadth" : Str), ("BadBox" : Str), ("BadDirections" : Str), ("BadStone" : Str), ("BadMost" : Str), ("BadChange" : Str), ("BadWish" : Str), ("NoNumber" : Str)]
abbrev ys_NoNumber : List Str := [("NoNumber" : Str)]
abbrev ns_NoNumber : List Str := [("FeltError" : Str), ("BadRatio" : Str), ("BadPlace" : Str), ("BadDirection" : Str), ("BadAmount" : Str), ("BadSize" : Str), ("BadPatch" : Str), ("BadTable" : Str), ("BadText" : Str), ("BadFact" : Str), ("BadCase" : Str), ("NoFact" : Str), ("NoStones" : Str), ("BadChoice" : Str), ("NotFit" : Str), ("BadLots" : Str), ("NotMet" : Str), ("BadClaim" : Str), ("NoArea" : Str), ("BadCorner" : Str), ("BadKept" : Str), ("TooMany" : Str), ("BadLine" : Str), ("BadReading" : Str), ("BadBreadth" : Str), ("BadBox" : Str), ("BadDirections" : Str), ("BadStone" : Str), ("BadMost" : Str), ("BadChange" : Str), ("BadWish" : Str), ("BookFull" : Str)]
abbrev ys_BadWish : List Str := [("BadWish" : Str)]
abbrev ns_BadWish : List Str := [("FeltError" : Str), ("BadRatio" : Str), ("BadPlace" : Str), ("BadDirection" : Str), ("BadAmount" : Str), ("BadSize" : Str), ("BadPatch" : Str), ("BadTable" : Str), ("BadText" : Str), ("BadFact" : Str), ("BadCase" : Str), ("NoFact" : Str), ("NoStones" : Str), ("BadChoice" : Str), ("NotFit" : Str), ("BadLots" : Str), ("NotMet" : Str), ("BadClaim" : Str), ("NoArea" : Str), ("BadCorner" : Str), ("BadKept" : Str), ("TooMany" : Str), ("BadLine" : Str), ("BadReading" : Str), ("BadBreadth" : Str), ("BadBox" : Str), ("BadDirections" : Str), ("BadStone" : Str), ("BadMost" : Str), ("BadChange" : Str), ("NoNumber" : Str), ("BookFull" : Str)]
abbrev ys_BadChange : List Str := [("BadChange" : Str)]
abbrev ns_BadChange : List Str := [("FeltError" : Str), ("BadRatio" : Str), ("BadPlace" : Str), ("BadDirection" : Str), ("BadAmount" : Str), ("BadSize" : Str), ("BadPatch" : Str), ("BadTable" : Str), ("BadText" : Str), ("BadFact" : Str), ("BadCase" : Str), ("NoFact" : Str), ("NoStones" : Str), ("BadChoice" : Str), ("NotFit" : Str), ("BadLots" : Str), ("NotMet" : Str), ("BadClaim" : Str), ("NoArea" : Str), ("BadCorner" : Str), ("BadKept" : Str), ("TooMany" : Str), ("BadLine" : Str), ("BadReading" : Str), ("BadBreadth" : Str), ("BadBox" : Str), ("BadDirections" : Str), ("BadStone" : Str), ("BadMost" : Str), ("BadWish" : Str), ("NoNumber" : Str), ("BookFull" : Str)]
abbrev ir_Lclasses : List S := [.asg (.nm 1) (.frz (.disp (.cons (.isO (.var 0) ("BadRatio" : Str) ys_BadRatio ns_BadRatio) (.cons (.isO (.var 0) ("BadPlace" : Str) ys_BadPlace ns_BadPlace) (.cons (.isO (.var 0) ("BadDirection" : Str) ys_BadDirection ns_BadDirection) (.cons (.isO (.var 0) ("BadAmount" : Str) ys_BadAmount ns_BadAmount) (.nil))))))),
    .asg (.nm 1) (.frz (.cat (.var 1) (.frz (.disp (.cons (.isO (.var 0) ("BadSize" : Str) ys_BadSize ns_BadSize) (.cons (.isO (.var 0) ("BadPatch" : Str) ys_BadPatch ns_BadPatch) (.cons (.isO (.var 0) ("BadTable" : Str) ys_BadTable ns_BadTable) (.cons (.isO (.var 0) ("BadText" : Str) ys_BadText ns_BadText) (.nil))))))))),
    .asg (.nm 1) (.frz (.cat (.var 1) (.frz (.disp (.cons (.isO (.var 0) ("BadFact" : Str) ys_BadFact ns_BadFact) (.cons (.isO (.var 0) ("BadCase" : Str) ys_BadCase ns_BadCase) (.cons (.isO (.var 0) ("NoFact" : Str) ys_NoFact ns_NoFact) (.cons (.isO (.var 0) ("NoStones" : Str) ys_NoStones ns_NoStones) (.nil))))))))),
    .asg (.nm 1) (.frz (.cat (.var 1) (.frz (.disp (.cons (.isO (.var 0) ("BadChoice" : Str) ys_BadChoice ns_BadChoice) (.cons (.isO (.var 0) ("NotFit" : Str) ys_NotFit ns_NotFit) (.cons (.isO (.var 0) ("BadLots" : Str) ys_BadLots ns_BadLots) (.cons (.isO (.var 0) ("NotMet" : Str) ys_NotMet ns_NotMet) (.nil))))))))),
    .asg (.nm 1) (.frz (.cat (.var 1) (.frz (.disp (.cons (.isO (.var 0) ("BadClaim" : Str) ys_BadClaim ns_BadClaim) (.cons (.isO (.var 0) ("NoArea" : Str) ys_NoArea ns_NoArea) (.cons (.isO (.var 0) ("BadCorner" : Str) ys_BadCorner ns_BadCorner) (.cons (.isO (.var 0) ("BadKept" : Str) ys_BadKept ns_BadKept) (.nil))))))))),
    .asg (.nm 1) (.frz (.cat (.var 1) (.frz (.disp (.cons (.isO (.var 0) ("TooMany" : Str) ys_TooMany ns_TooMany) (.cons (.isO (.var 0) ("BadLine" : Str) ys_BadLine ns_BadLine) (.cons (.isO (.var 0) ("BadReading" : Str) ys_BadReading ns_BadReading) (.cons (.isO (.var 0) ("BadBreadth" : Str) ys_BadBreadth ns_BadBreadth) (.nil))))))))),
    .asg (.nm 1) (.frz (.cat (.var 1) (.frz (.disp (.cons (.isO (.var 0) ("BadBox" : Str) ys_BadBox ns_BadBox) (.cons (.isO (.var 0) ("BadDirections" : Str) ys_BadDirections ns_BadDirections) (.cons (.isO (.var 0) ("BadStone" : Str) ys_BadStone ns_BadStone) (.cons (.isO (.var 0) ("BadMost" : Str) ys_BadMost ns_BadMost) (.nil))))))))),
    .asg (.nm 1) (.frz (.cat (.var 1) (.frz (.disp (.cons (.isO (.var 0) ("BadChange" : Str) ys_BadChange ns_BadChange) (.cons (.isO (.var 0) ("BadWish" : Str) ys_BadWish ns_BadWish) (.cons (.isO (.var 0) ("NoNumber" : Str) ys_NoNumber ns_NoNumber) (.cons (.isO (.var 0) ("BookFull" : Str) ys_BookFull ns_BookFull) (.nil))))))))),
    .ret (.var 1)]
def f_Lclasses : FS := mkFS ("_law_classes" : Str) 1 1 none false ir_Lclasses
theorem v_Lclasses_0 : Vr N_Lclasses sc_Lclasses 0 ("e" : Str) := vr_of (by decide +kernel)
theorem v_Lclasses_1 : Vr N_Lclasses sc_Lclasses 1 ("found" : Str) := vr_of (by decide +kernel)
theorem g_Lclasses_BadAmount : Gb sc_Lclasses ("BadAmount" : Str) := gb_of (by decide +kernel)
theorem g_Lclasses_BadBox : Gb sc_Lclasses ("BadBox" : Str) := gb_of (by decide +kernel)
theorem g_Lclasses_BadBreadth : Gb sc_Lclasses ("BadBreadth" : Str) := gb_of (by decide +kernel)
theorem g_Lclasses_BadCase : Gb sc_Lclasses ("BadCase" : Str) := gb_of (by decide +kernel)
theorem g_Lclasses_BadChange : Gb sc_Lclasses ("BadChange" : Str) := gb_of (by decide +kernel)
theorem g_Lclasses_BadChoice : Gb sc_Lclasses ("BadChoice" : Str) := gb_of (by decide +kernel)
theorem g_Lclasses_BadClaim : Gb sc_Lclasses ("BadClaim" : Str) := gb_of (by decide +kernel)
theorem g_Lclasses_BadCorner : Gb sc_Lclasses ("BadCorner" : Str) := gb_of (by decide +kernel)
theorem g_Lclasses_BadDirection : Gb sc_Lclasses ("BadDirection" : Str) := gb_of (by decide +kernel)
theorem g_Lclasses_BadDirections : Gb sc_Lclasses ("BadDirections" : Str) := gb_of (by decide +kernel)
theorem g_Lclasses_BadFact : Gb sc_Lclasses ("BadFact" : Str) := gb_of (by decide +kernel)
theorem g_Lclasses_BadKept : Gb sc_Lclasses ("BadKept" : Str) := gb_of (by decide +kernel)
theorem g_Lclasses_BadLine : Gb sc_Lclasses ("BadLine" : Str) := gb_of (by decide +kernel)
theorem g_Lclasses_BadLots : Gb sc_Lclasses ("BadLots" : Str) := gb_of (by decide +kernel)
theorem g_Lclasses_BadMost : Gb sc_Lclasses ("BadMost" : Str) := gb_of (by decide +kernel)
theorem g_Lclasses_BadPatch : Gb sc_Lclasses ("BadPatch" : Str) := gb_of (by decide +kernel)
theorem g_Lclasses_BadPlace : Gb sc_Lclasses ("BadPlace" : Str) := gb_of (by decide +kernel)
theorem g_Lclasses_BadRatio : Gb sc_Lclasses ("BadRatio" : Str) := gb_of (by decide +kernel)
theorem g_Lclasses_BadReading : Gb sc_Lclasses ("BadReading" : Str) := gb_of (by decide +kernel)
theorem g_Lclasses_BadSize : Gb sc_Lclasses ("BadSize" : Str) := gb_of (by decide +kernel)
theorem g_Lclasses_BadStone : Gb sc_Lclasses ("BadStone" : Str) := gb_of (by decide +kernel)
theorem g_Lclasses_BadTable : Gb sc_Lclasses ("BadTable" : Str) := gb_of (by decide +kernel)
theorem g_Lclasses_BadText : Gb sc_Lclasses ("BadText" : Str) := gb_of (by decide +kernel)
theorem g_Lclasses_BadWish : Gb sc_Lclasses ("BadWish" : Str) := gb_of (by decide +kernel)
theorem g_Lclasses_BookFull : Gb sc_Lclasses ("BookFull" : Str) := gb_of (by decide +kernel)
theorem g_Lclasses_NoArea : Gb sc_Lclasses ("NoArea" : Str) := gb_of (by decide +kernel)
theorem g_Lclasses_NoFact : Gb sc_Lclasses ("NoFact" : Str) := gb_of (by decide +kernel)
theorem g_Lclasses_NoNumber : Gb sc_Lclasses ("NoNumber" : Str) := gb_of (by decide +kernel)
theorem g_Lclasses_NoStones : Gb sc_Lclasses ("NoStones" : Str) := gb_of (by decide +kernel)
theorem g_Lclasses_NotFit : Gb sc_Lclasses ("NotFit" : Str) := gb_of (by decide +kernel)
theorem g_Lclasses_NotMet : Gb sc_Lclasses ("NotMet" : Str) := gb_of (by decide +kernel)
theorem g_Lclasses_TooMany : Gb sc_Lclasses ("TooMany" : Str) := gb_of (by decide +kernel)
theorem g_Lclasses_isinstance : Gb sc_Lclasses ("isinstance" : Str) := gb_of (by decide +kernel)
theorem b_Lclasses {G : Gx} (ho : IsiOk G) (f_isinstance : G.mg "isinstance" = none) (i_BadAmount : IsoOk G ("BadAmount" : Str) ys_BadAmount ns_BadAmount) (i_BadBox : IsoOk G ("BadBox" : Str) ys_BadBox ns_BadBox) (i_BadBreadth : IsoOk G ("BadBreadth" : Str) ys_BadBreadth ns_BadBreadth) (i_BadCase : IsoOk G ("BadCase" : Str) ys_BadCase ns_BadCase) (i_BadChange : IsoOk G ("BadChange" : Str) ys_BadChange ns_BadChange) (i_BadChoice : IsoOk G ("BadChoice" : Str) ys_BadChoice ns_BadChoice) (i_BadClaim : IsoOk G ("BadClaim" : Str) ys_BadClaim ns_BadClaim) (i_BadCorner : IsoOk G ("BadCorner" : Str) ys_BadCorner ns_BadCorner) (i_BadDirection : IsoOk G ("BadDirection" : Str) ys_BadDirection ns_BadDirection) (i_BadDirections : IsoOk G ("BadDirections" : Str) ys_BadDirections ns_BadDirections) (i_BadFact : IsoOk G ("BadFact" : Str) ys_BadFact ns_BadFact) (i_BadKept : IsoOk G ("BadKept" : Str) ys_BadKept ns_BadKept) (i_BadLine : IsoOk G ("BadLine" : Str) ys_BadLine ns_BadLine) (i_BadLots : IsoOk G ("BadLots" : Str) ys_BadLots ns_BadLots) (i_BadMost : IsoOk G ("BadMost" : Str) ys_BadMost ns_BadMost) (i_BadPatch : IsoOk G ("BadPatch" : Str) ys_BadPatch ns_BadPatch) (i_BadPlace : IsoOk G ("BadPlace" : Str) ys_BadPlace ns_BadPlace) (i_BadRatio : IsoOk G ("BadRatio" : Str) ys_BadRatio ns_BadRatio) (i_BadReading : IsoOk G ("BadReading" : Str) ys_BadReading ns_BadReading) (i_BadSize : IsoOk G ("BadSize" : Str) ys_BadSize ns_BadSize) (i_BadStone : IsoOk G ("BadStone" : Str) ys_BadStone ns_BadStone) (i_BadTable : IsoOk G ("BadTable" : Str) ys_BadTable ns_BadTable) (i_BadText : IsoOk G ("BadText" : Str) ys_BadText ns_BadText) (i_BadWish : IsoOk G ("BadWish" : Str) ys_BadWish ns_BadWish) (i_BookFull : IsoOk G ("BookFull" : Str) ys_BookFull ns_BookFull) (i_NoArea : IsoOk G ("NoArea" : Str) ys_NoArea ns_NoArea) (i_NoFact : IsoOk G ("NoFact" : Str) ys_NoFact ns_NoFact) (i_NoNumber : IsoOk G ("NoNumber" : Str) ys_NoNumber ns_NoNumber) (i_NoStones : IsoOk G ("NoStones" : Str) ys_NoStones ns_NoStones) (i_NotFit : IsoOk G ("NotFit" : Str) ys_NotFit ns_NotFit) (i_NotMet : IsoOk G ("NotMet" : Str) ys_NotMet ns_NotMet) (i_TooMany : IsoOk G ("TooMany" : Str) ys_TooMany ns_TooMany) : BodyOk G 0 N_Lclasses sc_Lclasses (defBody (top 42)) ir_Lclasses := fun X W B g T hB =>
    (ss_cons (r_asg g T v_Lclasses_1 (q_frz (q_disp (p_cons (p_isO g i_BadRatio f_isinstance g_Lclasses_isinstance g_Lclasses_BadRatio (p_var g (v_Lclasses_0).f) rfl) (p_cons (p_isO g i_BadPlace f_isinstance g_Lclasses_isinstance g_Lclasses_BadPlace (p_var g (v_Lclasses_0).f) rfl) (p_cons (p_isO g i_BadDirection f_isinstance g_Lclasses_isinstance g_Lclasses_BadDirection (p_var g (v_Lclasses_0).f) rfl) (p_cons (p_isO g i_BadAmount f_isinstance g_Lclasses_isinstance g_Lclasses_BadAmount (p_var g (v_Lclasses_0).f) rfl) q_nil rfl) rfl) rfl) rfl))) rfl)
    (ss_cons (r_asg g T v_Lclasses_1 (q_frz (q_cat (p_var g (v_Lclasses_1).f) (q_frz (q_disp (p_cons (p_isO g i_BadSize f_isinstance g_Lclasses_isinstance g_Lclasses_BadSize (p_var g (v_Lclasses_0).f) rfl) (p_cons (p_isO g i_BadPatch f_isinstance g_Lclasses_isinstance g_Lclasses_BadPatch (p_var g (v_Lclasses_0).f) rfl) (p_cons (p_isO g i_BadTable f_isinstance g_Lclasses_isinstance g_Lclasses_BadTable (p_var g (v_Lclasses_0).f) rfl) (p_cons (p_isO g i_BadText f_isinstance g_Lclasses_isinstance g_Lclasses_BadText (p_var g (v_Lclasses_0).f) rfl) q_nil rfl) rfl) rfl) rfl))))) rfl)
    (ss_cons (r_asg g T v_Lclasses_1 (q_frz (q_cat (p_var g (v_Lclasses_1).f) (q_frz (q_disp (p_cons (p_isO g i_BadFact f_isinstance g_Lclasses_isinstance g_Lclasses_BadFact (p_var g (v_Lclasses_0).f) rfl) (p_cons (p_isO g i_BadCase f_isinstance g_Lclasses_isinstance g_Lclasses_BadCase (p_var g (v_Lclasses_0).f) rfl) (p_cons (p_isO g i_NoFact f_isinstance g_Lclasses_isinstance g_Lclasses_NoFact (p_var g (v_Lclasses_0).f) rfl) (p_cons (p_isO g i_NoStones f_isinstance g_Lclasses_isinstance g_Lclasses_NoStones (p_var g (v_Lclasses_0).f) rfl) q_nil rfl) rfl) rfl) rfl))))) rfl)
    (ss_cons (r_asg g T v_Lclasses_1 (q_frz (q_cat (p_var g (v_Lclasses_1).f) (q_frz (q_disp (p_cons (p_isO g i_BadChoice f_isinstance g_Lclasses_isinstance g_Lclasses_BadChoice (p_var g (v_Lclasses_0).f) rfl) (p_cons (p_isO g i_NotFit f_isinstance g_Lclasses_isinstance g_Lclasses_NotFit (p_var g (v_Lclasses_0).f) rfl) (p_cons (p_isO g i_BadLots f_isinstance g_Lclasses_isinstance g_Lclasses_BadLots (p_var g (v_Lclasses_0).f) rfl) (p_cons (p_isO g i_NotMet f_isinstance g_Lclasses_isinstance g_Lclasses_NotMet (p_var g (v_Lclasses_0).f) rfl) q_nil rfl) rfl) rfl) rfl))))) rfl)
    (ss_cons (r_asg g T v_Lclasses_1 (q_frz (q_cat (p_var g (v_Lclasses_1).f) (q_frz (q_disp (p_cons (p_isO g i_BadClaim f_isinstance g_Lclasses_isinstance g_Lclasses_BadClaim (p_var g (v_Lclasses_0).f) rfl) (p_cons (p_isO g i_NoArea f_isinstance g_Lclasses_isinstance g_Lclasses_NoArea (p_var g (v_Lclasses_0).f) rfl) (p_cons (p_isO g i_BadCorner f_isinstance g_Lclasses_isinstance g_Lclasses_BadCorner (p_var g (v_Lclasses_0).f) rfl) (p_cons (p_isO g i_BadKept f_isinstance g_Lclasses_isinstance g_Lclasses_BadKept (p_var g (v_Lclasses_0).f) rfl) q_nil rfl) rfl) rfl) rfl))))) rfl)
    (ss_cons (r_asg g T v_Lclasses_1 (q_frz (q_cat (p_var g (v_Lclasses_1).f) (q_frz (q_disp (p_cons (p_isO g i_TooMany f_isinstance g_Lclasses_isinstance g_Lclasses_TooMany (p_var g (v_Lclasses_0).f) rfl) (p_cons (p_isO g i_BadLine f_isinstance g_Lclasses_isinstance g_Lclasses_BadLine (p_var g (v_Lclasses_0).f) rfl) (p_cons (p_isO g i_BadReading f_isinstance g_Lclasses_isinstance g_Lclasses_BadReading (p_var g (v_Lclasses_0).f) rfl) (p_cons (p_isO g i_BadBreadth f_isinstance g_Lclasses_isinstance g_Lclasses_BadBreadth (p_var g (v_Lclasses_0).f) rfl) q_nil rfl) rfl) rfl) rfl))))) rfl)
    (ss_cons (r_asg g T v_Lclasses_1 (q_frz (q_cat (p_var g (v_Lclasses_1).f) (q_frz (q_disp (p_cons (p_isO g i_BadBox f_isinstance g_Lclasses_isinstance g_Lclasses_BadBox (p_var g (v_Lclasses_0).f) rfl) (p_cons (p_isO g i_BadDirections f_isinstance g_Lclasses_isinstance g_Lclasses_BadDirections (p_var g (v_Lclasses_0).f) rfl) (p_cons (p_isO g i_BadStone f_isinstance g_Lclasses_isinstance g_Lclasses_BadStone (p_var g (v_Lclasses_0).f) rfl) (p_cons (p_isO g i_BadMost f_isinstance g_Lclasses_isinstance g_Lclasses_BadMost (p_var g (v_Lclasses_0).f) rfl) q_nil rfl) rfl) rfl) rfl))))) rfl)
    (ss_cons (r_asg g T v_Lclasses_1 (q_frz (q_cat (p_var g (v_Lclasses_1).f) (q_frz (q_disp (p_cons (p_isO g i_BadChange f_isinstance g_Lclasses_isinstance g_Lclasses_BadChange (p_var g (v_Lclasses_0).f) rfl) (p_cons (p_isO g i_BadWish f_isinstance g_Lclasses_isinstance g_Lclasses_BadWish (p_var g (v_Lclasses_0).f) rfl) (p_cons (p_isO g i_NoNumber f_isinstance g_Lclasses_isinstance g_Lclasses_NoNumber (p_var g (v_Lclasses_0).f) rfl) (p_cons (p_isO g i_BookFull f_isinstance g_Lclasses_isinstance g_Lclasses_BookFull (p_var g (v_Lclasses_0).f) rfl) q_nil rfl) rfl) rfl) rfl))))) rfl)
    (ss_cons (s_ret (p_var g (v_Lclasses_1).f))
    ss_nil)))))))))
theorem s_Lclasses : FnScope N_Lclasses ["e"] sc_Lclasses := ⟨by rfl, by rfl, by rfl, by decide +kernel, by rfl, by decide +kernel, by decide +kernel⟩
/-! law_raised -/
abbrev N_Lraised : List Str := ["at", "word", "told", "wrong"]
abbrev sc_Lraised : Scope := defScope (top 43)
abbrev ys_ValueError : List Str := [("FeltError" : Str), ("BadRatio" : Str), ("BadPlace" : Str), ("BadDirection" : Str), ("BadAmount" : Str), ("BadSize" : Str), ("BadPatch" : Str), ("BadTable" : Str), ("BadText" : Str), ("BadFact" : Str), ("BadCase" : Str), ("NoFact" : Str), ("NoStones" : Str), ("BadChoice" : Str), ("NotFit" : Str), ("BadLots" : Str), ("NotMet" : Str), ("BadClaim" : Str), ("NoArea" : Str), ("BadCorner" : Str), ("BadKept" : Str), ("TooMany" : Str), ("BadLine" : Str), ("BadReading" : Str), ("BadBreadth" : Str), ("BadBox" : Str), ("BadDirections" : Str), ("BadStone" : Str), ("BadMost" : Str), ("BadChange" : Str), ("BadWish" : Str), ("NoNumber" : Str), ("BookFull" : Str)]
abbrev ns_ValueError : List Str := []
abbrev ir_Lraised : List S := [.asgM 2 (.disp (.nil)),
    .tryS2 [.rai ("BadCase" : Str) 2 [(("what" : Str), 1), (("index" : Str), 0)] (.cons (.var 0) (.cons (.var 1) (.nil)))] [("BadCase" : Str)] 3 [.app 2 (.bo true (.cons (.isC 3 ("BadCase" : Str) ys_BadCase ns_BadCase) (.cons (.cmp .eq (.exf 3 ("index" : Str) [("BadCase" : Str)]) (.var 0)) (.cons (.cmp .eq (.exf 3 ("what" : Str) [("BadCase" : Str)]) (.var 1)) (.nil)))))],
    .tryS2 [.rai ("NoFact" : Str) 1 [(("number" : Str), 0)] (.cons (.var 0) (.nil))] [("NoFact" : Str)] 3 [.app 2 (.bo true (.cons (.isC 3 ("NoFact" : Str) ys_NoFact ns_NoFact) (.cons (.isC 3 ("ValueError" : Str) ys_ValueError ns_ValueError) (.cons (.cmp .eq (.exf 3 ("number" : Str) [("NoFact" : Str)]) (.var 0)) (.nil)))))],
    .tryS2 [.rai ("NotMet" : Str) 0 [] .nil] [("NotMet" : Str)] 3 [.app 2 (.bo true (.cons (.isC 3 ("NotMet" : Str) ys_NotMet ns_NotMet) (.cons (.isC 3 ("ValueError" : Str) ys_ValueError ns_ValueError) (.nil))))],
    .retB 2]
def f_Lraised : FS := mkFS ("_law_raised" : Str) 2 2 none true ir_Lraised
theorem v_Lraised_0 : Vr N_Lraised sc_Lraised 0 ("at" : Str) := vr_of (by decide +kernel)
theorem v_Lraised_1 : Vr N_Lraised sc_Lraised 1 ("word" : Str) := vr_of (by decide +kernel)
theorem v_Lraised_2 : Vr N_Lraised sc_Lraised 2 ("told" : Str) := vr_of (by decide +kernel)
theorem v_Lraised_3 : Vr N_Lraised sc_Lraised 3 ("wrong" : Str) := vr_of (by decide +kernel)
theorem g_Lraised_BadCase : Gb sc_Lraised ("BadCase" : Str) := gb_of (by decide +kernel)
theorem g_Lraised_BadFact : Gb sc_Lraised ("BadFact" : Str) := gb_of (by decide +kernel)
theorem g_Lraised_FeltError : Gb sc_Lraised ("FeltError" : Str) := gb_of (by decide +kernel)
theorem g_Lraised_NoArea : Gb sc_Lraised ("NoArea" : Str) := gb_of (by decide +kernel)
theorem g_Lraised_NoFact : Gb sc_Lraised ("NoFact" : Str) := gb_of (by decide +kernel)
theorem g_Lraised_NoStones : Gb sc_Lraised ("NoStones" : Str) := gb_of (by decide +kernel)
theorem g_Lraised_NotMet : Gb sc_Lraised ("NotMet" : Str) := gb_of (by decide +kernel)
theorem g_Lraised_ValueError : Gb sc_Lraised ("ValueError" : Str) := gb_of (by decide +kernel)
theorem g_Lraised_isinstance : Gb sc_Lraised ("isinstance" : Str) := gb_of (by decide +kernel)
theorem b_Lraised {G : Gx} (ho : IsiOk G) (e_BadCase : ExcOk G ("BadCase" : Str) 2 [(("what" : Str), 1), (("index" : Str), 0)]) (e_NoFact : ExcOk G ("NoFact" : Str) 1 [(("number" : Str), 0)]) (e_NotMet : ExcOk G ("NotMet" : Str) 0 []) (f_isinstance : G.mg "isinstance" = none) (i_BadCase : IsoOk G ("BadCase" : Str) ys_BadCase ns_BadCase) (i_NoFact : IsoOk G ("NoFact" : Str) ys_NoFact ns_NoFact) (i_NotMet : IsoOk G ("NotMet" : Str) ys_NotMet ns_NotMet) (i_ValueError : IsoOk G ("ValueError" : Str) ys_ValueError ns_ValueError) (t2_BadFact_FeltError_BadCase : Try2Ok G ("BadFact" : Str) ("FeltError" : Str) [("BadCase" : Str)]) (t2_NoArea_FeltError_NoFact : Try2Ok G ("NoArea" : Str) ("FeltError" : Str) [("NoFact" : Str)]) (t2_NoStones_FeltError_NotMet : Try2Ok G ("NoStones" : Str) ("FeltError" : Str) [("NotMet" : Str)]) (x_index_BadCase : XfOk G ("index" : Str) [("BadCase" : Str)]) (x_number_NoFact : XfOk G ("number" : Str) [("NoFact" : Str)]) (x_what_BadCase : XfOk G ("what" : Str) [("BadCase" : Str)]) : BodyOk G 2 N_Lraised sc_Lraised (defBody (top 43)) ir_Lraised := fun X W B g T hB =>
    (ss_cons (r_asgM g T v_Lraised_2 (q_disp q_nil) rfl)
    (ss_cons (r_try2 g T hB t2_BadFact_FeltError_BadCase g_Lraised_BadFact g_Lraised_FeltError v_Lraised_3 (by decide +kernel) (fun X' W' g' T => (ss_cons (r_rai g' e_BadCase g_Lraised_BadCase (p_cons (p_var g' (v_Lraised_0).f) (p_cons (p_var g' (v_Lraised_1).f) q_nil rfl) rfl) rfl rfl)
    ss_nil)) (fun X' B' g' sx => (ss_cons (r_app g' (v_Lraised_2).f (q_boV (q_and (p_isC g' sx i_BadCase (by decide +kernel) f_isinstance g_Lraised_isinstance g_Lraised_BadCase (v_Lraised_3).f) (q_and (q_cmp g' (o := .eq) rfl (p_exf g' sx x_index_BadCase (v_Lraised_3).f) (p_var g' (v_Lraised_0).f) rfl) (q_bo1 (q_cmp g' (o := .eq) rfl (p_exf g' sx x_what_BadCase (v_Lraised_3).f) (p_var g' (v_Lraised_1).f) rfl))))) rfl rfl)
    ss_nil)))
    (ss_cons (r_try2 g T hB t2_NoArea_FeltError_NoFact g_Lraised_NoArea g_Lraised_FeltError v_Lraised_3 (by decide +kernel) (fun X' W' g' T => (ss_cons (r_rai g' e_NoFact g_Lraised_NoFact (p_cons (p_var g' (v_Lraised_0).f) q_nil rfl) rfl rfl)
    ss_nil)) (fun X' B' g' sx => (ss_cons (r_app g' (v_Lraised_2).f (q_boV (q_and (p_isC g' sx i_NoFact (by decide +kernel) f_isinstance g_Lraised_isinstance g_Lraised_NoFact (v_Lraised_3).f) (q_and (p_isC g' sx i_ValueError (by decide +kernel) f_isinstance g_Lraised_isinstance g_Lraised_ValueError (v_Lraised_3).f) (q_bo1 (q_cmp g' (o := .eq) rfl (p_exf g' sx x_number_NoFact (v_Lraised_3).f) (p_var g' (v_Lraised_0).f) rfl))))) rfl rfl)
    ss_nil)))
    (ss_cons (r_try2 g T hB t2_NoStones_FeltError_NotMet g_Lraised_NoStones g_Lraised_FeltError v_Lraised_3 (by decide +kernel) (fun X' W' g' T => (ss_cons (r_rai0 g' e_NotMet g_Lraised_NotMet)
    ss_nil)) (fun X' B' g' sx => (ss_cons (r_app g' (v_Lraised_2).f (q_boV (q_and (p_isC g' sx i_NotMet (by decide +kernel) f_isinstance g_Lraised_isinstance g_Lraised_NotMet (v_Lraised_3).f) (q_bo1 (p_isC g' sx i_ValueError (by decide +kernel) f_isinstance g_Lraised_isinstance g_Lraised_ValueError (v_Lraised_3).f)))) rfl rfl)
    ss_nil)))
    (ss_cons (r_retB g (v_Lraised_2).f)
    ss_nil)))))
theorem s_Lraised : FnScope N_Lraised ["at", "word"] sc_Lraised := ⟨by rfl, by rfl, by rfl, by decide +kernel, by rfl, by decide +kernel, by decide +kernel⟩
/-! law -/
abbrev N_law : List Str := ["script", "hand", "at", "to", "word", "name", "made", "k", "error", "told", "due", "spot", "base"]
abbrev sc_law : Scope := defScope (top 44)
abbrev ys_FeltError : List Str := [("FeltError" : Str), ("BadRatio" : Str), ("BadPlace" : Str), ("BadDirection" : Str), ("BadAmount" : Str), ("BadSize" : Str), ("BadPatch" : Str), ("BadTable" : Str), ("BadText" : Str), ("BadFact" : Str), ("BadCase" : Str), ("NoFact" : Str), ("NoStones" : Str), ("BadChoice" : Str), ("NotFit" : Str), ("BadLots" : Str), ("NotMet" : Str), ("BadClaim" : Str), ("NoArea" : Str), ("BadCorner" : Str), ("BadKept" : Str), ("TooMany" : Str), ("BadLine" : Str), ("BadReading" : Str), ("BadBreadth" : Str), ("BadBox" : Str), ("BadDirections" : Str), ("BadStone" : Str), ("BadMost" : Str), ("BadChange" : Str), ("BadWish" : Str), ("NoNumber" : Str), ("BookFull" : Str)]
abbrev ns_FeltError : List Str := []
abbrev ir_law : List S := [.asgM 1 (.call f_Lhand (.e (.var 0) (.nil)) []),
    .asg (.nm 2) (.bin .add (.bin .mul (.call f_Ltake (.b 1 (.e (.bin .pow (.cst (.int 10)) (.cst (.int 9))) (.nil))) []) (.bin .pow (.cst (.int 10)) (.cst (.int 9)))) (.call f_Ltake (.b 1 (.e (.bin .pow (.cst (.int 10)) (.cst (.int 9))) (.nil))) [])),
    .asg (.nm 3) (.bin .sub (.neg (.cst (.int 1))) (.call f_Ltake (.b 1 (.e (.bin .pow (.cst (.int 10)) (.cst (.int 9))) (.nil))) [])),
    .asg (.nm 4) (.call f_Lname (.b 1 (.nil)) []),
    .asg (.nm 5) (.bin .add (.bin .add (.call f_Lname (.b 1 (.nil)) []) (.cst (.str ("z" : Str)))) (.var 4)),
    .asg (.nm 6) (.frz (.cat (.frz (.cat (.frz (.call f_Lfirst (.e (.var 2) (.e (.var 3) (.e (.var 4) (.e (.var 5) (.nil))))) [])) (.frz (.call f_Lsecond (.e (.var 2) (.e (.var 3) (.e (.var 4) (.e (.var 5) (.nil))))) [])))) (.frz (.call f_Lthird (.e (.var 2) (.e (.var 3) (.e (.var 4) (.e (.var 5) (.nil))))) [])))),
    .forS (.nm 7) (.rng1 (.bi .len (.cons (.var 6) (.nil)))) [.asg (.tp [.nm 8, .nm 9, .nm 10]) (.idx (.var 6) (.var 7)),
    .ifS (.bo false (.cons (.cmp .ne (.var 9) (.var 10)) (.cons (.no (.e (.isO (.var 8) ("FeltError" : Str) ys_FeltError ns_FeltError))) (.cons (.no (.e (.isO (.var 8) ("ValueError" : Str) ys_ValueError ns_ValueError))) (.nil))))) [.ret (.cst (.bl false))] [],
    .ifS (.cmp .ne (.call f_Lclasses (.e (.var 8) (.nil)) []) (.frz (.comp (List.map (·.2) ([(("spot" : Str), 11)] : List (Str × Nat))) (.nm 11) (.rng1 (.bi .len (.cons (.var 6) (.nil)))) (.nil) (.cmp .eq (.var 11) (.var 7))))) [.ret (.cst (.bl false))] []],
    .asg (.nm 12) (.newX ("FeltError" : Str) 0 [] .nil),
    .ifS (.bo false (.cons (.no (.e (.isO (.var 12) ("ValueError" : Str) ys_ValueError ns_ValueError))) (.cons (.cmp .ne (.call f_Lclasses (.e (.var 12) (.nil)) []) (.frz (.rep (.frz (.disp (.cons (.cst (.bl false)) (.nil)))) (.bi .len (.cons (.var 6) (.nil)))))) (.nil)))) [.ret (.cst (.bl false))] [],
    .ret (.bo true (.cons (.cmp .eq (.bi .len (.cons (.var 6) (.nil))) (.cst (.int 32))) (.cons (.cmp .eq (.frz (.call f_Lraised (.e (.var 2) (.e (.var 4) (.nil))) [])) (.frz (.disp (.cons (.cst (.bl true)) (.cons (.cst (.bl true)) (.cons (.cst (.bl true)) (.nil))))))) (.nil))))]
def f_law : FS := mkFS ("law" : Str) 1 12 none false ir_law
theorem v_law_0 : Vr N_law sc_law 0 ("script" : Str) := vr_of (by decide +kernel)
theorem v_law_1 : Vr N_law sc_law 1 ("hand" : Str) := vr_of (by decide +kernel)
theorem v_law_2 : Vr N_law sc_law 2 ("at" : Str) := vr_of (by decide +kernel)
theorem v_law_3 : Vr N_law sc_law 3 ("to" : Str) := vr_of (by decide +kernel)
theorem v_law_4 : Vr N_law sc_law 4 ("word" : Str) := vr_of (by decide +kernel)
theorem v_law_5 : Vr N_law sc_law 5 ("name" : Str) := vr_of (by decide +kernel)
theorem v_law_6 : Vr N_law sc_law 6 ("made" : Str) := vr_of (by decide +kernel)
theorem v_law_7 : Vr N_law sc_law 7 ("k" : Str) := vr_of (by decide +kernel)
theorem v_law_8 : Vr N_law sc_law 8 ("error" : Str) := vr_of (by decide +kernel)
theorem v_law_9 : Vr N_law sc_law 9 ("told" : Str) := vr_of (by decide +kernel)
theorem v_law_10 : Vr N_law sc_law 10 ("due" : Str) := vr_of (by decide +kernel)
theorem v_law_12 : Vr N_law sc_law 12 ("base" : Str) := vr_of (by decide +kernel)
theorem g_law_FeltError : Gb sc_law ("FeltError" : Str) := gb_of (by decide +kernel)
theorem g_law_ValueError : Gb sc_law ("ValueError" : Str) := gb_of (by decide +kernel)
theorem g_law_Lclasses : Gb sc_law ("_law_classes" : Str) := gb_of (by decide +kernel)
theorem g_law_Lfirst : Gb sc_law ("_law_first" : Str) := gb_of (by decide +kernel)
theorem g_law_Lhand : Gb sc_law ("_law_hand" : Str) := gb_of (by decide +kernel)
theorem g_law_Lname : Gb sc_law ("_law_name" : Str) := gb_of (by decide +kernel)
theorem g_law_Lraised : Gb sc_law ("_law_raised" : Str) := gb_of (by decide +kernel)
theorem g_law_Lsecond : Gb sc_law ("_law_second" : Str) := gb_of (by decide +kernel)
theorem g_law_Ltake : Gb sc_law ("_law_take" : Str) := gb_of (by decide +kernel)
theorem g_law_Lthird : Gb sc_law ("_law_third" : Str) := gb_of (by decide +kernel)
theorem g_law_isinstance : Gb sc_law ("isinstance" : Str) := gb_of (by decide +kernel)
theorem g_law_len : Gb sc_law ("len" : Str) := gb_of (by decide +kernel)
theorem g_law_range : Gb sc_law ("range" : Str) := gb_of (by decide +kernel)
theorem b_law {G : Gx} (ho : IsiOk G) (f_isinstance : G.mg "isinstance" = none) (f_len : G.mg "len" = none) (f_range : G.mg "range" = none) (h_Lclasses : HasFn G 3 f_Lclasses []) (h_Lfirst : HasFn G 3 f_Lfirst []) (h_Lhand : HasFn G 3 f_Lhand []) (h_Lname : HasFn G 3 f_Lname []) (h_Lraised : HasFn G 3 f_Lraised []) (h_Lsecond : HasFn G 3 f_Lsecond []) (h_Ltake : HasFn G 3 f_Ltake []) (h_Lthird : HasFn G 3 f_Lthird []) (i_FeltError : IsoOk G ("FeltError" : Str) ys_FeltError ns_FeltError) (i_ValueError : IsoOk G ("ValueError" : Str) ys_ValueError ns_ValueError) (ne_FeltError : NewOk G ("FeltError" : Str)) : BodyOk G 3 N_law sc_law (defBody (top 44)) ir_law := fun X W B g T hB =>
    (ss_cons (r_asgM g T v_law_1 (p_callM g rfl h_Lhand g_law_Lhand (p_ae (p_var g (v_law_0).f) q_an rfl) rfl rfl) rfl)
    (ss_cons (r_asg g T v_law_2 (q_bin g (o := .add) rfl (q_bin g (o := .mul) rfl (p_call g rfl h_Ltake g_law_Ltake (p_ab g (v_law_1).f (p_ae (q_bin g (o := .pow) rfl q_cst_int q_cst_int) q_an rfl)) rfl rfl) (q_bin g (o := .pow) rfl q_cst_int q_cst_int)) (p_call g rfl h_Ltake g_law_Ltake (p_ab g (v_law_1).f (p_ae (q_bin g (o := .pow) rfl q_cst_int q_cst_int) q_an rfl)) rfl rfl)) rfl)
    (ss_cons (r_asg g T v_law_3 (q_bin g (o := .sub) rfl (q_neg q_cst_int) (p_call g rfl h_Ltake g_law_Ltake (p_ab g (v_law_1).f (p_ae (q_bin g (o := .pow) rfl q_cst_int q_cst_int) q_an rfl)) rfl rfl)) rfl)
    (ss_cons (r_asg g T v_law_4 (p_call g rfl h_Lname g_law_Lname (p_ab g (v_law_1).f q_an) rfl rfl) rfl)
    (ss_cons (r_asg g T v_law_5 (q_bin g (o := .add) rfl (q_bin g (o := .add) rfl (p_call g rfl h_Lname g_law_Lname (p_ab g (v_law_1).f q_an) rfl rfl) q_cst_str) (p_var g (v_law_4).f)) rfl)
    (ss_cons (r_asg g T v_law_6 (q_frz (q_cat (q_frz (q_cat (q_frz (p_callM g rfl h_Lfirst g_law_Lfirst (p_ae (p_var g (v_law_2).f) (p_ae (p_var g (v_law_3).f) (p_ae (p_var g (v_law_4).f) (p_ae (p_var g (v_law_5).f) q_an rfl) rfl) rfl) rfl) rfl rfl)) (q_frz (p_callM g rfl h_Lsecond g_law_Lsecond (p_ae (p_var g (v_law_2).f) (p_ae (p_var g (v_law_3).f) (p_ae (p_var g (v_law_4).f) (p_ae (p_var g (v_law_5).f) q_an rfl) rfl) rfl) rfl) rfl rfl)))) (q_frz (p_callM g rfl h_Lthird g_law_Lthird (p_ae (p_var g (v_law_2).f) (p_ae (p_var g (v_law_3).f) (p_ae (p_var g (v_law_4).f) (p_ae (p_var g (v_law_5).f) q_an rfl) rfl) rfl) rfl) rfl rfl)))) rfl)
    (ss_cons (r_for g T (i_rng1' g f_range g_law_range (p_bi g (bb := .len) (fun z => by rcases z with z | z <;> cases z) rfl f_len g_law_len (p_cons (p_var g (v_law_6).f) q_nil rfl) rfl rfl) rfl) (t_nm g v_law_7 (.inl (T.fn _))) (ss_cons (s_asgG (p_idx g (p_var g (v_law_6).f) (p_var g (v_law_7).f) rfl) (t_tp g (g_cons (t_nm g v_law_8 (.inl (T.fn _))) (g_cons (t_nm g v_law_9 (.inl (T.fn _))) (g_cons (t_nm g v_law_10 (.inl (T.fn _))) g_nil rfl) rfl) rfl) rfl rfl) rfl rfl rfl)
    (ss_cons (s_if (q_boT (q_orT (q_cmpT g (o := .ne) rfl (p_var g (v_law_9).f) (p_var g (v_law_10).f) rfl) (q_orT (q_noT (q_ce g.hK (p_isO g i_FeltError f_isinstance g_law_isinstance g_law_FeltError (p_var g (v_law_8).f) rfl) (fun _ => rfl))) (q_bo1T (by simp) (q_noT (q_ce g.hK (p_isO g i_ValueError f_isinstance g_law_isinstance g_law_ValueError (p_var g (v_law_8).f) rfl) (fun _ => rfl))))))) (ss_cons (s_ret q_cst_bl)
    ss_nil) ss_nil)
    (ss_cons (s_if (q_cmpT g (o := .ne) rfl (p_call g rfl h_Lclasses g_law_Lclasses (p_ae (p_var g (v_law_8).f) q_an rfl) rfl rfl) (q_frz (q_comp (own := [(("spot" : Str), 11)]) g (i_rng1' g f_range g_law_range (p_bi g (bb := .len) (fun z => by rcases z with z | z <;> cases z) rfl f_len g_law_len (p_cons (p_var g (v_law_6).f) q_nil rfl) rfl rfl) rfl) (by decide +kernel) (fun X' B' g' => ⟨(t_nm g' (vr_of (by decide +kernel)) (.inr (lc_of (by decide +kernel)))), t_nil, (q_cmp g' (o := .eq) rfl (p_var g' (vf_of (by decide +kernel))) (p_var g' (vf_of (by decide +kernel))) rfl)⟩) (by decide +kernel) (fun _ => rfl))) rfl) (ss_cons (s_ret q_cst_bl)
    ss_nil) ss_nil)
    ss_nil))) (fun _ => rfl))
    (ss_cons (r_asg g T v_law_12 (p_newB0 g ne_FeltError g_law_FeltError) rfl)
    (ss_cons (s_if (q_boT (q_orT (q_noT (q_ce g.hK (p_isO g i_ValueError f_isinstance g_law_isinstance g_law_ValueError (p_var g (v_law_12).f) rfl) (fun _ => rfl))) (q_bo1T (by simp) (q_cmpT g (o := .ne) rfl (p_call g rfl h_Lclasses g_law_Lclasses (p_ae (p_var g (v_law_12).f) q_an rfl) rfl rfl) (q_frz (q_rep (q_frz (q_disp (p_cons q_cst_bl q_nil rfl))) (p_bi g (bb := .len) (fun z => by rcases z with z | z <;> cases z) rfl f_len g_law_len (p_cons (p_var g (v_law_6).f) q_nil rfl) rfl rfl))) rfl)))) (ss_cons (s_ret q_cst_bl)
    ss_nil) ss_nil)
    (ss_cons (s_ret (q_boV (q_and (q_cmp g (o := .eq) rfl (p_bi g (bb := .len) (fun z => by rcases z with z | z <;> cases z) rfl f_len g_law_len (p_cons (p_var g (v_law_6).f) q_nil rfl) rfl rfl) q_cst_int rfl) (q_bo1 (q_cmp g (o := .eq) rfl (q_frz (p_callM g rfl h_Lraised g_law_Lraised (p_ae (p_var g (v_law_2).f) (p_ae (p_var g (v_law_4).f) q_an rfl) rfl) rfl rfl)) (q_frz (q_disp (p_cons q_cst_bl (p_cons q_cst_bl (p_cons q_cst_bl q_nil rfl) rfl) rfl))) rfl)))))
    ss_nil))))))))))
theorem s_law : FnScope N_law ["script"] sc_law := ⟨by rfl, by rfl, by rfl, by decide +kernel, by rfl, by decide +kernel, by decide +kernel⟩
end K00

namespace K00
open PySem FL KS
abbrev rw (c : Str) (ns : List Str) (ts told : List T) : T := .tup [.exo c ns ts, .lst told, .lst told]
def rows3 (a b : Int) (w n : Str) : List T := [
  rw "BadReading" ["what", "index"] [.str n, .int b] [.int b, .str n],
  rw "BadBreadth" [] [] [],
  rw "BadBox" ["what"] [.str n] [.str n],
  rw "BadDirections" ["index"] [.int a] [.int a],
  rw "BadStone" [] [] [],
  rw "BadMost" [] [] [],
  rw "BadChange" ["what", "index"] [.str n, .int b] [.int b, .str n],
  rw "BadWish" ["index"] [.int a] [.int a],
  rw "NoNumber" ["number"] [.int a] [.int a],
  rw "BookFull" [] [] []]
theorem w_third (a b : Int) (w n : Str) : f_Lthird.sem [.int a, .int b, .str w, .str n] = .ok (.lst (rows3 a b w n)) [] := by kernel_rfl
end K00

namespace K00
open PySem FL KS
abbrev abc : Str := "abcdefghijklmnopqrstuvwxyz"
theorem abc_at {z : Int} (h0 : 0 ≤ z) (h1 : z < 26) : ∃ c, c < 0x110000 ∧ idxT (.str abc) (.int z) = some (.str ⟨#[c]⟩) := by
  have hl : abc.cps.toList.length = 26 := by decide +kernel
  have hi : z.toNat < abc.cps.toList.length := by omega
  refine ⟨abc.cps.toList[z.toNat], ?_, ?_⟩
  · have := List.all_eq_true.mp (show abc.cps.toList.all (fun c => decide (c < 0x110000)) = true by decide +kernel) _ (List.getElem_mem hi)
    exact of_decide_eq_true this
  have e : L2.atI abc.cps.toList z = some abc.cps.toList[z.toNat] := by
    unfold L2.atI
    rw [FL.ixN_lit h0 (by rw [hl]; omega)]
    simp [hi]
  unfold idxT
  simp only [e]
  rw [if_pos (by decide +kernel)]
  rfl
theorem str_len1 (w : Str) (c) : (w ++ (⟨#[c]⟩ : Str)).length = w.length + 1 := by
  show (w.cps ++ #[c]).size = w.cps.size + 1
  simp
theorem str_ok {w v : Str} (h1 : PyData.strOk w = true) (h2 : PyData.strOk v = true) : PyData.strOk (w ++ v) = true := by
  unfold PyData.strOk at *
  show (w.cps ++ v.cps).all _ = true
  rw [Array.all_append, h1, h2]
  rfl
abbrev nameBody : List S := [.asg (.nm 1) (.bin .add (.var 1) (.idx (.cst (.str ("abcdefghijklmnopqrstuvwxyz" : Str))) (.call f_Ltake (.b 0 (.e (.cst (.int 26)) (.nil))) [])))]
theorem name_loop : ∀ (xs : List T) (h : List T) (w : Str) (b : Sl), isMp [Sl.mp h, .im (.str w), b] 2 = false → HandOk h → w.length + xs.length ≤ 1000 → PyData.strOk w = true → ∃ h' w' b', HandOk h' ∧ w'.length ≤ w.length + xs.length ∧ PyData.strOk w' = true ∧
    forL (.nm 2) (evSs nameBody) xs [.mp h, .im (.str w), b] = .nx [.mp h', .im (.str w'), b'] := by
  intro xs
  induction xs with
  | nil => intro h w b hb hh hl ho; exact ⟨h, w, b, hh, by omega, ho, forL_nil⟩
  | cons x xs ih =>
    intro h w b hb hh hl ho
    rw [List.length_cons] at hl
    obtain ⟨z, h', z1, z2, z3, z4⟩ := take_at (s := [.mp h, .im (.str w), .im x]) (i := 0) rfl hh (e := .cst (.int 26)) (m := 26) rfl (by decide)
    obtain ⟨c, hc1, hc⟩ := abc_at z2 z3
    have z4' : evE (.call f_Ltake (.b 0 (.e (.cst (.int 26)) (.nil))) []) [.mp h, .im (.str w), .im x] = .ok (.int z) [.mp h', .im (.str w), .im x] := z4
    have sl := str_len1 w c
    obtain ⟨h2, w2, b2, y1, y2, y4, y3⟩ := ih h' (w ++ (⟨#[c]⟩ : Str)) (.im x) rfl z1 (by omega) (str_ok ho (by simp [PyData.strOk]; exact hc1))
    refine ⟨h2, w2, b2, y1, by rw [List.length_cons]; omega, y4, ?_⟩
    have st : setTg (.nm 2) x [.mp h, .im (.str w), b] = some [.mp h, .im (.str w), .im x] := by
      simp only [setTg, hb, Bool.false_eq_true, if_false]
      rfl
    have ad : bop .add (.str w) (.str (⟨#[c]⟩ : Str)) = some (.str (w ++ (⟨#[c]⟩ : Str))) := by
      unfold bop
      simp only
      rw [if_pos (by show w.length + 1 ≤ big; unfold big; omega)]
    have bd : evSs nameBody [.mp h, .im (.str w), .im x] = .nx [.mp h', .im (.str (w ++ (⟨#[c]⟩ : Str))), .im x] := by
      simp only [nameBody, ss_cons_, ss_nil_, s_asg_, e_bin, e_var, kBin_, kBin2_, e_idx, kIdx_, kIdx2_, e_cst, z4', bind_ok, getV, List.getElem?_cons_succ, List.getElem?_cons_zero, hc, of_some, ad, so_ok, kAsg_, setTg, isMp, Bool.false_eq_true, if_false, then_nx]
      rfl
    rw [forL_step st bd]
    exact y3
theorem w_Lname {h : List T} (hh : HandOk h) : ∃ w h', HandOk h' ∧ w.length ≤ 8 ∧ PyData.strOk w = true ∧ f_Lname.sem [.lst h] = .ok (.str w) h' := by
  obtain ⟨z, h1, a1, a2, a3, a4⟩ := take_at (s := [.mp h, .im (.str ""), .un]) (i := 0) rfl hh (e := .cst (.int 8)) (m := 8) rfl (by decide)
  have a4' : evE (.call f_Ltake (.b 0 (.e (.cst (.int 8)) .nil)) []) [.mp h, .im (.str ("" : Str)), .un] = .ok (.int z) [.mp h1, .im (.str ""), .un] := a4
  have hi : evIt (.rng1 (.bin .add (.cst (.int 1)) (.call f_Ltake (.b 0 (.e (.cst (.int 8)) (.nil))) []))) [.mp h, .im (.str ("" : Str)), .un] = .ok ((List.range (1 + z).toNat).map fun k => .int (k : Nat)) [.mp h1, .im (.str ""), .un] := by
    rw [i_rng_, e_bin, e_cst, bind_ok, kBin_, a4', bind_ok, kBin2_, b_add, of_some, bind_ok, kRng_ _ _ (by omega)]
  obtain ⟨h2, w, b, b1, b2, b4, b3⟩ := name_loop ((List.range (1 + z).toNat).map fun k => .int (k : Nat)) h1 "" .un rfl a1 (by simp; show 0 + _ ≤ _; omega) (by decide +kernel)
  refine ⟨w, h2, b1, ?_, b4, ?_⟩
  · simp at b2
    have : ("" : Str).length = 0 := rfl
    omega
  · refine sem_ret (s0 := [.mp h]) (s1 := [.mp h2, .im (.str w), b]) rfl rfl ?_ rfl
    show evSs ir_Lname [.mp h, .un, .un] = _
    refine seq_nx (s1 := [.mp h, .im (.str ""), .un]) rfl ?_
    refine seq_nx (s1 := [.mp h2, .im (.str w), b]) (by rw [s_for_, hi, so_ok, kFor_, b3]) ?_
    exact seq_ret rfl
end K00

namespace K00
open PySem FL KS
def rows1 (a b : Int) (w n : Str) : List T := [
  rw "BadRatio" ["what"] [.str n] [.str n],
  rw "BadPlace" [] [] [],
  rw "BadDirection" [] [] [],
  rw "BadAmount" [] [] [],
  rw "BadSize" [] [] [],
  rw "BadPatch" ["what"] [.str w] [.str w],
  rw "BadTable" ["what"] [.str n] [.str n],
  rw "BadText" ["what", "row"] [.str w, .int a] [.int a, .str w],
  rw "BadFact" ["what"] [.str n] [.str n],
  rw "BadCase" ["what", "index"] [.str w, .int a] [.int a, .str w],
  rw "NoFact" ["number"] [.int a] [.int a]]
theorem w_first (a b : Int) (w n : Str) : f_Lfirst.sem [.int a, .int b, .str w, .str n] = .ok (.lst (rows1 a b w n)) [] := by kernel_rfl
def rows2 (a b : Int) (w n : Str) : List T := [
  rw "NoStones" [] [] [],
  rw "BadChoice" ["index"] [.int b] [.int b],
  rw "NotFit" ["fact"] [.int a] [.int a],
  rw "BadLots" ["what"] [.str n] [.str n],
  rw "NotMet" [] [] [],
  rw "BadClaim" ["what"] [.str n] [.str n],
  rw "NoArea" ["number"] [.int b] [.int b],
  rw "BadCorner" ["number"] [.int a] [.int a],
  rw "BadKept" ["what"] [.str w] [.str w],
  rw "TooMany" ["most"] [.int b] [.int b],
  rw "BadLine" [] [] []]
theorem w_second (a b : Int) (w n : Str) : f_Lsecond.sem [.int a, .int b, .str w, .str n] = .ok (.lst (rows2 a b w n)) [] := by kernel_rfl
def allN : List Str := ["BadRatio", "BadPlace", "BadDirection", "BadAmount", "BadSize", "BadPatch", "BadTable", "BadText", "BadFact", "BadCase", "NoFact", "NoStones", "BadChoice", "NotFit", "BadLots", "NotMet", "BadClaim", "NoArea", "BadCorner", "BadKept", "TooMany", "BadLine", "BadReading", "BadBreadth", "BadBox", "BadDirections", "BadStone", "BadMost", "BadChange", "BadWish", "NoNumber", "BookFull"]
abbrev flagsOf (c : Str) : List T := allN.map fun d => .bl (decide (d = c))
theorem w_classes (ns : List Str) (ts : List T) : ∀ c ∈ ("FeltError" : Str) :: allN, f_Lclasses.sem [.exo c ns ts] = .ok (.lst (flagsOf c)) [] := by
  simp only [allN, List.forall_mem_cons]
  refine ⟨?_, ?_, ?_, ?_, ?_, ?_, ?_, ?_, ?_, ?_, ?_, ?_, ?_, ?_, ?_, ?_, ?_, ?_, ?_, ?_, ?_, ?_, ?_, ?_, ?_, ?_, ?_, ?_, ?_, ?_, ?_, ?_, ?_, fun _ h => by cases h⟩ <;> kernel_rfl
end K00

namespace K00
open PySem FL KS
def kTryB (ok : List Str) (i : Nat) (h : List S) : SO → SO
  | .ex c ns ts s1 => if ok.contains c then (if isMp s1 i then .bad else leaveX i (evSs h (s1.set i (.xc c ns ts)))) else .bad
  | r => r
theorem s_try2_ (b : List S) (ok : List Str) (i : Nat) (h : List S) (s : Sls) : evS (.tryS2 b ok i h) s = kTryB ok i h (evSs b s) := by
  simp only [evS]
  cases evSs b s <;> rfl
theorem e_isC_ (i : Nat) (d : Str) (yes no : List Str) (s : Sls) : evE (.isC i d yes no) s = (match s[i]? with
    | some (.xc c _ _) => ynB yes no c s
    | _ => .bad) := by simp only [evE] <;> rfl
def kIsO (yes no : List Str) (x : T) (s : Sls) : Rs T := match x with
  | .exo c _ _ => ynB yes no c s
  | _ => .bad
theorem e_isO_ (a : E) (d : Str) (yes no : List Str) (s : Sls) : evE (.isO a d yes no) s = (evE a s).bind (kIsO yes no) := by simp only [evE] <;> rfl
theorem y1 (s : Sls) : ynB ys_BadCase ns_BadCase ("BadCase" : Str) s = .ok (.bl true) s := by kernel_rfl
theorem y2 (s : Sls) : ynB ys_NoFact ns_NoFact ("NoFact" : Str) s = .ok (.bl true) s := by kernel_rfl
theorem y3 (s : Sls) : ynB ys_ValueError ns_ValueError ("NoFact" : Str) s = .ok (.bl true) s := by kernel_rfl
theorem y4 (s : Sls) : ynB ys_NotMet ns_NotMet ("NotMet" : Str) s = .ok (.bl true) s := by kernel_rfl
theorem y5 (s : Sls) : ynB ys_ValueError ns_ValueError ("NotMet" : Str) s = .ok (.bl true) s := by kernel_rfl
theorem y6 (ns : List Str) (ts : List T) (s : Sls) : ∀ c ∈ ("FeltError" : Str) :: allN, kIsO ys_ValueError ns_ValueError (.exo c ns ts) s = .ok (.bl true) s := by
  simp only [allN, List.forall_mem_cons]
  refine ⟨?_, ?_, ?_, ?_, ?_, ?_, ?_, ?_, ?_, ?_, ?_, ?_, ?_, ?_, ?_, ?_, ?_, ?_, ?_, ?_, ?_, ?_, ?_, ?_, ?_, ?_, ?_, ?_, ?_, ?_, ?_, ?_, ?_, fun _ h => by cases h⟩ <;> kernel_rfl
theorem y7 (ns : List Str) (ts : List T) (s : Sls) : ∀ c ∈ ("FeltError" : Str) :: allN, kIsO ys_FeltError ns_FeltError (.exo c ns ts) s = .ok (.bl true) s := by
  simp only [allN, List.forall_mem_cons]
  refine ⟨?_, ?_, ?_, ?_, ?_, ?_, ?_, ?_, ?_, ?_, ?_, ?_, ?_, ?_, ?_, ?_, ?_, ?_, ?_, ?_, ?_, ?_, ?_, ?_, ?_, ?_, ?_, ?_, ?_, ?_, ?_, ?_, ?_, fun _ h => by cases h⟩ <;> kernel_rfl
theorem eqi (a : Int) : cop .eq (.int a) (.int a) = some (.bl true) := eq_self' rfl
theorem eqs (a : Str) (h : PyData.strOk a = true) : cop .eq (.str a) (.str a) = some (.bl true) := eq_self' (by unfold dat; exact h)
theorem wi : ¬ (("what" : Str) = "index") := by decide
theorem r1 (a : Int) (w : Str) (hw : PyData.strOk w = true) (told : List T) (x : Sl) (hx : isMp [x] 0 = false) (hl : told.length < 100) : evS (ir_Lraised[1]) [.im (.int a), .im (.str w), .mu told, x] = .nx [.im (.int a), .im (.str w), .mu (told ++ [.bl true]), .un] := by
  show evS (.tryS2 _ _ _ _) _ = _
  have e : evSs [.rai ("BadCase" : Str) 2 [(("what" : Str), 1), (("index" : Str), 0)] (.cons (.var 0) (.cons (.var 1) (.nil)))] [.im (.int a), .im (.str w), .mu told, x] = .ex "BadCase" ["what", "index"] [.str w, .int a] [.im (.int a), .im (.str w), .mu told, x] := by kernel_rfl
  have hm : isMp [.im (.int a), .im (.str w), .mu told, x] 3 = false := by cases x <;> first | rfl | cases hx
  rw [s_try2_, e]
  unfold kTryB
  simp only
  rw [if_pos (by decide), if_neg (by rw [hm]; exact Bool.false_ne_true)]
  have hl2 : told.length < big := by unfold big; omega
  simp [e_isC_, e_exf, y1, getV, ownAt, Sl.own, fldT, eqi, eqs w hw, putOwn, noXc, leaveX, L2.ixN, wi, hl2]
theorem r2 (a : Int) (w : Str) (told : List T) (x : Sl) (hx : isMp [x] 0 = false) (hl : told.length < 100) : evS (ir_Lraised[2]) [.im (.int a), .im (.str w), .mu told, x] = .nx [.im (.int a), .im (.str w), .mu (told ++ [.bl true]), .un] := by
  show evS (.tryS2 _ _ _ _) _ = _
  have e : evSs [.rai ("NoFact" : Str) 1 [(("number" : Str), 0)] (.cons (.var 0) (.nil))] [.im (.int a), .im (.str w), .mu told, x] = .ex "NoFact" ["number"] [.int a] [.im (.int a), .im (.str w), .mu told, x] := by kernel_rfl
  have hm : isMp [.im (.int a), .im (.str w), .mu told, x] 3 = false := by cases x <;> first | rfl | cases hx
  rw [s_try2_, e]
  unfold kTryB
  simp only
  rw [if_pos (by decide), if_neg (by rw [hm]; exact Bool.false_ne_true)]
  have hl2 : told.length < big := by unfold big; omega
  simp [e_isC_, e_exf, y2, y3, getV, ownAt, Sl.own, fldT, eqi, putOwn, noXc, leaveX, L2.ixN, hl2]
theorem r3 (a : Int) (w : Str) (told : List T) (x : Sl) (hx : isMp [x] 0 = false) (hl : told.length < 100) : evS (ir_Lraised[3]) [.im (.int a), .im (.str w), .mu told, x] = .nx [.im (.int a), .im (.str w), .mu (told ++ [.bl true]), .un] := by
  show evS (.tryS2 _ _ _ _) _ = _
  have e : evSs [.rai ("NotMet" : Str) 0 [] .nil] [.im (.int a), .im (.str w), .mu told, x] = .ex "NotMet" [] [] [.im (.int a), .im (.str w), .mu told, x] := by kernel_rfl
  have hm : isMp [.im (.int a), .im (.str w), .mu told, x] 3 = false := by cases x <;> first | rfl | cases hx
  rw [s_try2_, e]
  unfold kTryB
  simp only
  rw [if_pos (by decide), if_neg (by rw [hm]; exact Bool.false_ne_true)]
  have hl2 : told.length < big := by unfold big; omega
  simp [e_isC_, y4, y5, getV, ownAt, Sl.own, putOwn, noXc, leaveX, L2.ixN, hl2]
theorem w_raised (a : Int) (w : Str) (hw : PyData.strOk w = true) : f_Lraised.sem [.int a, .str w] = .ok (.lst [.bl true, .bl true, .bl true]) [] := by
  have h : evSs ir_Lraised [.im (.int a), .im (.str w), .un, .un] = .retF [.bl true, .bl true, .bl true] [.im (.int a), .im (.str w), .un, .un] := by
    refine (step_ (s1 := [.im (.int a), .im (.str w), .mu [], .un]) rfl).trans ?_
    refine (step_ (r1 a w hw [] .un rfl (by decide))).trans ?_
    refine (step_ (r2 a w [.bl true] .un rfl (by decide))).trans ?_
    refine (step_ (r3 a w [.bl true, .bl true] .un rfl (by decide))).trans ?_
    rfl
  exact sem_retF (s0 := [.im (.int a), .im (.str w)]) (s1 := [.im (.int a), .im (.str w), .un, .un]) rfl rfl h rfl
end K00

namespace K00
open PySem FL KS
variable {x : Sl} {r : Sls} {h : List T}
abbrev nine : E := .bin .pow (.cst (.int 10)) (.cst (.int 9))
theorem nine_ (s : Sls) : evE nine s = .ok (.int 1000000000) s := by simp [pow9]
theorem tk (hh : HandOk h) : ∃ z h', HandOk h' ∧ 0 ≤ z ∧ z < 1000000000 ∧ evE (.call f_Ltake (.b 1 (.e nine .nil)) []) (x :: .mu h :: r) = .ok (.int z) (x :: .mu h' :: r) := by
  obtain ⟨z, h', a1, a2, a3, a4⟩ := take_at (s := x :: .mu h :: r) (i := 1) (h := h) rfl hh (nine_ _) (by decide)
  exact ⟨z, h', a1, a2, a3, a4⟩
theorem at_ (hh : HandOk h) : ∃ a h', HandOk h' ∧ evE (.bin .add (.bin .mul (.call f_Ltake (.b 1 (.e nine .nil)) []) nine) (.call f_Ltake (.b 1 (.e nine .nil)) [])) (x :: .mu h :: r) = .ok (.int a) (x :: .mu h' :: r) := by
  obtain ⟨z1, h1, a1, a2, a3, a4⟩ := tk (x := x) (r := r) hh
  obtain ⟨z2, h2, b1, b2, b3, b4⟩ := tk (x := x) (r := r) a1
  have m1 := b_mul z1 1000000000 (mulS (by omega) (by decide))
  refine ⟨z1 * 1000000000 + z2, h2, b1, ?_⟩
  rw [e_bin, e_bin, a4, bind_ok, kBin_, nine_, bind_ok, kBin2_, m1, of_some, bind_ok, kBin_, b4, bind_ok, kBin2_, b_add, of_some]
theorem to_ (hh : HandOk h) : ∃ a h', HandOk h' ∧ evE (.bin .sub (.neg (.cst (.int 1))) (.call f_Ltake (.b 1 (.e nine .nil)) [])) (x :: .mu h :: r) = .ok (.int a) (x :: .mu h' :: r) := by
  obtain ⟨z2, h2, b1, b2, b3, b4⟩ := tk (x := x) (r := r) hh
  refine ⟨-1 - z2, h2, b1, ?_⟩
  have e : evE (.neg (.cst (.int 1))) (x :: .mu h :: r) = .ok (.int (-1)) (x :: .mu h :: r) := by simp
  rw [e_bin, e, bind_ok, kBin_, b4, bind_ok, kBin2_, b_sub, of_some]
theorem nm_ (hh : HandOk h) : ∃ w h', HandOk h' ∧ w.length ≤ 8 ∧ PyData.strOk w = true ∧ evE (.call f_Lname (.b 1 .nil) []) (x :: .mu h :: r) = .ok (.str w) (x :: .mu h' :: r) := by
  obtain ⟨w, h', a1, a2, a3, a4⟩ := w_Lname hh
  refine ⟨w, h', a1, a2, a3, ?_⟩
  have ha := after_r0 (g := f_Lname) (i := 1) (vs := []) (s := x :: .mu h :: r) rfl rfl a4
  simp only [List.map_nil] at ha
  have hp : putOwn (x :: .mu h :: r) 1 h' = x :: .mu h' :: r := rfl
  rw [hp] at ha
  simp [show f_Lname.fresh = false from rfl, ha, show ownAt (x :: .mu h :: r) 1 = some h from rfl]
theorem len_add (w v : Str) : (w ++ v).length = w.length + v.length := by
  show (w.cps ++ v.cps).size = _
  rw [Array.size_append]
  rfl
theorem b_str (w v : Str) (h : w.length + v.length ≤ 1000) : bop .add (.str w) (.str v) = some (.str (w ++ v)) := if_pos (by unfold big; omega)
end K00

namespace K00
open PySem FL KS
def spec (a b : Int) (w n : Str) : List (Str × List Str × List T × List T) := [
  ("BadRatio", ["what"], [.str n], [.str n]), ("BadPlace", [], [], []), ("BadDirection", [], [], []), ("BadAmount", [], [], []), ("BadSize", [], [], []),
  ("BadPatch", ["what"], [.str w], [.str w]), ("BadTable", ["what"], [.str n], [.str n]), ("BadText", ["what", "row"], [.str w, .int a], [.int a, .str w]), ("BadFact", ["what"], [.str n], [.str n]),
  ("BadCase", ["what", "index"], [.str w, .int a], [.int a, .str w]), ("NoFact", ["number"], [.int a], [.int a]), ("NoStones", [], [], []), ("BadChoice", ["index"], [.int b], [.int b]),
  ("NotFit", ["fact"], [.int a], [.int a]), ("BadLots", ["what"], [.str n], [.str n]), ("NotMet", [], [], []), ("BadClaim", ["what"], [.str n], [.str n]), ("NoArea", ["number"], [.int b], [.int b]),
  ("BadCorner", ["number"], [.int a], [.int a]), ("BadKept", ["what"], [.str w], [.str w]), ("TooMany", ["most"], [.int b], [.int b]), ("BadLine", [], [], []),
  ("BadReading", ["what", "index"], [.str n, .int b], [.int b, .str n]), ("BadBreadth", [], [], []), ("BadBox", ["what"], [.str n], [.str n]), ("BadDirections", ["index"], [.int a], [.int a]),
  ("BadStone", [], [], []), ("BadMost", [], [], []), ("BadChange", ["what", "index"], [.str n, .int b], [.int b, .str n]), ("BadWish", ["index"], [.int a], [.int a]), ("NoNumber", ["number"], [.int a], [.int a]), ("BookFull", [], [], [])]
def rowOf (p : Str × List Str × List T × List T) : T := rw p.1 p.2.1 p.2.2.1 p.2.2.2
theorem rows_spec (a b : Int) (w n : Str) : rows1 a b w n ++ rows2 a b w n ++ rows3 a b w n = (spec a b w n).map rowOf := rfl
theorem spec_len (a b : Int) (w n : Str) : (spec a b w n).length = 32 := rfl
theorem spec_nm (a b : Int) (w n : Str) : (spec a b w n).map (·.1) = allN := rfl
theorem spec_dat {a b : Int} {w n : Str} (hw : PyData.strOk w = true) (hn : PyData.strOk n = true) : ∀ p ∈ spec a b w n, dat 60 (.lst p.2.2.2) = true := by
  have h1 : dat 60 (.lst [.int a]) = true := rfl
  have h2 : dat 60 (.lst [.int b]) = true := rfl
  have h3 : dat 60 (.lst [.str w]) = true := by simp [dat, dats, hw]
  have h4 : dat 60 (.lst [.str n]) = true := by simp [dat, dats, hn]
  have h5 : dat 60 (.lst [.int a, .str w]) = true := by simp [dat, dats, hw]
  have h6 : dat 60 (.lst [.int b, .str n]) = true := by simp [dat, dats, hn]
  have h7 : dat 60 (.lst []) = true := rfl
  simp only [spec, List.forall_mem_cons, h1, h2, h3, h4, h5, h6, h7, true_and]
  exact fun _ h => by cases h
theorem flags_at : ∀ k : Fin 32, (allN.map fun d => decide (d = allN[k.val]'k.isLt)) = (List.range 32).map fun i => decide (i = k.val) := by decide +kernel
theorem flags_ {k : Nat} (hk : k < 32) {c : Str} (hc : allN[k]'hk = c) : flagsOf c = (List.range 32).map fun i => .bl (((i : Nat) : Int) == (k : Int)) := by
  have h := congrArg (List.map T.bl) (flags_at ⟨k, hk⟩)
  rw [List.map_map, List.map_map] at h
  subst hc
  refine Eq.trans h ?_
  refine List.map_congr_left fun i _ => ?_
  show T.bl (decide (i = k)) = _
  congr 1
  by_cases z : i = k
  · subst z; simp
  · have : ¬ ((i : Int) = (k : Int)) := by omega
    rw [decide_eq_false z]
    exact (beq_eq_false_iff_ne.mpr this).symm
abbrev bodyIr : List S := match ir_law.drop 6 with
  | .forS _ _ b :: _ => b
  | _ => []
variable {sc A B Wd Nm : Sl} {h : List T} {M : List T} {k : Nat} {c : Str} {ns : List Str} {ts told : List T}
abbrev st (sc : Sl) (h : List T) (A B Wd Nm : Sl) (M : List T) (x7 x8 x9 x10 x12 : Sl) : Sls := [sc, .mu h, A, B, Wd, Nm, .im (.lst M), x7, x8, x9, x10, .un, x12]
theorem classes_ {s : Sls} {j : Nat} (hc : c ∈ ("FeltError" : Str) :: allN) (hj : evE (.var j) s = .ok (.exo c ns ts) s) : evE (.call f_Lclasses (.e (.var j) .nil) []) s = .ok (.lst (flagsOf c)) s := by
  have h := callV (g := f_Lclasses) (avs := [.v (.exo c ns ts)]) rfl rfl (w_classes ns ts c hc) s false
  simp only [e_call, show f_Lclasses.fresh = false from rfl]
  simp [hj, h]
abbrev st2 (sc : Sl) (h : List T) (A B Wd Nm : Sl) (M : List T) (k : Nat) (c : Str) (ns : List Str) (ts told : List T) : Sls := [sc, .mu h, A, B, Wd, Nm, .im (.lst M), .im (.int k), .im (.exo c ns ts), .im (.lst told), .im (.lst told), .un, .un]
theorem bo1 (hat : L2.atI M (k : Int) = some (rw c ns ts told)) {x8 x9 x10 : Sl} (hx : (x8 = .un ∧ x9 = .un ∧ x10 = .un) ∨ ∃ a b c, x8 = .im a ∧ x9 = .im b ∧ x10 = .im c) :
    evS (.asg (.tp [.nm 8, .nm 9, .nm 10]) (.idx (.var 6) (.var 7))) [sc, .mu h, A, B, Wd, Nm, .im (.lst M), .im (.int k), x8, x9, x10, .un, .un] = .nx (st2 sc h A B Wd Nm M k c ns ts told) := by
  rcases hx with ⟨rfl, rfl, rfl⟩ | ⟨a, b, d, rfl, rfl, rfl⟩ <;> simp [getV, hat, setTg_tup, setTg_nm, setTgs, isMp]
theorem bo2 (hc : c ∈ ("FeltError" : Str) :: allN) (hd : dat 60 (.lst told) = true) : evS (.ifS (.bo false (.cons (.cmp .ne (.var 9) (.var 10)) (.cons (.no (.e (.isO (.var 8) ("FeltError" : Str) ys_FeltError ns_FeltError))) (.cons (.no (.e (.isO (.var 8) ("ValueError" : Str) ys_ValueError ns_ValueError))) (.nil))))) [.ret (.cst (.bl false))] []) (st2 sc h A B Wd Nm M k c ns ts told) = .nx (st2 sc h A B Wd Nm M k c ns ts told) := by
  have E1 : cop .ne (.lst told) (.lst told) = some (.bl false) := ne_self hd
  have Y6 := y6 ns ts (st2 sc h A B Wd Nm M k c ns ts told) c hc
  have Y7 := y7 ns ts (st2 sc h A B Wd Nm M k c ns ts told) c hc
  generalize ys_FeltError = u1 at *
  generalize ns_FeltError = u2 at *
  generalize ys_ValueError = u3 at *
  generalize ns_ValueError = u4 at *
  simp [getV, E1, e_isO_, Y6, Y7]
theorem bo3 (hl : M.length = 32) (hf : flagsOf c = (List.range 32).map fun i => .bl (((i : Nat) : Int) == (k : Int))) : evM (.comp [11] (.nm 11) (.rng1 (.bi .len (.cons (.var 6) (.nil)))) (.nil) (.cmp .eq (.var 11) (.var 7))) (st2 sc h A B Wd Nm M k c ns ts told) = .ok (flagsOf c) (st2 sc h A B Wd Nm M k c ns ts told) := by
  have e2 : (((List.range 32).map fun i => T.int ((i : Nat) : Int)).map fun t => T.bl (match t with | .int i => i == (k : Int) | _ => false)) = flagsOf c := by
    rw [hf, List.map_map]
    rfl
  rw [← e2]
  refine comp_map (own := [11]) ?_ rfl rfl rfl (by rw [List.length_map, List.length_range]; unfold big; omega) (fun x hx => ?_)
  · have hr := kRng_ 32 (st2 sc h A B Wd Nm M k c ns ts told) (by decide)
    have hl' : ((M.length : Nat) : Int) = 32 := by omega
    have hb : M.length ≤ big := by unfold big; omega
    rw [i_rng_]
    have hlen : evE (.bi .len (.cons (.var 6) (.nil))) (st2 sc h A B Wd Nm M k c ns ts told) = .ok (.int 32) (st2 sc h A B Wd Nm M k c ns ts told) := by simp [getV, biF, hl', hb]
    rw [hlen, bind_ok]
    exact hr
  · obtain ⟨i, hi, rfl⟩ := List.mem_map.mp hx
    exact ⟨[sc, .mu h, A, B, Wd, Nm, .im (.lst M), .im (.int k), .im (.exo c ns ts), .im (.lst told), .im (.lst told), .im (.int i), .un], [sc, .mu h, A, B, Wd, Nm, .im (.lst M), .im (.int k), .im (.exo c ns ts), .im (.lst told), .im (.lst told), .im (.int i), .un], rfl, by simp [getV], rfl⟩
theorem dat_lst (ts : List T) (h : dats 59 ts = true) : dat 60 (.lst ts) = true := by
  simp only [dat]
  exact h
theorem fl_dats : ∀ l : List Str, dats 59 (l.map fun d => .bl (decide (d = c))) = true
  | [] => by simp only [List.map_nil, dats]
  | d :: l => by simp only [List.map_cons, dats, dat, fl_dats l, Bool.and_self]
theorem fl_ne (c : Str) : cop .ne (.lst (flagsOf c)) (.lst (flagsOf c)) = some (.bl false) := ne_self (dat_lst _ (fl_dats allN))
theorem bo5 {m : FL.M} {e : E} {fl : List T} {s : Sls} (cl : evE e s = .ok (.lst fl) s) (kc : evM m s = .ok fl s) (E2 : cop .ne (.lst fl) (.lst fl) = some (.bl false)) : evS (.ifS (.cmp .ne e (.frz m)) [.ret (.cst (.bl false))] []) s = .nx s := by
  rw [s_if_, c_cmp, cl]
  simp [kc, E2]
theorem bo4 (hl : M.length = 32) (hc : c ∈ ("FeltError" : Str) :: allN) (hf : flagsOf c = (List.range 32).map fun i => .bl (((i : Nat) : Int) == (k : Int))) :
    evS (.ifS (.cmp .ne (.call f_Lclasses (.e (.var 8) (.nil)) []) (.frz (.comp [11] (.nm 11) (.rng1 (.bi .len (.cons (.var 6) (.nil)))) (.nil) (.cmp .eq (.var 11) (.var 7))))) [.ret (.cst (.bl false))] []) (st2 sc h A B Wd Nm M k c ns ts told) = .nx (st2 sc h A B Wd Nm M k c ns ts told) := by
  have cl := classes_ (s := st2 sc h A B Wd Nm M k c ns ts told) (j := 8) hc rfl
  have kc := bo3 (sc := sc) (h := h) (A := A) (B := B) (Wd := Wd) (Nm := Nm) (ns := ns) (ts := ts) (told := told) hl hf
  exact bo5 cl kc (fl_ne c)
theorem body_ (hl : M.length = 32) (hat : L2.atI M (k : Int) = some (rw c ns ts told)) (hc : c ∈ ("FeltError" : Str) :: allN) (hd : dat 60 (.lst told) = true) (hf : flagsOf c = (List.range 32).map fun i => .bl (((i : Nat) : Int) == (k : Int)))
    {x8 x9 x10 : Sl} (hx : (x8 = .un ∧ x9 = .un ∧ x10 = .un) ∨ ∃ a b c, x8 = .im a ∧ x9 = .im b ∧ x10 = .im c) :
    evSs bodyIr [sc, .mu h, A, B, Wd, Nm, .im (.lst M), .im (.int k), x8, x9, x10, .un, .un] = .nx (st2 sc h A B Wd Nm M k c ns ts told) :=
  (step_ (bo1 hat hx)).trans ((step_ (bo2 hc hd)).trans ((step_ (bo4 hl hc hf)).trans (ss_nil_ _)))
end K00

namespace K00
open PySem FL KS
variable {sc A B Wd Nm : Sl} {h : List T}
theorem nm_at {l : List (Str × List Str × List T × List T)} {L : List Str} (e : l.map (·.1) = L) {k : Nat} (h1 : k < L.length) (h2 : k < l.length) : L[k]'h1 = (l[k]'h2).1 := by
  subst e
  simp
theorem loop_ {a b : Int} {w n : Str} (hw : PyData.strOk w = true) (hn : PyData.strOk n = true) : ∃ x7 x8 x9 x10, (x7 = .un ∨ ∃ t, x7 = .im t) ∧
    forL (.nm 7) (evSs bodyIr) ((List.range 32).map fun k => .int ((k : Nat) : Int)) [sc, .mu h, A, B, Wd, Nm, .im (.lst ((spec a b w n).map rowOf)), .un, .un, .un, .un, .un, .un] = .nx [sc, .mu h, A, B, Wd, Nm, .im (.lst ((spec a b w n).map rowOf)), x7, x8, x9, x10, .un, .un] := by
  obtain ⟨s', ⟨x7, x8, x9, x10, e, h7, _⟩, e2⟩ := forL_inv (g := .nm 7) (body := evSs bodyIr) (P := fun _ s => ∃ x7 x8 x9 x10, s = [sc, .mu h, A, B, Wd, Nm, .im (.lst ((spec a b w n).map rowOf)), x7, x8, x9, x10, .un, .un] ∧ (x7 = .un ∨ ∃ t, x7 = .im t) ∧
      ((x8 = .un ∧ x9 = .un ∧ x10 = .un) ∨ ∃ a b c, x8 = .im a ∧ x9 = .im b ∧ x10 = .im c))
    ((List.range 32).map fun k => .int ((k : Nat) : Int)) [] [sc, .mu h, A, B, Wd, Nm, .im (.lst ((spec a b w n).map rowOf)), .un, .un, .un, .un, .un, .un] ⟨_, _, _, _, rfl, .inl rfl, .inl ⟨rfl, rfl, rfl⟩⟩ (fun pre x post s ep ⟨x7, x8, x9, x10, es, h7, h8⟩ => by
      have hx : x ∈ (List.range 32).map fun k => T.int ((k : Nat) : Int) := by
        rw [List.nil_append] at ep
        rw [← ep]
        simp
      obtain ⟨k, hk, rfl⟩ := List.mem_map.mp hx
      have hk : k < 32 := List.mem_range.mp hk
      subst es
      have hat := atN (f := rowOf) (xs := spec a b w n) (n := k) hk
      have hp : (spec a b w n)[k]'hk ∈ spec a b w n := List.getElem_mem _
      have hnm : allN[k]'hk = ((spec a b w n)[k]'hk).1 := nm_at (spec_nm a b w n) hk hk
      refine ⟨[sc, .mu h, A, B, Wd, Nm, .im (.lst ((spec a b w n).map rowOf)), .im (.int k), x8, x9, x10, .un, .un], _, ?_, body_ (by rw [List.length_map]; rfl) hat (List.mem_cons_of_mem _ (by rw [← hnm]; exact List.getElem_mem _)) (spec_dat hw hn _ hp) (flags_ hk hnm) h8, _, _, _, _, rfl, .inr ⟨_, rfl⟩, .inr ⟨_, _, _, rfl, rfl, rfl⟩⟩
      rcases h7 with rfl | ⟨t, rfl⟩ <;> rfl)
  refine ⟨x7, x8, x9, x10, h7, ?_⟩
  rw [e2, e]
theorem cne {m : FL.M} {e : E} {fl : List T} {s : Sls} (cl : evE e s = .ok (.lst fl) s) (kc : evM m s = .ok fl s) (E2 : cop .ne (.lst fl) (.lst fl) = some (.bl false)) : evC (.cmp .ne e (.frz m)) s = .ok false s := by
  rw [c_cmp, cl]
  simp [kc, E2]
theorem strz : PyData.strOk ("z" : Str) = true := by decide +kernel
theorem made_ {x : Sl} {a b : Int} {w n : Str} {r : Sls} : evE (.frz (.cat (.frz (.cat (.frz (.call f_Lfirst (.e (.var 2) (.e (.var 3) (.e (.var 4) (.e (.var 5) (.nil))))) [])) (.frz (.call f_Lsecond (.e (.var 2) (.e (.var 3) (.e (.var 4) (.e (.var 5) (.nil))))) [])))) (.frz (.call f_Lthird (.e (.var 2) (.e (.var 3) (.e (.var 4) (.e (.var 5) (.nil))))) []))))
    (x :: .mu h :: .im (.int a) :: .im (.int b) :: .im (.str w) :: .im (.str n) :: r) = .ok (.lst ((spec a b w n).map rowOf)) (x :: .mu h :: .im (.int a) :: .im (.int b) :: .im (.str w) :: .im (.str n) :: r) := by
  have f1 := fun s => callV (g := f_Lfirst) (avs := [.v (.int a), .v (.int b), .v (.str w), .v (.str n)]) rfl rfl (w_first a b w n) s true
  have f2 := fun s => callV (g := f_Lsecond) (avs := [.v (.int a), .v (.int b), .v (.str w), .v (.str n)]) rfl rfl (w_second a b w n) s true
  have f3 := fun s => callV (g := f_Lthird) (avs := [.v (.int a), .v (.int b), .v (.str w), .v (.str n)]) rfl rfl (w_third a b w n) s true
  have l1 : (rows1 a b w n).length = 11 := rfl
  have l2 : (rows2 a b w n).length = 11 := rfl
  have l3 : (rows3 a b w n).length = 10 := rfl
  rw [← rows_spec]
  generalize rows1 a b w n = R1 at *
  generalize rows2 a b w n = R2 at *
  generalize rows3 a b w n = R3 at *
  have hb : big = 16777216 := rfl
  simp [show f_Lfirst.fresh = true from rfl, show f_Lsecond.fresh = true from rfl, show f_Lthird.fresh = true from rfl, getV, f1, f2, f3, kCat2, l1, l2, l3, hb]
theorem law_true (ns : List Int) (hl : ns.length ≤ 63) : ∃ o, f_law.sem [.scr (ns.map T.int)] = .ok (.bl true) o := by
  obtain ⟨h0, hh0, e0⟩ := w_Lhand ns hl
  generalize hsc : T.scr (ns.map T.int) = sc at *
  have hc := fun s => callV (g := f_Lhand) (avs := [.v sc]) rfl rfl e0 s true
  obtain ⟨a, h1, a1, a2⟩ := at_ (x := .im sc) (r := [.un, .un, .un, .un, .un, .un, .un, .un, .un, .un, .un]) hh0
  obtain ⟨b, h2, b1, b2⟩ := to_ (x := .im sc) (r := [.im (.int a), .un, .un, .un, .un, .un, .un, .un, .un, .un, .un]) a1
  obtain ⟨w, h3, c1, c2, c3, c4⟩ := nm_ (x := .im sc) (r := [.im (.int a), .im (.int b), .un, .un, .un, .un, .un, .un, .un, .un, .un]) b1
  obtain ⟨v, h4, d1, d2, d3, d4⟩ := nm_ (x := .im sc) (r := [.im (.int a), .im (.int b), .im (.str w), .un, .un, .un, .un, .un, .un, .un, .un]) c1
  have lz : ("z" : Str).length = 1 := rfl
  have l1 := len_add v "z"
  have hn : PyData.strOk (v ++ "z" ++ w) = true := str_ok (str_ok d3 strz) c3
  have s1 := b_str v "z" (by omega)
  have s2 := b_str (v ++ "z") w (by omega)
  generalize v ++ "z" ++ w = n at *
  obtain ⟨x7, x8, x9, x10, h7, lp⟩ := loop_ (sc := .im sc) (h := h4) (A := .im (.int a)) (B := .im (.int b)) (Wd := .im (.str w)) (Nm := .im (.str n)) (a := a) (b := b) c3 hn
  have md := made_ (x := .im sc) (h := h4) (a := a) (b := b) (w := w) (n := n) (r := [.un, .un, .un, .un, .un, .un, .un])
  have hlen : ((spec a b w n).map rowOf).length = 32 := by rw [List.length_map]; rfl
  have rs := callV (g := f_Lraised) (avs := [.v (.int a), .v (.str w)]) rfl rfl (w_raised a w c3)
  generalize (spec a b w n).map rowOf = M at *
  have hb : M.length ≤ big := by unfold big; omega
  have hli : ((M.length : Nat) : Int) = 32 := by omega
  refine ⟨[], sem_ret (s0 := [.im sc]) (s1 := [.im sc, .mu h4, .im (.int a), .im (.int b), .im (.str w), .im (.str n), .im (.lst M), x7, x8, x9, x10, .un, .im (.exo "FeltError" [] [])]) rfl rfl ?_ rfl⟩
  refine (step_ (s1 := [.im sc, .mu h0, .un, .un, .un, .un, .un, .un, .un, .un, .un, .un, .un]) ?_).trans ?_
  · simp [show f_Lhand.fresh = true from rfl, getV, hc, isMp]
  refine (step_ (s1 := [.im sc, .mu h1, .im (.int a), .un, .un, .un, .un, .un, .un, .un, .un, .un, .un]) ?_).trans ?_
  · rw [s_asg_, a2]
    rfl
  refine (step_ (s1 := [.im sc, .mu h2, .im (.int a), .im (.int b), .un, .un, .un, .un, .un, .un, .un, .un, .un]) ?_).trans ?_
  · rw [s_asg_, b2]
    rfl
  refine (step_ (s1 := [.im sc, .mu h3, .im (.int a), .im (.int b), .im (.str w), .un, .un, .un, .un, .un, .un, .un, .un]) ?_).trans ?_
  · rw [s_asg_, c4]
    rfl
  refine (step_ (s1 := [.im sc, .mu h4, .im (.int a), .im (.int b), .im (.str w), .im (.str n), .un, .un, .un, .un, .un, .un, .un]) ?_).trans ?_
  · rw [s_asg_, e_bin, e_bin, d4, bind_ok, kBin_, e_cst, bind_ok, kBin2_, s1, of_some, bind_ok, kBin_, e_var]
    simp only [getV, List.getElem?_cons_succ, List.getElem?_cons_zero, bind_ok, kBin2_, s2, of_some]
    rfl
  refine (step_ (s1 := [.im sc, .mu h4, .im (.int a), .im (.int b), .im (.str w), .im (.str n), .im (.lst M), .un, .un, .un, .un, .un, .un]) ?_).trans ?_
  · rw [s_asg_, md]
    rfl
  refine (step_ (s1 := [.im sc, .mu h4, .im (.int a), .im (.int b), .im (.str w), .im (.str n), .im (.lst M), x7, x8, x9, x10, .un, .un]) ?_).trans ?_
  · have hr := kRng_ 32 [.im sc, .mu h4, .im (.int a), .im (.int b), .im (.str w), .im (.str n), .im (.lst M), .un, .un, .un, .un, .un, .un] (by decide)
    have he : evE (.bi .len (.cons (.var 6) (.nil))) [.im sc, .mu h4, .im (.int a), .im (.int b), .im (.str w), .im (.str n), .im (.lst M), .un, .un, .un, .un, .un, .un] = .ok (.int 32) [.im sc, .mu h4, .im (.int a), .im (.int b), .im (.str w), .im (.str n), .im (.lst M), .un, .un, .un, .un, .un, .un] := by simp [getV, biF, hli, hb]
    rw [s_for_, i_rng_, he, bind_ok, hr, so_ok]
    exact lp
  refine (step_ (s1 := [.im sc, .mu h4, .im (.int a), .im (.int b), .im (.str w), .im (.str n), .im (.lst M), x7, x8, x9, x10, .un, .im (.exo "FeltError" [] [])]) rfl).trans ?_
  have cl := classes_ (c := "FeltError") (ns := []) (ts := []) (s := [.im sc, .mu h4, .im (.int a), .im (.int b), .im (.str w), .im (.str n), .im (.lst M), x7, x8, x9, x10, .un, .im (.exo "FeltError" [] [])]) (j := 12) (List.mem_cons_self ..) rfl
  have yy := y6 [] [] [.im sc, .mu h4, .im (.int a), .im (.int b), .im (.str w), .im (.str n), .im (.lst M), x7, x8, x9, x10, .un, .im (.exo "FeltError" [] [])] "FeltError" (List.mem_cons_self ..)
  have fne := fl_ne "FeltError"
  have frep : flagsOf "FeltError" = List.replicate 32 (.bl false) := by kernel_rfl
  rw [frep] at cl fne
  generalize hst : ([.im sc, .mu h4, .im (.int a), .im (.int b), .im (.str w), .im (.str n), .im (.lst M), x7, x8, x9, x10, .un, .im (.exo "FeltError" [] [])] : Sls) = s at *
  have he : evE (.bi .len (.cons (.var 6) (.nil))) s = .ok (.int 32) s := by rw [← hst]; simp [getV, biF, hli, hb]
  have v12 : evE (.var 12) s = .ok (.exo "FeltError" [] []) s := by rw [← hst]; rfl
  have v2 : evE (.var 2) s = .ok (.int a) s := by rw [← hst]; rfl
  have v4 : evE (.var 4) s = .ok (.str w) s := by rw [← hst]; rfl
  have hrep : evM (.rep (.frz (.disp (.cons (.cst (.bl false)) (.nil)))) (.bi .len (.cons (.var 6) (.nil)))) s = .ok (List.replicate 32 (.bl false)) s := by
    have hd : evE (.frz (.disp (.cons (.cst (.bl false)) (.nil)))) s = .ok (.lst [.bl false]) s := rfl
    have hz : ∀ xs : List T, xs.length = 1 → evM (.rep (.frz (.disp (.cons (.cst (.bl false)) (.nil)))) (.bi .len (.cons (.var 6) (.nil)))) s = .ok (List.replicate 32 [T.bl false]).flatten s := fun xs hx => by
      simp only [evM, hd, bind_ok, he]
      rw [if_pos ⟨by decide, by decide, by unfold big; decide⟩]
      rfl
    exact (hz [.bl false] rfl).trans rfl
  have rs := rs s true
  refine (step_ (s1 := s) ?_).trans ?_
  · rw [s_if_, c_bo]
    have ci : evC (.no (.e (.isO (.var 12) ("ValueError" : Str) ys_ValueError ns_ValueError))) s = .ok false s := by
      rw [c_no, c_e, e_isO_, v12, bind_ok, yy]
      rfl
    have cn : evC (.cmp .ne (.call f_Lclasses (.e (.var 12) (.nil)) []) (.frz (.rep (.frz (.disp (.cons (.cst (.bl false)) (.nil)))) (.bi .len (.cons (.var 6) (.nil)))))) s = .ok false s := by
      exact cne cl hrep fne
    simp [ci, cn]
  refine seq_ret ?_
  have el : cop .eq (.int 32) (.int 32) = some (.bl true) := rfl
  have er : evE (.frz (.call f_Lraised (.e (.var 2) (.e (.var 4) (.nil))) [])) s = .ok (.lst [.bl true, .bl true, .bl true]) s := by
    simp [show f_Lraised.fresh = true from rfl, v2, v4, rs, -e_var]
  have eq3 : cop .eq (.lst [.bl true, .bl true, .bl true]) (.lst [.bl true, .bl true, .bl true]) = some (.bl true) := eq_self' rfl
  rw [s_ret_, e_bo, bo_2, e_cmp, he, bind_ok, kCmp_, e_cst, bind_ok, kCmp2_, el, of_some, bind_ok, kBo_, if_pos rfl, bo_1, e_cmp, er, bind_ok, kCmp_]
  have ed : evE (.frz (.disp (.cons (.cst (.bl true)) (.cons (.cst (.bl true)) (.cons (.cst (.bl true)) (.nil)))))) s = .ok (.lst [.bl true, .bl true, .bl true]) s := rfl
  rw [ed, bind_ok, kCmp2_, eq3]
  rfl
end K00

namespace K00.H
open PySem PySem.Spec L2 FL KS
/-! the head -/
open PySem.W (Frag)
abbrev D_Lhand : He.DefD := ⟨(("_law_hand" : Str), none), ("_law_hand" : Str), ("_law_hand" : Str), defArgs (top 35), defBody (top 35), sc_Lhand, [], []⟩
abbrev D_Lmixed : He.DefD := ⟨(("_law_mixed" : Str), none), ("_law_mixed" : Str), ("_law_mixed" : Str), defArgs (top 36), defBody (top 36), sc_Lmixed, [], []⟩
abbrev D_Ltake : He.DefD := ⟨(("_law_take" : Str), none), ("_law_take" : Str), ("_law_take" : Str), defArgs (top 37), defBody (top 37), sc_Ltake, [], []⟩
abbrev D_Lname : He.DefD := ⟨(("_law_name" : Str), none), ("_law_name" : Str), ("_law_name" : Str), defArgs (top 38), defBody (top 38), sc_Lname, [], []⟩
abbrev D_Lthird : He.DefD := ⟨(("_law_third" : Str), none), ("_law_third" : Str), ("_law_third" : Str), defArgs (top 41), defBody (top 41), sc_Lthird, [], []⟩
abbrev D_Lfirst : He.DefD := ⟨(("_law_first" : Str), none), ("_law_first" : Str), ("_law_first" : Str), defArgs (top 39), defBody (top 39), sc_Lfirst, [], []⟩
abbrev D_Lsecond : He.DefD := ⟨(("_law_second" : Str), none), ("_law_second" : Str), ("_law_second" : Str), defArgs (top 40), defBody (top 40), sc_Lsecond, [], []⟩
abbrev D_Lclasses : He.DefD := ⟨(("_law_classes" : Str), none), ("_law_classes" : Str), ("_law_classes" : Str), defArgs (top 42), defBody (top 42), sc_Lclasses, [], []⟩
abbrev D_Lraised : He.DefD := ⟨(("_law_raised" : Str), none), ("_law_raised" : Str), ("_law_raised" : Str), defArgs (top 43), defBody (top 43), sc_Lraised, [], []⟩
abbrev D_law : He.DefD := ⟨(("law" : Str), none), ("law" : Str), ("law" : Str), defArgs (top 44), defBody (top 44), sc_law, [], []⟩
abbrev mth_BadLots : Stmt := (clsB (top 16)).getD 0 (.Pass ⟨0, 0, 0, 0⟩)
abbrev DB_BadLots : He.DefD := ⟨(("BadLots" : Str), some "__init__"), "__init__", ("BadLots.__init__" : Str), defArgs mth_BadLots, defBody mth_BadLots, defScope mth_BadLots, [], []⟩
abbrev fsb_BadLots : List XF := [⟨("what" : Str), 1, ("what" : Str), ("self" : Str), ⟨75, 8, 75, 12⟩, ⟨75, 8, 75, 17⟩, ⟨75, 20, 75, 24⟩, ⟨75, 8, 75, 24⟩⟩]
theorem BB_BadLots : defBody mth_BadLots = binBody ("FeltError" : Str) ("self" : Str) (.n 1 ("what" : Str) ⟨74, 33, 74, 37⟩) fsb_BadLots ⟨74, 27, 74, 31⟩ ⟨74, 8, 74, 17⟩ ⟨74, 8, 74, 26⟩ ⟨74, 8, 74, 38⟩ ⟨74, 8, 74, 38⟩ := by rfl
theorem BS_BadLots : FnScope [("self" : Str), ("what" : Str)] [("self" : Str), ("what" : Str)] (defScope mth_BadLots) := ⟨by rfl, by rfl, by rfl, by decide +kernel, by rfl, by decide +kernel, by decide +kernel⟩
abbrev mth_BadLine : Stmt := (clsB (top 23)).getD 0 (.Pass ⟨0, 0, 0, 0⟩)
abbrev DB_BadLine : He.DefD := ⟨(("BadLine" : Str), some "__init__"), "__init__", ("BadLine.__init__" : Str), defArgs mth_BadLine, defBody mth_BadLine, defScope mth_BadLine, [], []⟩
abbrev fsb_BadLine : List XF := []
theorem BB_BadLine : defBody mth_BadLine = binBody ("FeltError" : Str) ("self" : Str) (.s ("the cases must be a sequence of 2 to 4 cases" : Str) 0 ⟨108, 33, 108, 79⟩) fsb_BadLine ⟨108, 27, 108, 31⟩ ⟨108, 8, 108, 17⟩ ⟨108, 8, 108, 26⟩ ⟨108, 8, 108, 80⟩ ⟨108, 8, 108, 80⟩ := by rfl
theorem BS_BadLine : FnScope [("self" : Str)] [("self" : Str)] (defScope mth_BadLine) := ⟨by rfl, by rfl, by rfl, by decide +kernel, by rfl, by decide +kernel, by decide +kernel⟩
abbrev mth_BadRatio : Stmt := (clsB (top 2)).getD 0 (.Pass ⟨0, 0, 0, 0⟩)
abbrev XD_BadRatio : XcD := { c := ("BadRatio" : Str), name := "__init__", qual := ("BadRatio.__init__" : Str), params := defArgs mth_BadRatio, scope := defScope mth_BadRatio, ps := [("self" : Str), ("what" : Str)], slf := "self", xs := [.s ("ratio" : Str) 0 ⟨7, 25, 7, 32⟩, .n 1 ("what" : Str) ⟨7, 34, 7, 38⟩], fs := [⟨("what" : Str), 1, ("what" : Str), ("self" : Str), ⟨8, 8, 8, 12⟩, ⟨8, 8, 8, 17⟩, ⟨8, 20, 8, 24⟩, ⟨8, 8, 8, 24⟩⟩], p0 := ⟨7, 8, 7, 13⟩, p1 := ⟨7, 8, 7, 15⟩, p2 := ⟨7, 8, 7, 24⟩, p3 := ⟨7, 8, 7, 39⟩, p4 := ⟨7, 8, 7, 39⟩ }
theorem XT_BadRatio : XcT PySem.Challenge.rw_feltstone_k00_errors_side_by_side.prog XD_BadRatio := ⟨by rfl, by rfl, by rfl, by decide +kernel, by decide +kernel, by decide +kernel, by decide +kernel, by decide +kernel, by decide +kernel, ⟨_, by rfl, by rfl, by decide +kernel⟩, by decide +kernel, by decide +kernel, by decide +kernel, fun _ => rfl, fun _ _ _ _ _ _ _ us hl => match us, hl with | [_, _], _ => rfl, by decide, by decide⟩
abbrev mth_BadPlace : Stmt := (clsB (top 3)).getD 0 (.Pass ⟨0, 0, 0, 0⟩)
abbrev XD_BadPlace : XcD := { c := ("BadPlace" : Str), name := "__init__", qual := ("BadPlace.__init__" : Str), params := defArgs mth_BadPlace, scope := defScope mth_BadPlace, ps := [("self" : Str)], slf := "self", xs := [.s ("place" : Str) 0 ⟨12, 25, 12, 32⟩], fs := [], p0 := ⟨12, 8, 12, 13⟩, p1 := ⟨12, 8, 12, 15⟩, p2 := ⟨12, 8, 12, 24⟩, p3 := ⟨12, 8, 12, 33⟩, p4 := ⟨12, 8, 12, 33⟩ }
theorem XT_BadPlace : XcT PySem.Challenge.rw_feltstone_k00_errors_side_by_side.prog XD_BadPlace := ⟨by rfl, by rfl, by rfl, by decide +kernel, by decide +kernel, by decide +kernel, by decide +kernel, by decide +kernel, by decide +kernel, ⟨_, by rfl, by rfl, by decide +kernel⟩, by decide +kernel, by decide +kernel, by decide +kernel, fun _ => rfl, fun _ _ _ _ _ _ _ us hl => match us, hl with | [_], _ => rfl, by decide, by decide⟩
abbrev mth_BadDirection : Stmt := (clsB (top 4)).getD 0 (.Pass ⟨0, 0, 0, 0⟩)
abbrev XD_BadDirection : XcD := { c := ("BadDirection" : Str), name := "__init__", qual := ("BadDirection.__init__" : Str), params := defArgs mth_BadDirection, scope := defScope mth_BadDirection, ps := [("self" : Str)], slf := "self", xs := [.s ("direction" : Str) 0 ⟨16, 25, 16, 36⟩], fs := [], p0 := ⟨16, 8, 16, 13⟩, p1 := ⟨16, 8, 16, 15⟩, p2 := ⟨16, 8, 16, 24⟩, p3 := ⟨16, 8, 16, 37⟩, p4 := ⟨16, 8, 16, 37⟩ }
theorem XT_BadDirection : XcT PySem.Challenge.rw_feltstone_k00_errors_side_by_side.prog XD_BadDirection := ⟨by rfl, by rfl, by rfl, by decide +kernel, by decide +kernel, by decide +kernel, by decide +kernel, by decide +kernel, by decide +kernel, ⟨_, by rfl, by rfl, by decide +kernel⟩, by decide +kernel, by decide +kernel, by decide +kernel, fun _ => rfl, fun _ _ _ _ _ _ _ us hl => match us, hl with | [_], _ => rfl, by decide, by decide⟩
abbrev mth_BadAmount : Stmt := (clsB (top 5)).getD 0 (.Pass ⟨0, 0, 0, 0⟩)
abbrev XD_BadAmount : XcD := { c := ("BadAmount" : Str), name := "__init__", qual := ("BadAmount.__init__" : Str), params := defArgs mth_BadAmount, scope := defScope mth_BadAmount, ps := [("self" : Str)], slf := "self", xs := [.s ("amount" : Str) 0 ⟨20, 25, 20, 33⟩], fs := [], p0 := ⟨20, 8, 20, 13⟩, p1 := ⟨20, 8, 20, 15⟩, p2 := ⟨20, 8, 20, 24⟩, p3 := ⟨20, 8, 20, 34⟩, p4 := ⟨20, 8, 20, 34⟩ }
theorem XT_BadAmount : XcT PySem.Challenge.rw_feltstone_k00_errors_side_by_side.prog XD_BadAmount := ⟨by rfl, by rfl, by rfl, by decide +kernel, by decide +kernel, by decide +kernel, by decide +kernel, by decide +kernel, by decide +kernel, ⟨_, by rfl, by rfl, by decide +kernel⟩, by decide +kernel, by decide +kernel, by decide +kernel, fun _ => rfl, fun _ _ _ _ _ _ _ us hl => match us, hl with | [_], _ => rfl, by decide, by decide⟩
abbrev mth_BadSize : Stmt := (clsB (top 6)).getD 0 (.Pass ⟨0, 0, 0, 0⟩)
abbrev XD_BadSize : XcD := { c := ("BadSize" : Str), name := "__init__", qual := ("BadSize.__init__" : Str), params := defArgs mth_BadSize, scope := defScope mth_BadSize, ps := [("self" : Str)], slf := "self", xs := [.s ("size" : Str) 0 ⟨24, 25, 24, 31⟩], fs := [], p0 := ⟨24, 8, 24, 13⟩, p1 := ⟨24, 8, 24, 15⟩, p2 := ⟨24, 8, 24, 24⟩, p3 := ⟨24, 8, 24, 32⟩, p4 := ⟨24, 8, 24, 32⟩ }
theorem XT_BadSize : XcT PySem.Challenge.rw_feltstone_k00_errors_side_by_side.prog XD_BadSize := ⟨by rfl, by rfl, by rfl, by decide +kernel, by decide +kernel, by decide +kernel, by decide +kernel, by decide +kernel, by decide +kernel, ⟨_, by rfl, by rfl, by decide +kernel⟩, by decide +kernel, by decide +kernel, by decide +kernel, fun _ => rfl, fun _ _ _ _ _ _ _ us hl => match us, hl with | [_], _ => rfl, by decide, by decide⟩
abbrev mth_BadPatch : Stmt := (clsB (top 7)).getD 0 (.Pass ⟨0, 0, 0, 0⟩)
abbrev XD_BadPatch : XcD := { c := ("BadPatch" : Str), name := "__init__", qual := ("BadPatch.__init__" : Str), params := defArgs mth_BadPatch, scope := defScope mth_BadPatch, ps := [("self" : Str), ("what" : Str)], slf := "self", xs := [.s ("patch" : Str) 0 ⟨28, 25, 28, 32⟩, .n 1 ("what" : Str) ⟨28, 34, 28, 38⟩], fs := [⟨("what" : Str), 1, ("what" : Str), ("self" : Str), ⟨29, 8, 29, 12⟩, ⟨29, 8, 29, 17⟩, ⟨29, 20, 29, 24⟩, ⟨29, 8, 29, 24⟩⟩], p0 := ⟨28, 8, 28, 13⟩, p1 := ⟨28, 8, 28, 15⟩, p2 := ⟨28, 8, 28, 24⟩, p3 := ⟨28, 8, 28, 39⟩, p4 := ⟨28, 8, 28, 39⟩ }
theorem XT_BadPatch : XcT PySem.Challenge.rw_feltstone_k00_errors_side_by_side.prog XD_BadPatch := ⟨by rfl, by rfl, by rfl, by decide +kernel, by decide +kernel, by decide +kernel, by decide +kernel, by decide +kernel, by decide +kernel, ⟨_, by rfl, by rfl, by decide +kernel⟩, by decide +kernel, by decide +kernel, by decide +kernel, fun _ => rfl, fun _ _ _ _ _ _ _ us hl => match us, hl with | [_, _], _ => rfl, by decide, by decide⟩
abbrev mth_BadTable : Stmt := (clsB (top 8)).getD 0 (.Pass ⟨0, 0, 0, 0⟩)
abbrev XD_BadTable : XcD := { c := ("BadTable" : Str), name := "__init__", qual := ("BadTable.__init__" : Str), params := defArgs mth_BadTable, scope := defScope mth_BadTable, ps := [("self" : Str), ("what" : Str)], slf := "self", xs := [.s ("table" : Str) 0 ⟨33, 25, 33, 32⟩, .n 1 ("what" : Str) ⟨33, 34, 33, 38⟩], fs := [⟨("what" : Str), 1, ("what" : Str), ("self" : Str), ⟨34, 8, 34, 12⟩, ⟨34, 8, 34, 17⟩, ⟨34, 20, 34, 24⟩, ⟨34, 8, 34, 24⟩⟩], p0 := ⟨33, 8, 33, 13⟩, p1 := ⟨33, 8, 33, 15⟩, p2 := ⟨33, 8, 33, 24⟩, p3 := ⟨33, 8, 33, 39⟩, p4 := ⟨33, 8, 33, 39⟩ }
theorem XT_BadTable : XcT PySem.Challenge.rw_feltstone_k00_errors_side_by_side.prog XD_BadTable := ⟨by rfl, by rfl, by rfl, by decide +kernel, by decide +kernel, by decide +kernel, by decide +kernel, by decide +kernel, by decide +kernel, ⟨_, by rfl, by rfl, by decide +kernel⟩, by decide +kernel, by decide +kernel, by decide +kernel, fun _ => rfl, fun _ _ _ _ _ _ _ us hl => match us, hl with | [_, _], _ => rfl, by decide, by decide⟩
abbrev mth_BadText : Stmt := (clsB (top 9)).getD 0 (.Pass ⟨0, 0, 0, 0⟩)
abbrev XD_BadText : XcD := { c := ("BadText" : Str), name := "__init__", qual := ("BadText.__init__" : Str), params := defArgs mth_BadText, scope := defScope mth_BadText, ps := [("self" : Str), ("row" : Str), ("what" : Str)], slf := "self", xs := [.s ("text" : Str) 0 ⟨38, 25, 38, 31⟩, .n 1 ("row" : Str) ⟨38, 33, 38, 36⟩, .n 2 ("what" : Str) ⟨38, 38, 38, 42⟩], fs := [⟨("row" : Str), 1, ("row" : Str), ("self" : Str), ⟨39, 8, 39, 12⟩, ⟨39, 8, 39, 16⟩, ⟨39, 19, 39, 22⟩, ⟨39, 8, 39, 22⟩⟩, ⟨("what" : Str), 2, ("what" : Str), ("self" : Str), ⟨40, 8, 40, 12⟩, ⟨40, 8, 40, 17⟩, ⟨40, 20, 40, 24⟩, ⟨40, 8, 40, 24⟩⟩], p0 := ⟨38, 8, 38, 13⟩, p1 := ⟨38, 8, 38, 15⟩, p2 := ⟨38, 8, 38, 24⟩, p3 := ⟨38, 8, 38, 43⟩, p4 := ⟨38, 8, 38, 43⟩ }
theorem XT_BadText : XcT PySem.Challenge.rw_feltstone_k00_errors_side_by_side.prog XD_BadText := ⟨by rfl, by rfl, by rfl, by decide +kernel, by decide +kernel, by decide +kernel, by decide +kernel, by decide +kernel, by decide +kernel, ⟨_, by rfl, by rfl, by decide +kernel⟩, by decide +kernel, by decide +kernel, by decide +kernel, fun _ => rfl, fun _ _ _ _ _ _ _ us hl => match us, hl with | [_, _, _], _ => rfl, by decide, by decide⟩
abbrev mth_BadFact : Stmt := (clsB (top 10)).getD 0 (.Pass ⟨0, 0, 0, 0⟩)
abbrev XD_BadFact : XcD := { c := ("BadFact" : Str), name := "__init__", qual := ("BadFact.__init__" : Str), params := defArgs mth_BadFact, scope := defScope mth_BadFact, ps := [("self" : Str), ("what" : Str)], slf := "self", xs := [.s ("fact" : Str) 0 ⟨44, 25, 44, 31⟩, .n 1 ("what" : Str) ⟨44, 33, 44, 37⟩], fs := [⟨("what" : Str), 1, ("what" : Str), ("self" : Str), ⟨45, 8, 45, 12⟩, ⟨45, 8, 45, 17⟩, ⟨45, 20, 45, 24⟩, ⟨45, 8, 45, 24⟩⟩], p0 := ⟨44, 8, 44, 13⟩, p1 := ⟨44, 8, 44, 15⟩, p2 := ⟨44, 8, 44, 24⟩, p3 := ⟨44, 8, 44, 38⟩, p4 := ⟨44, 8, 44, 38⟩ }
theorem XT_BadFact : XcT PySem.Challenge.rw_feltstone_k00_errors_side_by_side.prog XD_BadFact := ⟨by rfl, by rfl, by rfl, by decide +kernel, by decide +kernel, by decide +kernel, by decide +kernel, by decide +kernel, by decide +kernel, ⟨_, by rfl, by rfl, by decide +kernel⟩, by decide +kernel, by decide +kernel, by decide +kernel, fun _ => rfl, fun _ _ _ _ _ _ _ us hl => match us, hl with | [_, _], _ => rfl, by decide, by decide⟩
abbrev mth_BadCase : Stmt := (clsB (top 11)).getD 0 (.Pass ⟨0, 0, 0, 0⟩)
abbrev XD_BadCase : XcD := { c := ("BadCase" : Str), name := "__init__", qual := ("BadCase.__init__" : Str), params := defArgs mth_BadCase, scope := defScope mth_BadCase, ps := [("self" : Str), ("index" : Str), ("what" : Str)], slf := "self", xs := [.s ("case" : Str) 0 ⟨49, 25, 49, 31⟩, .n 1 ("index" : Str) ⟨49, 33, 49, 38⟩, .n 2 ("what" : Str) ⟨49, 40, 49, 44⟩], fs := [⟨("index" : Str), 1, ("index" : Str), ("self" : Str), ⟨50, 8, 50, 12⟩, ⟨50, 8, 50, 18⟩, ⟨50, 21, 50, 26⟩, ⟨50, 8, 50, 26⟩⟩, ⟨("what" : Str), 2, ("what" : Str), ("self" : Str), ⟨51, 8, 51, 12⟩, ⟨51, 8, 51, 17⟩, ⟨51, 20, 51, 24⟩, ⟨51, 8, 51, 24⟩⟩], p0 := ⟨49, 8, 49, 13⟩, p1 := ⟨49, 8, 49, 15⟩, p2 := ⟨49, 8, 49, 24⟩, p3 := ⟨49, 8, 49, 45⟩, p4 := ⟨49, 8, 49, 45⟩ }
theorem XT_BadCase : XcT PySem.Challenge.rw_feltstone_k00_errors_side_by_side.prog XD_BadCase := ⟨by rfl, by rfl, by rfl, by decide +kernel, by decide +kernel, by decide +kernel, by decide +kernel, by decide +kernel, by decide +kernel, ⟨_, by rfl, by rfl, by decide +kernel⟩, by decide +kernel, by decide +kernel, by decide +kernel, fun _ => rfl, fun _ _ _ _ _ _ _ us hl => match us, hl with | [_, _, _], _ => rfl, by decide, by decide⟩
abbrev mth_NoFact : Stmt := (clsB (top 12)).getD 0 (.Pass ⟨0, 0, 0, 0⟩)
abbrev XD_NoFact : XcD := { c := ("NoFact" : Str), name := "__init__", qual := ("NoFact.__init__" : Str), params := defArgs mth_NoFact, scope := defScope mth_NoFact, ps := [("self" : Str), ("number" : Str)], slf := "self", xs := [.s ("no fact" : Str) 0 ⟨55, 25, 55, 34⟩, .n 1 ("number" : Str) ⟨55, 36, 55, 42⟩], fs := [⟨("number" : Str), 1, ("number" : Str), ("self" : Str), ⟨56, 8, 56, 12⟩, ⟨56, 8, 56, 19⟩, ⟨56, 22, 56, 28⟩, ⟨56, 8, 56, 28⟩⟩], p0 := ⟨55, 8, 55, 13⟩, p1 := ⟨55, 8, 55, 15⟩, p2 := ⟨55, 8, 55, 24⟩, p3 := ⟨55, 8, 55, 43⟩, p4 := ⟨55, 8, 55, 43⟩ }
theorem XT_NoFact : XcT PySem.Challenge.rw_feltstone_k00_errors_side_by_side.prog XD_NoFact := ⟨by rfl, by rfl, by rfl, by decide +kernel, by decide +kernel, by decide +kernel, by decide +kernel, by decide +kernel, by decide +kernel, ⟨_, by rfl, by rfl, by decide +kernel⟩, by decide +kernel, by decide +kernel, by decide +kernel, fun _ => rfl, fun _ _ _ _ _ _ _ us hl => match us, hl with | [_, _], _ => rfl, by decide, by decide⟩
abbrev mth_NoStones : Stmt := (clsB (top 13)).getD 0 (.Pass ⟨0, 0, 0, 0⟩)
abbrev XD_NoStones : XcD := { c := ("NoStones" : Str), name := "__init__", qual := ("NoStones.__init__" : Str), params := defArgs mth_NoStones, scope := defScope mth_NoStones, ps := [("self" : Str)], slf := "self", xs := [.s ("no stone fits" : Str) 0 ⟨60, 25, 60, 40⟩], fs := [], p0 := ⟨60, 8, 60, 13⟩, p1 := ⟨60, 8, 60, 15⟩, p2 := ⟨60, 8, 60, 24⟩, p3 := ⟨60, 8, 60, 41⟩, p4 := ⟨60, 8, 60, 41⟩ }
theorem XT_NoStones : XcT PySem.Challenge.rw_feltstone_k00_errors_side_by_side.prog XD_NoStones := ⟨by rfl, by rfl, by rfl, by decide +kernel, by decide +kernel, by decide +kernel, by decide +kernel, by decide +kernel, by decide +kernel, ⟨_, by rfl, by rfl, by decide +kernel⟩, by decide +kernel, by decide +kernel, by decide +kernel, fun _ => rfl, fun _ _ _ _ _ _ _ us hl => match us, hl with | [_], _ => rfl, by decide, by decide⟩
abbrev mth_BadChoice : Stmt := (clsB (top 14)).getD 0 (.Pass ⟨0, 0, 0, 0⟩)
abbrev XD_BadChoice : XcD := { c := ("BadChoice" : Str), name := "__init__", qual := ("BadChoice.__init__" : Str), params := defArgs mth_BadChoice, scope := defScope mth_BadChoice, ps := [("self" : Str), ("index" : Str)], slf := "self", xs := [.s ("choice" : Str) 0 ⟨64, 25, 64, 33⟩, .n 1 ("index" : Str) ⟨64, 35, 64, 40⟩], fs := [⟨("index" : Str), 1, ("index" : Str), ("self" : Str), ⟨65, 8, 65, 12⟩, ⟨65, 8, 65, 18⟩, ⟨65, 21, 65, 26⟩, ⟨65, 8, 65, 26⟩⟩], p0 := ⟨64, 8, 64, 13⟩, p1 := ⟨64, 8, 64, 15⟩, p2 := ⟨64, 8, 64, 24⟩, p3 := ⟨64, 8, 64, 41⟩, p4 := ⟨64, 8, 64, 41⟩ }
theorem XT_BadChoice : XcT PySem.Challenge.rw_feltstone_k00_errors_side_by_side.prog XD_BadChoice := ⟨by rfl, by rfl, by rfl, by decide +kernel, by decide +kernel, by decide +kernel, by decide +kernel, by decide +kernel, by decide +kernel, ⟨_, by rfl, by rfl, by decide +kernel⟩, by decide +kernel, by decide +kernel, by decide +kernel, fun _ => rfl, fun _ _ _ _ _ _ _ us hl => match us, hl with | [_, _], _ => rfl, by decide, by decide⟩
abbrev mth_NotFit : Stmt := (clsB (top 15)).getD 0 (.Pass ⟨0, 0, 0, 0⟩)
abbrev XD_NotFit : XcD := { c := ("NotFit" : Str), name := "__init__", qual := ("NotFit.__init__" : Str), params := defArgs mth_NotFit, scope := defScope mth_NotFit, ps := [("self" : Str), ("fact" : Str)], slf := "self", xs := [.s ("misfit" : Str) 0 ⟨69, 25, 69, 33⟩, .n 1 ("fact" : Str) ⟨69, 35, 69, 39⟩], fs := [⟨("fact" : Str), 1, ("fact" : Str), ("self" : Str), ⟨70, 8, 70, 12⟩, ⟨70, 8, 70, 17⟩, ⟨70, 20, 70, 24⟩, ⟨70, 8, 70, 24⟩⟩], p0 := ⟨69, 8, 69, 13⟩, p1 := ⟨69, 8, 69, 15⟩, p2 := ⟨69, 8, 69, 24⟩, p3 := ⟨69, 8, 69, 40⟩, p4 := ⟨69, 8, 69, 40⟩ }
theorem XT_NotFit : XcT PySem.Challenge.rw_feltstone_k00_errors_side_by_side.prog XD_NotFit := ⟨by rfl, by rfl, by rfl, by decide +kernel, by decide +kernel, by decide +kernel, by decide +kernel, by decide +kernel, by decide +kernel, ⟨_, by rfl, by rfl, by decide +kernel⟩, by decide +kernel, by decide +kernel, by decide +kernel, fun _ => rfl, fun _ _ _ _ _ _ _ us hl => match us, hl with | [_, _], _ => rfl, by decide, by decide⟩
abbrev mth_NotMet : Stmt := (clsB (top 17)).getD 0 (.Pass ⟨0, 0, 0, 0⟩)
abbrev XD_NotMet : XcD := { c := ("NotMet" : Str), name := "__init__", qual := ("NotMet.__init__" : Str), params := defArgs mth_NotMet, scope := defScope mth_NotMet, ps := [("self" : Str)], slf := "self", xs := [.s ("met" : Str) 0 ⟨79, 25, 79, 30⟩], fs := [], p0 := ⟨79, 8, 79, 13⟩, p1 := ⟨79, 8, 79, 15⟩, p2 := ⟨79, 8, 79, 24⟩, p3 := ⟨79, 8, 79, 31⟩, p4 := ⟨79, 8, 79, 31⟩ }
theorem XT_NotMet : XcT PySem.Challenge.rw_feltstone_k00_errors_side_by_side.prog XD_NotMet := ⟨by rfl, by rfl, by rfl, by decide +kernel, by decide +kernel, by decide +kernel, by decide +kernel, by decide +kernel, by decide +kernel, ⟨_, by rfl, by rfl, by decide +kernel⟩, by decide +kernel, by decide +kernel, by decide +kernel, fun _ => rfl, fun _ _ _ _ _ _ _ us hl => match us, hl with | [_], _ => rfl, by decide, by decide⟩
abbrev mth_BadClaim : Stmt := (clsB (top 18)).getD 0 (.Pass ⟨0, 0, 0, 0⟩)
abbrev XD_BadClaim : XcD := { c := ("BadClaim" : Str), name := "__init__", qual := ("BadClaim.__init__" : Str), params := defArgs mth_BadClaim, scope := defScope mth_BadClaim, ps := [("self" : Str), ("what" : Str)], slf := "self", xs := [.s ("claim" : Str) 0 ⟨83, 25, 83, 32⟩, .n 1 ("what" : Str) ⟨83, 34, 83, 38⟩], fs := [⟨("what" : Str), 1, ("what" : Str), ("self" : Str), ⟨84, 8, 84, 12⟩, ⟨84, 8, 84, 17⟩, ⟨84, 20, 84, 24⟩, ⟨84, 8, 84, 24⟩⟩], p0 := ⟨83, 8, 83, 13⟩, p1 := ⟨83, 8, 83, 15⟩, p2 := ⟨83, 8, 83, 24⟩, p3 := ⟨83, 8, 83, 39⟩, p4 := ⟨83, 8, 83, 39⟩ }
theorem XT_BadClaim : XcT PySem.Challenge.rw_feltstone_k00_errors_side_by_side.prog XD_BadClaim := ⟨by rfl, by rfl, by rfl, by decide +kernel, by decide +kernel, by decide +kernel, by decide +kernel, by decide +kernel, by decide +kernel, ⟨_, by rfl, by rfl, by decide +kernel⟩, by decide +kernel, by decide +kernel, by decide +kernel, fun _ => rfl, fun _ _ _ _ _ _ _ us hl => match us, hl with | [_, _], _ => rfl, by decide, by decide⟩
abbrev mth_NoArea : Stmt := (clsB (top 19)).getD 0 (.Pass ⟨0, 0, 0, 0⟩)
abbrev XD_NoArea : XcD := { c := ("NoArea" : Str), name := "__init__", qual := ("NoArea.__init__" : Str), params := defArgs mth_NoArea, scope := defScope mth_NoArea, ps := [("self" : Str), ("number" : Str)], slf := "self", xs := [.s ("meets" : Str) 0 ⟨88, 25, 88, 32⟩, .n 1 ("number" : Str) ⟨88, 34, 88, 40⟩], fs := [⟨("number" : Str), 1, ("number" : Str), ("self" : Str), ⟨89, 8, 89, 12⟩, ⟨89, 8, 89, 19⟩, ⟨89, 22, 89, 28⟩, ⟨89, 8, 89, 28⟩⟩], p0 := ⟨88, 8, 88, 13⟩, p1 := ⟨88, 8, 88, 15⟩, p2 := ⟨88, 8, 88, 24⟩, p3 := ⟨88, 8, 88, 41⟩, p4 := ⟨88, 8, 88, 41⟩ }
theorem XT_NoArea : XcT PySem.Challenge.rw_feltstone_k00_errors_side_by_side.prog XD_NoArea := ⟨by rfl, by rfl, by rfl, by decide +kernel, by decide +kernel, by decide +kernel, by decide +kernel, by decide +kernel, by decide +kernel, ⟨_, by rfl, by rfl, by decide +kernel⟩, by decide +kernel, by decide +kernel, by decide +kernel, fun _ => rfl, fun _ _ _ _ _ _ _ us hl => match us, hl with | [_, _], _ => rfl, by decide, by decide⟩
abbrev mth_BadCorner : Stmt := (clsB (top 20)).getD 0 (.Pass ⟨0, 0, 0, 0⟩)
abbrev XD_BadCorner : XcD := { c := ("BadCorner" : Str), name := "__init__", qual := ("BadCorner.__init__" : Str), params := defArgs mth_BadCorner, scope := defScope mth_BadCorner, ps := [("self" : Str), ("number" : Str)], slf := "self", xs := [.s ("corner" : Str) 0 ⟨93, 25, 93, 33⟩, .n 1 ("number" : Str) ⟨93, 35, 93, 41⟩], fs := [⟨("number" : Str), 1, ("number" : Str), ("self" : Str), ⟨94, 8, 94, 12⟩, ⟨94, 8, 94, 19⟩, ⟨94, 22, 94, 28⟩, ⟨94, 8, 94, 28⟩⟩], p0 := ⟨93, 8, 93, 13⟩, p1 := ⟨93, 8, 93, 15⟩, p2 := ⟨93, 8, 93, 24⟩, p3 := ⟨93, 8, 93, 42⟩, p4 := ⟨93, 8, 93, 42⟩ }
theorem XT_BadCorner : XcT PySem.Challenge.rw_feltstone_k00_errors_side_by_side.prog XD_BadCorner := ⟨by rfl, by rfl, by rfl, by decide +kernel, by decide +kernel, by decide +kernel, by decide +kernel, by decide +kernel, by decide +kernel, ⟨_, by rfl, by rfl, by decide +kernel⟩, by decide +kernel, by decide +kernel, by decide +kernel, fun _ => rfl, fun _ _ _ _ _ _ _ us hl => match us, hl with | [_, _], _ => rfl, by decide, by decide⟩
abbrev mth_BadKept : Stmt := (clsB (top 21)).getD 0 (.Pass ⟨0, 0, 0, 0⟩)
abbrev XD_BadKept : XcD := { c := ("BadKept" : Str), name := "__init__", qual := ("BadKept.__init__" : Str), params := defArgs mth_BadKept, scope := defScope mth_BadKept, ps := [("self" : Str), ("what" : Str)], slf := "self", xs := [.n 1 ("what" : Str) ⟨98, 25, 98, 29⟩], fs := [⟨("what" : Str), 1, ("what" : Str), ("self" : Str), ⟨99, 8, 99, 12⟩, ⟨99, 8, 99, 17⟩, ⟨99, 20, 99, 24⟩, ⟨99, 8, 99, 24⟩⟩], p0 := ⟨98, 8, 98, 13⟩, p1 := ⟨98, 8, 98, 15⟩, p2 := ⟨98, 8, 98, 24⟩, p3 := ⟨98, 8, 98, 30⟩, p4 := ⟨98, 8, 98, 30⟩ }
theorem XT_BadKept : XcT PySem.Challenge.rw_feltstone_k00_errors_side_by_side.prog XD_BadKept := ⟨by rfl, by rfl, by rfl, by decide +kernel, by decide +kernel, by decide +kernel, by decide +kernel, by decide +kernel, by decide +kernel, ⟨_, by rfl, by rfl, by decide +kernel⟩, by decide +kernel, by decide +kernel, by decide +kernel, fun _ => rfl, fun _ _ _ _ _ _ _ us hl => match us, hl with | [_, _], _ => rfl, by decide, by decide⟩
abbrev mth_TooMany : Stmt := (clsB (top 22)).getD 0 (.Pass ⟨0, 0, 0, 0⟩)
abbrev XD_TooMany : XcD := { c := ("TooMany" : Str), name := "__init__", qual := ("TooMany.__init__" : Str), params := defArgs mth_TooMany, scope := defScope mth_TooMany, ps := [("self" : Str), ("most" : Str)], slf := "self", xs := [.s ("more than" : Str) 0 ⟨103, 25, 103, 36⟩, .n 1 ("most" : Str) ⟨103, 38, 103, 42⟩], fs := [⟨("most" : Str), 1, ("most" : Str), ("self" : Str), ⟨104, 8, 104, 12⟩, ⟨104, 8, 104, 17⟩, ⟨104, 20, 104, 24⟩, ⟨104, 8, 104, 24⟩⟩], p0 := ⟨103, 8, 103, 13⟩, p1 := ⟨103, 8, 103, 15⟩, p2 := ⟨103, 8, 103, 24⟩, p3 := ⟨103, 8, 103, 43⟩, p4 := ⟨103, 8, 103, 43⟩ }
theorem XT_TooMany : XcT PySem.Challenge.rw_feltstone_k00_errors_side_by_side.prog XD_TooMany := ⟨by rfl, by rfl, by rfl, by decide +kernel, by decide +kernel, by decide +kernel, by decide +kernel, by decide +kernel, by decide +kernel, ⟨_, by rfl, by rfl, by decide +kernel⟩, by decide +kernel, by decide +kernel, by decide +kernel, fun _ => rfl, fun _ _ _ _ _ _ _ us hl => match us, hl with | [_, _], _ => rfl, by decide, by decide⟩
abbrev mth_BadReading : Stmt := (clsB (top 24)).getD 0 (.Pass ⟨0, 0, 0, 0⟩)
abbrev XD_BadReading : XcD := { c := ("BadReading" : Str), name := "__init__", qual := ("BadReading.__init__" : Str), params := defArgs mth_BadReading, scope := defScope mth_BadReading, ps := [("self" : Str), ("index" : Str), ("what" : Str)], slf := "self", xs := [.s ("reading" : Str) 0 ⟨112, 25, 112, 34⟩, .n 1 ("index" : Str) ⟨112, 36, 112, 41⟩, .n 2 ("what" : Str) ⟨112, 43, 112, 47⟩], fs := [⟨("index" : Str), 1, ("index" : Str), ("self" : Str), ⟨113, 8, 113, 12⟩, ⟨113, 8, 113, 18⟩, ⟨113, 21, 113, 26⟩, ⟨113, 8, 113, 26⟩⟩, ⟨("what" : Str), 2, ("what" : Str), ("self" : Str), ⟨114, 8, 114, 12⟩, ⟨114, 8, 114, 17⟩, ⟨114, 20, 114, 24⟩, ⟨114, 8, 114, 24⟩⟩], p0 := ⟨112, 8, 112, 13⟩, p1 := ⟨112, 8, 112, 15⟩, p2 := ⟨112, 8, 112, 24⟩, p3 := ⟨112, 8, 112, 48⟩, p4 := ⟨112, 8, 112, 48⟩ }
theorem XT_BadReading : XcT PySem.Challenge.rw_feltstone_k00_errors_side_by_side.prog XD_BadReading := ⟨by rfl, by rfl, by rfl, by decide +kernel, by decide +kernel, by decide +kernel, by decide +kernel, by decide +kernel, by decide +kernel, ⟨_, by rfl, by rfl, by decide +kernel⟩, by decide +kernel, by decide +kernel, by decide +kernel, fun _ => rfl, fun _ _ _ _ _ _ _ us hl => match us, hl with | [_, _, _], _ => rfl, by decide, by decide⟩
abbrev mth_BadBreadth : Stmt := (clsB (top 25)).getD 0 (.Pass ⟨0, 0, 0, 0⟩)
abbrev XD_BadBreadth : XcD := { c := ("BadBreadth" : Str), name := "__init__", qual := ("BadBreadth.__init__" : Str), params := defArgs mth_BadBreadth, scope := defScope mth_BadBreadth, ps := [("self" : Str)], slf := "self", xs := [.s ("breadth" : Str) 0 ⟨118, 25, 118, 34⟩], fs := [], p0 := ⟨118, 8, 118, 13⟩, p1 := ⟨118, 8, 118, 15⟩, p2 := ⟨118, 8, 118, 24⟩, p3 := ⟨118, 8, 118, 35⟩, p4 := ⟨118, 8, 118, 35⟩ }
theorem XT_BadBreadth : XcT PySem.Challenge.rw_feltstone_k00_errors_side_by_side.prog XD_BadBreadth := ⟨by rfl, by rfl, by rfl, by decide +kernel, by decide +kernel, by decide +kernel, by decide +kernel, by decide +kernel, by decide +kernel, ⟨_, by rfl, by rfl, by decide +kernel⟩, by decide +kernel, by decide +kernel, by decide +kernel, fun _ => rfl, fun _ _ _ _ _ _ _ us hl => match us, hl with | [_], _ => rfl, by decide, by decide⟩
abbrev mth_BadBox : Stmt := (clsB (top 26)).getD 0 (.Pass ⟨0, 0, 0, 0⟩)
abbrev XD_BadBox : XcD := { c := ("BadBox" : Str), name := "__init__", qual := ("BadBox.__init__" : Str), params := defArgs mth_BadBox, scope := defScope mth_BadBox, ps := [("self" : Str), ("what" : Str)], slf := "self", xs := [.s ("box" : Str) 0 ⟨122, 25, 122, 30⟩, .n 1 ("what" : Str) ⟨122, 32, 122, 36⟩], fs := [⟨("what" : Str), 1, ("what" : Str), ("self" : Str), ⟨123, 8, 123, 12⟩, ⟨123, 8, 123, 17⟩, ⟨123, 20, 123, 24⟩, ⟨123, 8, 123, 24⟩⟩], p0 := ⟨122, 8, 122, 13⟩, p1 := ⟨122, 8, 122, 15⟩, p2 := ⟨122, 8, 122, 24⟩, p3 := ⟨122, 8, 122, 37⟩, p4 := ⟨122, 8, 122, 37⟩ }
theorem XT_BadBox : XcT PySem.Challenge.rw_feltstone_k00_errors_side_by_side.prog XD_BadBox := ⟨by rfl, by rfl, by rfl, by decide +kernel, by decide +kernel, by decide +kernel, by decide +kernel, by decide +kernel, by decide +kernel, ⟨_, by rfl, by rfl, by decide +kernel⟩, by decide +kernel, by decide +kernel, by decide +kernel, fun _ => rfl, fun _ _ _ _ _ _ _ us hl => match us, hl with | [_, _], _ => rfl, by decide, by decide⟩
abbrev mth_BadDirections : Stmt := (clsB (top 27)).getD 0 (.Pass ⟨0, 0, 0, 0⟩)
abbrev XD_BadDirections : XcD := { c := ("BadDirections" : Str), name := "__init__", qual := ("BadDirections.__init__" : Str), params := defArgs mth_BadDirections, scope := defScope mth_BadDirections, ps := [("self" : Str), ("index" : Str)], slf := "self", xs := [.s ("directions" : Str) 0 ⟨127, 25, 127, 37⟩, .n 1 ("index" : Str) ⟨127, 39, 127, 44⟩], fs := [⟨("index" : Str), 1, ("index" : Str), ("self" : Str), ⟨128, 8, 128, 12⟩, ⟨128, 8, 128, 18⟩, ⟨128, 21, 128, 26⟩, ⟨128, 8, 128, 26⟩⟩], p0 := ⟨127, 8, 127, 13⟩, p1 := ⟨127, 8, 127, 15⟩, p2 := ⟨127, 8, 127, 24⟩, p3 := ⟨127, 8, 127, 45⟩, p4 := ⟨127, 8, 127, 45⟩ }
theorem XT_BadDirections : XcT PySem.Challenge.rw_feltstone_k00_errors_side_by_side.prog XD_BadDirections := ⟨by rfl, by rfl, by rfl, by decide +kernel, by decide +kernel, by decide +kernel, by decide +kernel, by decide +kernel, by decide +kernel, ⟨_, by rfl, by rfl, by decide +kernel⟩, by decide +kernel, by decide +kernel, by decide +kernel, fun _ => rfl, fun _ _ _ _ _ _ _ us hl => match us, hl with | [_, _], _ => rfl, by decide, by decide⟩
abbrev mth_BadStone : Stmt := (clsB (top 28)).getD 0 (.Pass ⟨0, 0, 0, 0⟩)
abbrev XD_BadStone : XcD := { c := ("BadStone" : Str), name := "__init__", qual := ("BadStone.__init__" : Str), params := defArgs mth_BadStone, scope := defScope mth_BadStone, ps := [("self" : Str)], slf := "self", xs := [.s ("stone" : Str) 0 ⟨132, 25, 132, 32⟩], fs := [], p0 := ⟨132, 8, 132, 13⟩, p1 := ⟨132, 8, 132, 15⟩, p2 := ⟨132, 8, 132, 24⟩, p3 := ⟨132, 8, 132, 33⟩, p4 := ⟨132, 8, 132, 33⟩ }
theorem XT_BadStone : XcT PySem.Challenge.rw_feltstone_k00_errors_side_by_side.prog XD_BadStone := ⟨by rfl, by rfl, by rfl, by decide +kernel, by decide +kernel, by decide +kernel, by decide +kernel, by decide +kernel, by decide +kernel, ⟨_, by rfl, by rfl, by decide +kernel⟩, by decide +kernel, by decide +kernel, by decide +kernel, fun _ => rfl, fun _ _ _ _ _ _ _ us hl => match us, hl with | [_], _ => rfl, by decide, by decide⟩
abbrev mth_BadMost : Stmt := (clsB (top 29)).getD 0 (.Pass ⟨0, 0, 0, 0⟩)
abbrev XD_BadMost : XcD := { c := ("BadMost" : Str), name := "__init__", qual := ("BadMost.__init__" : Str), params := defArgs mth_BadMost, scope := defScope mth_BadMost, ps := [("self" : Str)], slf := "self", xs := [.s ("most" : Str) 0 ⟨136, 25, 136, 31⟩], fs := [], p0 := ⟨136, 8, 136, 13⟩, p1 := ⟨136, 8, 136, 15⟩, p2 := ⟨136, 8, 136, 24⟩, p3 := ⟨136, 8, 136, 32⟩, p4 := ⟨136, 8, 136, 32⟩ }
theorem XT_BadMost : XcT PySem.Challenge.rw_feltstone_k00_errors_side_by_side.prog XD_BadMost := ⟨by rfl, by rfl, by rfl, by decide +kernel, by decide +kernel, by decide +kernel, by decide +kernel, by decide +kernel, by decide +kernel, ⟨_, by rfl, by rfl, by decide +kernel⟩, by decide +kernel, by decide +kernel, by decide +kernel, fun _ => rfl, fun _ _ _ _ _ _ _ us hl => match us, hl with | [_], _ => rfl, by decide, by decide⟩
abbrev mth_BadChange : Stmt := (clsB (top 30)).getD 0 (.Pass ⟨0, 0, 0, 0⟩)
abbrev XD_BadChange : XcD := { c := ("BadChange" : Str), name := "__init__", qual := ("BadChange.__init__" : Str), params := defArgs mth_BadChange, scope := defScope mth_BadChange, ps := [("self" : Str), ("index" : Str), ("what" : Str)], slf := "self", xs := [.s ("change" : Str) 0 ⟨140, 25, 140, 33⟩, .n 1 ("index" : Str) ⟨140, 35, 140, 40⟩, .n 2 ("what" : Str) ⟨140, 42, 140, 46⟩], fs := [⟨("index" : Str), 1, ("index" : Str), ("self" : Str), ⟨141, 8, 141, 12⟩, ⟨141, 8, 141, 18⟩, ⟨141, 21, 141, 26⟩, ⟨141, 8, 141, 26⟩⟩, ⟨("what" : Str), 2, ("what" : Str), ("self" : Str), ⟨142, 8, 142, 12⟩, ⟨142, 8, 142, 17⟩, ⟨142, 20, 142, 24⟩, ⟨142, 8, 142, 24⟩⟩], p0 := ⟨140, 8, 140, 13⟩, p1 := ⟨140, 8, 140, 15⟩, p2 := ⟨140, 8, 140, 24⟩, p3 := ⟨140, 8, 140, 47⟩, p4 := ⟨140, 8, 140, 47⟩ }
theorem XT_BadChange : XcT PySem.Challenge.rw_feltstone_k00_errors_side_by_side.prog XD_BadChange := ⟨by rfl, by rfl, by rfl, by decide +kernel, by decide +kernel, by decide +kernel, by decide +kernel, by decide +kernel, by decide +kernel, ⟨_, by rfl, by rfl, by decide +kernel⟩, by decide +kernel, by decide +kernel, by decide +kernel, fun _ => rfl, fun _ _ _ _ _ _ _ us hl => match us, hl with | [_, _, _], _ => rfl, by decide, by decide⟩
abbrev mth_BadWish : Stmt := (clsB (top 31)).getD 0 (.Pass ⟨0, 0, 0, 0⟩)
abbrev XD_BadWish : XcD := { c := ("BadWish" : Str), name := "__init__", qual := ("BadWish.__init__" : Str), params := defArgs mth_BadWish, scope := defScope mth_BadWish, ps := [("self" : Str), ("index" : Str)], slf := "self", xs := [.s ("wish" : Str) 0 ⟨146, 25, 146, 31⟩, .n 1 ("index" : Str) ⟨146, 33, 146, 38⟩], fs := [⟨("index" : Str), 1, ("index" : Str), ("self" : Str), ⟨147, 8, 147, 12⟩, ⟨147, 8, 147, 18⟩, ⟨147, 21, 147, 26⟩, ⟨147, 8, 147, 26⟩⟩], p0 := ⟨146, 8, 146, 13⟩, p1 := ⟨146, 8, 146, 15⟩, p2 := ⟨146, 8, 146, 24⟩, p3 := ⟨146, 8, 146, 39⟩, p4 := ⟨146, 8, 146, 39⟩ }
theorem XT_BadWish : XcT PySem.Challenge.rw_feltstone_k00_errors_side_by_side.prog XD_BadWish := ⟨by rfl, by rfl, by rfl, by decide +kernel, by decide +kernel, by decide +kernel, by decide +kernel, by decide +kernel, by decide +kernel, ⟨_, by rfl, by rfl, by decide +kernel⟩, by decide +kernel, by decide +kernel, by decide +kernel, fun _ => rfl, fun _ _ _ _ _ _ _ us hl => match us, hl with | [_, _], _ => rfl, by decide, by decide⟩
abbrev mth_NoNumber : Stmt := (clsB (top 32)).getD 0 (.Pass ⟨0, 0, 0, 0⟩)
abbrev XD_NoNumber : XcD := { c := ("NoNumber" : Str), name := "__init__", qual := ("NoNumber.__init__" : Str), params := defArgs mth_NoNumber, scope := defScope mth_NoNumber, ps := [("self" : Str), ("number" : Str)], slf := "self", xs := [.s ("number" : Str) 0 ⟨151, 25, 151, 33⟩], fs := [⟨("number" : Str), 1, ("number" : Str), ("self" : Str), ⟨152, 8, 152, 12⟩, ⟨152, 8, 152, 19⟩, ⟨152, 22, 152, 28⟩, ⟨152, 8, 152, 28⟩⟩], p0 := ⟨151, 8, 151, 13⟩, p1 := ⟨151, 8, 151, 15⟩, p2 := ⟨151, 8, 151, 24⟩, p3 := ⟨151, 8, 151, 34⟩, p4 := ⟨151, 8, 151, 34⟩ }
theorem XT_NoNumber : XcT PySem.Challenge.rw_feltstone_k00_errors_side_by_side.prog XD_NoNumber := ⟨by rfl, by rfl, by rfl, by decide +kernel, by decide +kernel, by decide +kernel, by decide +kernel, by decide +kernel, by decide +kernel, ⟨_, by rfl, by rfl, by decide +kernel⟩, by decide +kernel, by decide +kernel, by decide +kernel, fun _ => rfl, fun _ _ _ _ _ _ _ us hl => match us, hl with | [_, _], _ => rfl, by decide, by decide⟩
abbrev mth_BookFull : Stmt := (clsB (top 33)).getD 0 (.Pass ⟨0, 0, 0, 0⟩)
abbrev XD_BookFull : XcD := { c := ("BookFull" : Str), name := "__init__", qual := ("BookFull.__init__" : Str), params := defArgs mth_BookFull, scope := defScope mth_BookFull, ps := [("self" : Str)], slf := "self", xs := [.s ("full" : Str) 0 ⟨156, 25, 156, 31⟩], fs := [], p0 := ⟨156, 8, 156, 13⟩, p1 := ⟨156, 8, 156, 15⟩, p2 := ⟨156, 8, 156, 24⟩, p3 := ⟨156, 8, 156, 32⟩, p4 := ⟨156, 8, 156, 32⟩ }
theorem XT_BookFull : XcT PySem.Challenge.rw_feltstone_k00_errors_side_by_side.prog XD_BookFull := ⟨by rfl, by rfl, by rfl, by decide +kernel, by decide +kernel, by decide +kernel, by decide +kernel, by decide +kernel, by decide +kernel, ⟨_, by rfl, by rfl, by decide +kernel⟩, by decide +kernel, by decide +kernel, by decide +kernel, fun _ => rfl, fun _ _ _ _ _ _ _ us hl => match us, hl with | [_], _ => rfl, by decide, by decide⟩
def allc : List Str := [("FeltError" : Str), ("BadRatio" : Str), ("BadPlace" : Str), ("BadDirection" : Str), ("BadAmount" : Str), ("BadSize" : Str), ("BadPatch" : Str), ("BadTable" : Str), ("BadText" : Str), ("BadFact" : Str), ("BadCase" : Str), ("NoFact" : Str), ("NoStones" : Str), ("BadChoice" : Str), ("NotFit" : Str), ("BadLots" : Str), ("NotMet" : Str), ("BadClaim" : Str), ("NoArea" : Str), ("BadCorner" : Str), ("BadKept" : Str), ("TooMany" : Str), ("BadLine" : Str), ("BadReading" : Str), ("BadBreadth" : Str), ("BadBox" : Str), ("BadDirections" : Str), ("BadStone" : Str), ("BadMost" : Str), ("BadChange" : Str), ("BadWish" : Str), ("NoNumber" : Str), ("BookFull" : Str)]
def fn : List He.DefD := [D_Lhand, D_Lmixed, D_Ltake, D_Lname, D_Lthird, D_Lfirst, D_Lsecond, D_Lclasses, D_Lraised, D_law, DB_BadLots, DB_BadLine]
def fa : List He.Fa := [.glo ("_law_hand" : Str), .glo ("_law_mixed" : Str), .glo ("_law_take" : Str), .glo ("_law_name" : Str), .glo ("_law_third" : Str), .glo ("_law_first" : Str), .glo ("_law_second" : Str), .glo ("_law_classes" : Str), .glo ("_law_raised" : Str), .glo ("law" : Str), .free ("int" : Str), .free ("isinstance" : Str), .free ("len" : Str), .free ("range" : Str), .glo ("BadAmount" : Str), .glo ("BadBox" : Str), .glo ("BadBreadth" : Str), .glo ("BadCase" : Str), .glo ("BadChange" : Str), .glo ("BadChoice" : Str), .glo ("BadClaim" : Str), .glo ("BadCorner" : Str), .glo ("BadDirection" : Str), .glo ("BadDirections" : Str), .glo ("BadFact" : Str), .glo ("BadKept" : Str), .glo ("BadLine" : Str), .glo ("BadLots" : Str), .glo ("BadMost" : Str), .glo ("BadPatch" : Str), .glo ("BadPlace" : Str), .glo ("BadRatio" : Str), .glo ("BadReading" : Str), .glo ("BadSize" : Str), .glo ("BadStone" : Str), .glo ("BadTable" : Str), .glo ("BadText" : Str), .glo ("BadWish" : Str), .glo ("BookFull" : Str), .glo ("FeltError" : Str), .glo ("NoArea" : Str), .glo ("NoFact" : Str), .glo ("NoNumber" : Str), .glo ("NoStones" : Str), .glo ("NotFit" : Str), .glo ("NotMet" : Str), .glo ("TooMany" : Str), .free "ValueError", .exm ("BadCase" : Str) ("BadFact" : Str) false, .exm ("BadCase" : Str) ("FeltError" : Str) true, .exm ("NoFact" : Str) ("NoArea" : Str) false, .exm ("NoFact" : Str) ("FeltError" : Str) true, .exm ("NotMet" : Str) ("NoStones" : Str) false, .exm ("NotMet" : Str) ("FeltError" : Str) true, .exc ("FeltError" : Str), .free "super"]
def xs : List XcD := [XD_BadRatio, XD_BadPlace, XD_BadDirection, XD_BadAmount, XD_BadSize, XD_BadPatch, XD_BadTable, XD_BadText, XD_BadFact, XD_BadCase, XD_NoFact, XD_NoStones, XD_BadChoice, XD_NotFit, XD_NotMet, XD_BadClaim, XD_NoArea, XD_BadCorner, XD_BadKept, XD_TooMany, XD_BadReading, XD_BadBreadth, XD_BadBox, XD_BadDirections, XD_BadStone, XD_BadMost, XD_BadChange, XD_BadWish, XD_NoNumber, XD_BookFull]
def chk (K : Frag) : Bool := binB K ("BadLots" : Str) [("what" : Str)] && basB K ("FeltError" : Str) && binB K ("BadLine" : Str) [] && allc.all (excCB K) && isoB K (.ref (He.ga K ("BadAmount" : Str))) ys_BadAmount ns_BadAmount && isoB K (.ref (He.ga K ("BadBox" : Str))) ys_BadBox ns_BadBox && isoB K (.ref (He.ga K ("BadBreadth" : Str))) ys_BadBreadth ns_BadBreadth && isoB K (.ref (He.ga K ("BadCase" : Str))) ys_BadCase ns_BadCase && isoB K (.ref (He.ga K ("BadChange" : Str))) ys_BadChange ns_BadChange && isoB K (.ref (He.ga K ("BadChoice" : Str))) ys_BadChoice ns_BadChoice && isoB K (.ref (He.ga K ("BadClaim" : Str))) ys_BadClaim ns_BadClaim && isoB K (.ref (He.ga K ("BadCorner" : Str))) ys_BadCorner ns_BadCorner && isoB K (.ref (He.ga K ("BadDirection" : Str))) ys_BadDirection ns_BadDirection && isoB K (.ref (He.ga K ("BadDirections" : Str))) ys_BadDirections ns_BadDirections && isoB K (.ref (He.ga K ("BadFact" : Str))) ys_BadFact ns_BadFact && isoB K (.ref (He.ga K ("BadKept" : Str))) ys_BadKept ns_BadKept && isoB K (.ref (He.ga K ("BadLine" : Str))) ys_BadLine ns_BadLine && isoB K (.ref (He.ga K ("BadLots" : Str))) ys_BadLots ns_BadLots && isoB K (.ref (He.ga K ("BadMost" : Str))) ys_BadMost ns_BadMost && isoB K (.ref (He.ga K ("BadPatch" : Str))) ys_BadPatch ns_BadPatch && isoB K (.ref (He.ga K ("BadPlace" : Str))) ys_BadPlace ns_BadPlace && isoB K (.ref (He.ga K ("BadRatio" : Str))) ys_BadRatio ns_BadRatio && isoB K (.ref (He.ga K ("BadReading" : Str))) ys_BadReading ns_BadReading && isoB K (.ref (He.ga K ("BadSize" : Str))) ys_BadSize ns_BadSize && isoB K (.ref (He.ga K ("BadStone" : Str))) ys_BadStone ns_BadStone && isoB K (.ref (He.ga K ("BadTable" : Str))) ys_BadTable ns_BadTable && isoB K (.ref (He.ga K ("BadText" : Str))) ys_BadText ns_BadText && isoB K (.ref (He.ga K ("BadWish" : Str))) ys_BadWish ns_BadWish && isoB K (.ref (He.ga K ("BookFull" : Str))) ys_BookFull ns_BookFull && isoB K (.ref (He.ga K ("FeltError" : Str))) ys_FeltError ns_FeltError && isoB K (.ref (He.ga K ("NoArea" : Str))) ys_NoArea ns_NoArea && isoB K (.ref (He.ga K ("NoFact" : Str))) ys_NoFact ns_NoFact && isoB K (.ref (He.ga K ("NoNumber" : Str))) ys_NoNumber ns_NoNumber && isoB K (.ref (He.ga K ("NoStones" : Str))) ys_NoStones ns_NoStones && isoB K (.ref (He.ga K ("NotFit" : Str))) ys_NotFit ns_NotFit && isoB K (.ref (He.ga K ("NotMet" : Str))) ys_NotMet ns_NotMet && isoB K (.ref (He.ga K ("TooMany" : Str))) ys_TooMany ns_TooMany && isoB K (.type "ValueError") ys_ValueError ns_ValueError
def loose0 : List Str := [("FeltError" : Str), ("BadRatio" : Str), ("BadPlace" : Str), ("BadDirection" : Str), ("BadAmount" : Str), ("BadSize" : Str), ("BadPatch" : Str), ("BadTable" : Str), ("BadText" : Str), ("BadFact" : Str), ("BadCase" : Str), ("NoFact" : Str), ("NoStones" : Str), ("BadChoice" : Str), ("NotFit" : Str), ("BadLots" : Str), ("NotMet" : Str), ("BadClaim" : Str), ("NoArea" : Str), ("BadCorner" : Str), ("BadKept" : Str), ("TooMany" : Str), ("BadLine" : Str), ("BadReading" : Str), ("BadBreadth" : Str), ("BadBox" : Str), ("BadDirections" : Str), ("BadStone" : Str), ("BadMost" : Str), ("BadChange" : Str), ("BadWish" : Str), ("NoNumber" : Str), ("BookFull" : Str), ("_law_hand" : Str), ("_law_mixed" : Str)]
def loose1 : List Str := [("_law_take" : Str), ("_law_name" : Str), ("_law_first" : Str), ("_law_second" : Str), ("_law_third" : Str), ("_law_classes" : Str), ("_law_raised" : Str)]
abbrev loose : List Str := loose0 ++ loose1
abbrev R : PySem.W.OpenRow := PySem.W.OpenLaw.row PySem.Challenge.rw_feltstone_k00_errors_side_by_side
abbrev hk : PySem.W.Hook := hookX R.prog 5 fa fn xs chk
def ob (s : PySem.W.SharedT) : AlX := obsXG R.prog 5 fa fn xs chk (HandSHeadRun.getT s)
theorem ob_eq (s : PySem.W.SharedT) : ob s = hk.obs s.abs := obsXG_eq (HandSHeadRun.getT_eq s)
abbrev vw : List Nat := [44]
theorem run (w : World) : HandSHeadRun.RunEq R (PySem.W.view R.prog vw) hk ob 16000 loose w := by
  intro os
  kernel_rfl
/-! every def keeps its meaning -/
theorem chain {w : World} {K : Frag} {h base : Heap} {mg : Str → Option Value} (X : K.In h) (Gm : h.Ns mainGlobals mg) (c : SaysX R.prog fa fn xs chk K) : ∃ fd, FunD K "law" "law" (defArgs (top 44)) (defBody (top 44)) sc_law [] [] (He.ga K "law") fd ∧ FnOk R.prog w K mg base (L2.CX R.prog w) 4 (He.ga K "law") fd ["script"] (spF (mkG R.prog w base K mg) f_law) := by
  have ho : IsiOk (mkG R.prog w base K mg) := mkG_isi
  have cD := c.D
  have f_super : mg "super" = none := He.free_ok X Gm (cD.fact 55 (f := .free "super") rfl)
  have ck : chk K = true := c.ck
  simp only [chk, Bool.and_eq_true] at ck
  have f_int : mg "int" = none := He.free_ok X Gm (cD.fact 10 (f := .free ("int" : Str)) rfl)
  have f_isinstance : mg "isinstance" = none := He.free_ok X Gm (cD.fact 11 (f := .free ("isinstance" : Str)) rfl)
  have f_len : mg "len" = none := He.free_ok X Gm (cD.fact 12 (f := .free ("len" : Str)) rfl)
  have f_range : mg "range" = none := He.free_ok X Gm (cD.fact 13 (f := .free ("range" : Str)) rfl)
  obtain ⟨xc_BadRatio, xe_BadRatio⟩ := c.xc 0 (x := XD_BadRatio) rfl
  have xm_BadRatio : mg "BadRatio" = some (.ref (He.ga K "BadRatio")) := xc_mg (x := XD_BadRatio) X Gm xc_BadRatio
  have e_BadRatio : ExcOk (mkG R.prog w base K mg) "BadRatio" 1 [(("what" : Str), 0)] := excOk_of (x := XD_BadRatio) X Gm XT_BadRatio xc_BadRatio xe_BadRatio 1 rfl (by decide) _ rfl (by decide) f_super
  obtain ⟨xc_BadPlace, xe_BadPlace⟩ := c.xc 1 (x := XD_BadPlace) rfl
  have xm_BadPlace : mg "BadPlace" = some (.ref (He.ga K "BadPlace")) := xc_mg (x := XD_BadPlace) X Gm xc_BadPlace
  have e_BadPlace : ExcOk (mkG R.prog w base K mg) "BadPlace" 0 [] := excOk_of (x := XD_BadPlace) X Gm XT_BadPlace xc_BadPlace xe_BadPlace 0 rfl (by decide) _ rfl (by decide) f_super
  obtain ⟨xc_BadDirection, xe_BadDirection⟩ := c.xc 2 (x := XD_BadDirection) rfl
  have xm_BadDirection : mg "BadDirection" = some (.ref (He.ga K "BadDirection")) := xc_mg (x := XD_BadDirection) X Gm xc_BadDirection
  have e_BadDirection : ExcOk (mkG R.prog w base K mg) "BadDirection" 0 [] := excOk_of (x := XD_BadDirection) X Gm XT_BadDirection xc_BadDirection xe_BadDirection 0 rfl (by decide) _ rfl (by decide) f_super
  obtain ⟨xc_BadAmount, xe_BadAmount⟩ := c.xc 3 (x := XD_BadAmount) rfl
  have xm_BadAmount : mg "BadAmount" = some (.ref (He.ga K "BadAmount")) := xc_mg (x := XD_BadAmount) X Gm xc_BadAmount
  have e_BadAmount : ExcOk (mkG R.prog w base K mg) "BadAmount" 0 [] := excOk_of (x := XD_BadAmount) X Gm XT_BadAmount xc_BadAmount xe_BadAmount 0 rfl (by decide) _ rfl (by decide) f_super
  obtain ⟨xc_BadSize, xe_BadSize⟩ := c.xc 4 (x := XD_BadSize) rfl
  have xm_BadSize : mg "BadSize" = some (.ref (He.ga K "BadSize")) := xc_mg (x := XD_BadSize) X Gm xc_BadSize
  have e_BadSize : ExcOk (mkG R.prog w base K mg) "BadSize" 0 [] := excOk_of (x := XD_BadSize) X Gm XT_BadSize xc_BadSize xe_BadSize 0 rfl (by decide) _ rfl (by decide) f_super
  obtain ⟨xc_BadPatch, xe_BadPatch⟩ := c.xc 5 (x := XD_BadPatch) rfl
  have xm_BadPatch : mg "BadPatch" = some (.ref (He.ga K "BadPatch")) := xc_mg (x := XD_BadPatch) X Gm xc_BadPatch
  have e_BadPatch : ExcOk (mkG R.prog w base K mg) "BadPatch" 1 [(("what" : Str), 0)] := excOk_of (x := XD_BadPatch) X Gm XT_BadPatch xc_BadPatch xe_BadPatch 1 rfl (by decide) _ rfl (by decide) f_super
  obtain ⟨xc_BadTable, xe_BadTable⟩ := c.xc 6 (x := XD_BadTable) rfl
  have xm_BadTable : mg "BadTable" = some (.ref (He.ga K "BadTable")) := xc_mg (x := XD_BadTable) X Gm xc_BadTable
  have e_BadTable : ExcOk (mkG R.prog w base K mg) "BadTable" 1 [(("what" : Str), 0)] := excOk_of (x := XD_BadTable) X Gm XT_BadTable xc_BadTable xe_BadTable 1 rfl (by decide) _ rfl (by decide) f_super
  obtain ⟨xc_BadText, xe_BadText⟩ := c.xc 7 (x := XD_BadText) rfl
  have xm_BadText : mg "BadText" = some (.ref (He.ga K "BadText")) := xc_mg (x := XD_BadText) X Gm xc_BadText
  have e_BadText : ExcOk (mkG R.prog w base K mg) "BadText" 2 [(("what" : Str), 1), (("row" : Str), 0)] := excOk_of (x := XD_BadText) X Gm XT_BadText xc_BadText xe_BadText 2 rfl (by decide) _ rfl (by decide) f_super
  obtain ⟨xc_BadFact, xe_BadFact⟩ := c.xc 8 (x := XD_BadFact) rfl
  have xm_BadFact : mg "BadFact" = some (.ref (He.ga K "BadFact")) := xc_mg (x := XD_BadFact) X Gm xc_BadFact
  have e_BadFact : ExcOk (mkG R.prog w base K mg) "BadFact" 1 [(("what" : Str), 0)] := excOk_of (x := XD_BadFact) X Gm XT_BadFact xc_BadFact xe_BadFact 1 rfl (by decide) _ rfl (by decide) f_super
  obtain ⟨xc_BadCase, xe_BadCase⟩ := c.xc 9 (x := XD_BadCase) rfl
  have xm_BadCase : mg "BadCase" = some (.ref (He.ga K "BadCase")) := xc_mg (x := XD_BadCase) X Gm xc_BadCase
  have e_BadCase : ExcOk (mkG R.prog w base K mg) "BadCase" 2 [(("what" : Str), 1), (("index" : Str), 0)] := excOk_of (x := XD_BadCase) X Gm XT_BadCase xc_BadCase xe_BadCase 2 rfl (by decide) _ rfl (by decide) f_super
  obtain ⟨xc_NoFact, xe_NoFact⟩ := c.xc 10 (x := XD_NoFact) rfl
  have xm_NoFact : mg "NoFact" = some (.ref (He.ga K "NoFact")) := xc_mg (x := XD_NoFact) X Gm xc_NoFact
  have e_NoFact : ExcOk (mkG R.prog w base K mg) "NoFact" 1 [(("number" : Str), 0)] := excOk_of (x := XD_NoFact) X Gm XT_NoFact xc_NoFact xe_NoFact 1 rfl (by decide) _ rfl (by decide) f_super
  obtain ⟨xc_NoStones, xe_NoStones⟩ := c.xc 11 (x := XD_NoStones) rfl
  have xm_NoStones : mg "NoStones" = some (.ref (He.ga K "NoStones")) := xc_mg (x := XD_NoStones) X Gm xc_NoStones
  have e_NoStones : ExcOk (mkG R.prog w base K mg) "NoStones" 0 [] := excOk_of (x := XD_NoStones) X Gm XT_NoStones xc_NoStones xe_NoStones 0 rfl (by decide) _ rfl (by decide) f_super
  obtain ⟨xc_BadChoice, xe_BadChoice⟩ := c.xc 12 (x := XD_BadChoice) rfl
  have xm_BadChoice : mg "BadChoice" = some (.ref (He.ga K "BadChoice")) := xc_mg (x := XD_BadChoice) X Gm xc_BadChoice
  have e_BadChoice : ExcOk (mkG R.prog w base K mg) "BadChoice" 1 [(("index" : Str), 0)] := excOk_of (x := XD_BadChoice) X Gm XT_BadChoice xc_BadChoice xe_BadChoice 1 rfl (by decide) _ rfl (by decide) f_super
  obtain ⟨xc_NotFit, xe_NotFit⟩ := c.xc 13 (x := XD_NotFit) rfl
  have xm_NotFit : mg "NotFit" = some (.ref (He.ga K "NotFit")) := xc_mg (x := XD_NotFit) X Gm xc_NotFit
  have e_NotFit : ExcOk (mkG R.prog w base K mg) "NotFit" 1 [(("fact" : Str), 0)] := excOk_of (x := XD_NotFit) X Gm XT_NotFit xc_NotFit xe_NotFit 1 rfl (by decide) _ rfl (by decide) f_super
  obtain ⟨xc_NotMet, xe_NotMet⟩ := c.xc 14 (x := XD_NotMet) rfl
  have xm_NotMet : mg "NotMet" = some (.ref (He.ga K "NotMet")) := xc_mg (x := XD_NotMet) X Gm xc_NotMet
  have e_NotMet : ExcOk (mkG R.prog w base K mg) "NotMet" 0 [] := excOk_of (x := XD_NotMet) X Gm XT_NotMet xc_NotMet xe_NotMet 0 rfl (by decide) _ rfl (by decide) f_super
  obtain ⟨xc_BadClaim, xe_BadClaim⟩ := c.xc 15 (x := XD_BadClaim) rfl
  have xm_BadClaim : mg "BadClaim" = some (.ref (He.ga K "BadClaim")) := xc_mg (x := XD_BadClaim) X Gm xc_BadClaim
  have e_BadClaim : ExcOk (mkG R.prog w base K mg) "BadClaim" 1 [(("what" : Str), 0)] := excOk_of (x := XD_BadClaim) X Gm XT_BadClaim xc_BadClaim xe_BadClaim 1 rfl (by decide) _ rfl (by decide) f_super
  obtain ⟨xc_NoArea, xe_NoArea⟩ := c.xc 16 (x := XD_NoArea) rfl
  have xm_NoArea : mg "NoArea" = some (.ref (He.ga K "NoArea")) := xc_mg (x := XD_NoArea) X Gm xc_NoArea
  have e_NoArea : ExcOk (mkG R.prog w base K mg) "NoArea" 1 [(("number" : Str), 0)] := excOk_of (x := XD_NoArea) X Gm XT_NoArea xc_NoArea xe_NoArea 1 rfl (by decide) _ rfl (by decide) f_super
  obtain ⟨xc_BadCorner, xe_BadCorner⟩ := c.xc 17 (x := XD_BadCorner) rfl
  have xm_BadCorner : mg "BadCorner" = some (.ref (He.ga K "BadCorner")) := xc_mg (x := XD_BadCorner) X Gm xc_BadCorner
  have e_BadCorner : ExcOk (mkG R.prog w base K mg) "BadCorner" 1 [(("number" : Str), 0)] := excOk_of (x := XD_BadCorner) X Gm XT_BadCorner xc_BadCorner xe_BadCorner 1 rfl (by decide) _ rfl (by decide) f_super
  obtain ⟨xc_BadKept, xe_BadKept⟩ := c.xc 18 (x := XD_BadKept) rfl
  have xm_BadKept : mg "BadKept" = some (.ref (He.ga K "BadKept")) := xc_mg (x := XD_BadKept) X Gm xc_BadKept
  have e_BadKept : ExcOk (mkG R.prog w base K mg) "BadKept" 1 [(("what" : Str), 0)] := excOk_of (x := XD_BadKept) X Gm XT_BadKept xc_BadKept xe_BadKept 1 rfl (by decide) _ rfl (by decide) f_super
  obtain ⟨xc_TooMany, xe_TooMany⟩ := c.xc 19 (x := XD_TooMany) rfl
  have xm_TooMany : mg "TooMany" = some (.ref (He.ga K "TooMany")) := xc_mg (x := XD_TooMany) X Gm xc_TooMany
  have e_TooMany : ExcOk (mkG R.prog w base K mg) "TooMany" 1 [(("most" : Str), 0)] := excOk_of (x := XD_TooMany) X Gm XT_TooMany xc_TooMany xe_TooMany 1 rfl (by decide) _ rfl (by decide) f_super
  obtain ⟨xc_BadReading, xe_BadReading⟩ := c.xc 20 (x := XD_BadReading) rfl
  have xm_BadReading : mg "BadReading" = some (.ref (He.ga K "BadReading")) := xc_mg (x := XD_BadReading) X Gm xc_BadReading
  have e_BadReading : ExcOk (mkG R.prog w base K mg) "BadReading" 2 [(("what" : Str), 1), (("index" : Str), 0)] := excOk_of (x := XD_BadReading) X Gm XT_BadReading xc_BadReading xe_BadReading 2 rfl (by decide) _ rfl (by decide) f_super
  obtain ⟨xc_BadBreadth, xe_BadBreadth⟩ := c.xc 21 (x := XD_BadBreadth) rfl
  have xm_BadBreadth : mg "BadBreadth" = some (.ref (He.ga K "BadBreadth")) := xc_mg (x := XD_BadBreadth) X Gm xc_BadBreadth
  have e_BadBreadth : ExcOk (mkG R.prog w base K mg) "BadBreadth" 0 [] := excOk_of (x := XD_BadBreadth) X Gm XT_BadBreadth xc_BadBreadth xe_BadBreadth 0 rfl (by decide) _ rfl (by decide) f_super
  obtain ⟨xc_BadBox, xe_BadBox⟩ := c.xc 22 (x := XD_BadBox) rfl
  have xm_BadBox : mg "BadBox" = some (.ref (He.ga K "BadBox")) := xc_mg (x := XD_BadBox) X Gm xc_BadBox
  have e_BadBox : ExcOk (mkG R.prog w base K mg) "BadBox" 1 [(("what" : Str), 0)] := excOk_of (x := XD_BadBox) X Gm XT_BadBox xc_BadBox xe_BadBox 1 rfl (by decide) _ rfl (by decide) f_super
  obtain ⟨xc_BadDirections, xe_BadDirections⟩ := c.xc 23 (x := XD_BadDirections) rfl
  have xm_BadDirections : mg "BadDirections" = some (.ref (He.ga K "BadDirections")) := xc_mg (x := XD_BadDirections) X Gm xc_BadDirections
  have e_BadDirections : ExcOk (mkG R.prog w base K mg) "BadDirections" 1 [(("index" : Str), 0)] := excOk_of (x := XD_BadDirections) X Gm XT_BadDirections xc_BadDirections xe_BadDirections 1 rfl (by decide) _ rfl (by decide) f_super
  obtain ⟨xc_BadStone, xe_BadStone⟩ := c.xc 24 (x := XD_BadStone) rfl
  have xm_BadStone : mg "BadStone" = some (.ref (He.ga K "BadStone")) := xc_mg (x := XD_BadStone) X Gm xc_BadStone
  have e_BadStone : ExcOk (mkG R.prog w base K mg) "BadStone" 0 [] := excOk_of (x := XD_BadStone) X Gm XT_BadStone xc_BadStone xe_BadStone 0 rfl (by decide) _ rfl (by decide) f_super
  obtain ⟨xc_BadMost, xe_BadMost⟩ := c.xc 25 (x := XD_BadMost) rfl
  have xm_BadMost : mg "BadMost" = some (.ref (He.ga K "BadMost")) := xc_mg (x := XD_BadMost) X Gm xc_BadMost
  have e_BadMost : ExcOk (mkG R.prog w base K mg) "BadMost" 0 [] := excOk_of (x := XD_BadMost) X Gm XT_BadMost xc_BadMost xe_BadMost 0 rfl (by decide) _ rfl (by decide) f_super
  obtain ⟨xc_BadChange, xe_BadChange⟩ := c.xc 26 (x := XD_BadChange) rfl
  have xm_BadChange : mg "BadChange" = some (.ref (He.ga K "BadChange")) := xc_mg (x := XD_BadChange) X Gm xc_BadChange
  have e_BadChange : ExcOk (mkG R.prog w base K mg) "BadChange" 2 [(("what" : Str), 1), (("index" : Str), 0)] := excOk_of (x := XD_BadChange) X Gm XT_BadChange xc_BadChange xe_BadChange 2 rfl (by decide) _ rfl (by decide) f_super
  obtain ⟨xc_BadWish, xe_BadWish⟩ := c.xc 27 (x := XD_BadWish) rfl
  have xm_BadWish : mg "BadWish" = some (.ref (He.ga K "BadWish")) := xc_mg (x := XD_BadWish) X Gm xc_BadWish
  have e_BadWish : ExcOk (mkG R.prog w base K mg) "BadWish" 1 [(("index" : Str), 0)] := excOk_of (x := XD_BadWish) X Gm XT_BadWish xc_BadWish xe_BadWish 1 rfl (by decide) _ rfl (by decide) f_super
  obtain ⟨xc_NoNumber, xe_NoNumber⟩ := c.xc 28 (x := XD_NoNumber) rfl
  have xm_NoNumber : mg "NoNumber" = some (.ref (He.ga K "NoNumber")) := xc_mg (x := XD_NoNumber) X Gm xc_NoNumber
  have e_NoNumber : ExcOk (mkG R.prog w base K mg) "NoNumber" 1 [(("number" : Str), 0)] := excOk_of (x := XD_NoNumber) X Gm XT_NoNumber xc_NoNumber xe_NoNumber 1 rfl (by decide) _ rfl (by decide) f_super
  obtain ⟨xc_BookFull, xe_BookFull⟩ := c.xc 29 (x := XD_BookFull) rfl
  have xm_BookFull : mg "BookFull" = some (.ref (He.ga K "BookFull")) := xc_mg (x := XD_BookFull) X Gm xc_BookFull
  have e_BookFull : ExcOk (mkG R.prog w base K mg) "BookFull" 0 [] := excOk_of (x := XD_BookFull) X Gm XT_BookFull xc_BookFull xe_BookFull 0 rfl (by decide) _ rfl (by decide) f_super
  have xm_BadLots : mg "BadLots" = some (.ref (He.ga K "BadLots")) := bin_mg X Gm ck.1.1.1.1.1.1.1.1.1.1.1.1.1.1.1.1.1.1.1.1.1.1.1.1.1.1.1.1.1.1.1.1.1.1.1.1.1
  obtain ⟨fd_BadLots, F_BadLots⟩ := cD.def_ 10 (d := DB_BadLots) rfl
  have eb_BadLots : BinOk (mkG R.prog w base K mg) ("BadLots" : Str) 1 [(("what" : Str), 0)] := binOk_of (fs := fsb_BadLots) X Gm ck.1.1.1.1.1.1.1.1.1.1.1.1.1.1.1.1.1.1.1.1.1.1.1.1.1.1.1.1.1.1.1.1.1.1.1.1.1 ck.1.1.1.1.1.1.1.1.1.1.1.1.1.1.1.1.1.1.1.1.1.1.1.1.1.1.1.1.1.1.1.1.1.1.1.1.2 (funD_cast BB_BadLots F_BadLots) (F_BadLots.bindsN fun _ _ _ _ _ _ us hl => match us, hl with | [_, _], _ => rfl) BS_BadLots (by decide +kernel) (by decide +kernel) (by decide +kernel) (by decide) (fun _ => rfl) (by decide +kernel) (by decide) 1 rfl (by decide) _ rfl (by decide)
  have xm_BadLine : mg "BadLine" = some (.ref (He.ga K "BadLine")) := bin_mg X Gm ck.1.1.1.1.1.1.1.1.1.1.1.1.1.1.1.1.1.1.1.1.1.1.1.1.1.1.1.1.1.1.1.1.1.1.1.2
  obtain ⟨fd_BadLine, F_BadLine⟩ := cD.def_ 11 (d := DB_BadLine) rfl
  have eb_BadLine : BinOk (mkG R.prog w base K mg) ("BadLine" : Str) 0 [] := binOk_of (fs := fsb_BadLine) X Gm ck.1.1.1.1.1.1.1.1.1.1.1.1.1.1.1.1.1.1.1.1.1.1.1.1.1.1.1.1.1.1.1.1.1.1.1.2 ck.1.1.1.1.1.1.1.1.1.1.1.1.1.1.1.1.1.1.1.1.1.1.1.1.1.1.1.1.1.1.1.1.1.1.1.1.2 (funD_cast BB_BadLine F_BadLine) (F_BadLine.bindsN fun _ _ _ _ _ _ us hl => match us, hl with | [_], _ => rfl) BS_BadLine (by decide +kernel) (by decide +kernel) (by decide +kernel) (by decide) (fun _ => rfl) (by decide +kernel) (by decide) 0 rfl (by decide) _ rfl (by decide)
  have i_BadAmount : IsoOk (mkG R.prog w base K mg) ("BadAmount" : Str) ys_BadAmount ns_BadAmount := isoOk_own X Gm ck.1.1.1.1.1.1.1.1.1.1.1.1.1.1.1.1.1.1.1.1.1.1.1.1.1.1.1.1.1.1.1.1.1.1.2 (by decide +kernel) (by decide +kernel) (He.glo_ok X Gm (cD.fact 14 (f := .glo ("BadAmount" : Str)) rfl)) ck.1.1.1.1.1.1.1.1.1.1.1.1.1.1.1.1.1.1.1.1.1.1.1.1.1.1.1.1.1.1.1.1.1.2
  have i_BadBox : IsoOk (mkG R.prog w base K mg) ("BadBox" : Str) ys_BadBox ns_BadBox := isoOk_own X Gm ck.1.1.1.1.1.1.1.1.1.1.1.1.1.1.1.1.1.1.1.1.1.1.1.1.1.1.1.1.1.1.1.1.1.1.2 (by decide +kernel) (by decide +kernel) (He.glo_ok X Gm (cD.fact 15 (f := .glo ("BadBox" : Str)) rfl)) ck.1.1.1.1.1.1.1.1.1.1.1.1.1.1.1.1.1.1.1.1.1.1.1.1.1.1.1.1.1.1.1.1.2
  have i_BadBreadth : IsoOk (mkG R.prog w base K mg) ("BadBreadth" : Str) ys_BadBreadth ns_BadBreadth := isoOk_own X Gm ck.1.1.1.1.1.1.1.1.1.1.1.1.1.1.1.1.1.1.1.1.1.1.1.1.1.1.1.1.1.1.1.1.1.1.2 (by decide +kernel) (by decide +kernel) (He.glo_ok X Gm (cD.fact 16 (f := .glo ("BadBreadth" : Str)) rfl)) ck.1.1.1.1.1.1.1.1.1.1.1.1.1.1.1.1.1.1.1.1.1.1.1.1.1.1.1.1.1.1.1.2
  have i_BadCase : IsoOk (mkG R.prog w base K mg) ("BadCase" : Str) ys_BadCase ns_BadCase := isoOk_own X Gm ck.1.1.1.1.1.1.1.1.1.1.1.1.1.1.1.1.1.1.1.1.1.1.1.1.1.1.1.1.1.1.1.1.1.1.2 (by decide +kernel) (by decide +kernel) (He.glo_ok X Gm (cD.fact 17 (f := .glo ("BadCase" : Str)) rfl)) ck.1.1.1.1.1.1.1.1.1.1.1.1.1.1.1.1.1.1.1.1.1.1.1.1.1.1.1.1.1.1.2
  have i_BadChange : IsoOk (mkG R.prog w base K mg) ("BadChange" : Str) ys_BadChange ns_BadChange := isoOk_own X Gm ck.1.1.1.1.1.1.1.1.1.1.1.1.1.1.1.1.1.1.1.1.1.1.1.1.1.1.1.1.1.1.1.1.1.1.2 (by decide +kernel) (by decide +kernel) (He.glo_ok X Gm (cD.fact 18 (f := .glo ("BadChange" : Str)) rfl)) ck.1.1.1.1.1.1.1.1.1.1.1.1.1.1.1.1.1.1.1.1.1.1.1.1.1.1.1.1.1.2
  have i_BadChoice : IsoOk (mkG R.prog w base K mg) ("BadChoice" : Str) ys_BadChoice ns_BadChoice := isoOk_own X Gm ck.1.1.1.1.1.1.1.1.1.1.1.1.1.1.1.1.1.1.1.1.1.1.1.1.1.1.1.1.1.1.1.1.1.1.2 (by decide +kernel) (by decide +kernel) (He.glo_ok X Gm (cD.fact 19 (f := .glo ("BadChoice" : Str)) rfl)) ck.1.1.1.1.1.1.1.1.1.1.1.1.1.1.1.1.1.1.1.1.1.1.1.1.1.1.1.1.2
  have i_BadClaim : IsoOk (mkG R.prog w base K mg) ("BadClaim" : Str) ys_BadClaim ns_BadClaim := isoOk_own X Gm ck.1.1.1.1.1.1.1.1.1.1.1.1.1.1.1.1.1.1.1.1.1.1.1.1.1.1.1.1.1.1.1.1.1.1.2 (by decide +kernel) (by decide +kernel) (He.glo_ok X Gm (cD.fact 20 (f := .glo ("BadClaim" : Str)) rfl)) ck.1.1.1.1.1.1.1.1.1.1.1.1.1.1.1.1.1.1.1.1.1.1.1.1.1.1.1.2
  have i_BadCorner : IsoOk (mkG R.prog w base K mg) ("BadCorner" : Str) ys_BadCorner ns_BadCorner := isoOk_own X Gm ck.1.1.1.1.1.1.1.1.1.1.1.1.1.1.1.1.1.1.1.1.1.1.1.1.1.1.1.1.1.1.1.1.1.1.2 (by decide +kernel) (by decide +kernel) (He.glo_ok X Gm (cD.fact 21 (f := .glo ("BadCorner" : Str)) rfl)) ck.1.1.1.1.1.1.1.1.1.1.1.1.1.1.1.1.1.1.1.1.1.1.1.1.1.1.2
  have i_BadDirection : IsoOk (mkG R.prog w base K mg) ("BadDirection" : Str) ys_BadDirection ns_BadDirection := isoOk_own X Gm ck.1.1.1.1.1.1.1.1.1.1.1.1.1.1.1.1.1.1.1.1.1.1.1.1.1.1.1.1.1.1.1.1.1.1.2 (by decide +kernel) (by decide +kernel) (He.glo_ok X Gm (cD.fact 22 (f := .glo ("BadDirection" : Str)) rfl)) ck.1.1.1.1.1.1.1.1.1.1.1.1.1.1.1.1.1.1.1.1.1.1.1.1.1.2
  have i_BadDirections : IsoOk (mkG R.prog w base K mg) ("BadDirections" : Str) ys_BadDirections ns_BadDirections := isoOk_own X Gm ck.1.1.1.1.1.1.1.1.1.1.1.1.1.1.1.1.1.1.1.1.1.1.1.1.1.1.1.1.1.1.1.1.1.1.2 (by decide +kernel) (by decide +kernel) (He.glo_ok X Gm (cD.fact 23 (f := .glo ("BadDirections" : Str)) rfl)) ck.1.1.1.1.1.1.1.1.1.1.1.1.1.1.1.1.1.1.1.1.1.1.1.1.2
  have i_BadFact : IsoOk (mkG R.prog w base K mg) ("BadFact" : Str) ys_BadFact ns_BadFact := isoOk_own X Gm ck.1.1.1.1.1.1.1.1.1.1.1.1.1.1.1.1.1.1.1.1.1.1.1.1.1.1.1.1.1.1.1.1.1.1.2 (by decide +kernel) (by decide +kernel) (He.glo_ok X Gm (cD.fact 24 (f := .glo ("BadFact" : Str)) rfl)) ck.1.1.1.1.1.1.1.1.1.1.1.1.1.1.1.1.1.1.1.1.1.1.1.2
  have i_BadKept : IsoOk (mkG R.prog w base K mg) ("BadKept" : Str) ys_BadKept ns_BadKept := isoOk_own X Gm ck.1.1.1.1.1.1.1.1.1.1.1.1.1.1.1.1.1.1.1.1.1.1.1.1.1.1.1.1.1.1.1.1.1.1.2 (by decide +kernel) (by decide +kernel) (He.glo_ok X Gm (cD.fact 25 (f := .glo ("BadKept" : Str)) rfl)) ck.1.1.1.1.1.1.1.1.1.1.1.1.1.1.1.1.1.1.1.1.1.1.2
  have i_BadLine : IsoOk (mkG R.prog w base K mg) ("BadLine" : Str) ys_BadLine ns_BadLine := isoOk_own X Gm ck.1.1.1.1.1.1.1.1.1.1.1.1.1.1.1.1.1.1.1.1.1.1.1.1.1.1.1.1.1.1.1.1.1.1.2 (by decide +kernel) (by decide +kernel) (He.glo_ok X Gm (cD.fact 26 (f := .glo ("BadLine" : Str)) rfl)) ck.1.1.1.1.1.1.1.1.1.1.1.1.1.1.1.1.1.1.1.1.1.2
  have i_BadLots : IsoOk (mkG R.prog w base K mg) ("BadLots" : Str) ys_BadLots ns_BadLots := isoOk_own X Gm ck.1.1.1.1.1.1.1.1.1.1.1.1.1.1.1.1.1.1.1.1.1.1.1.1.1.1.1.1.1.1.1.1.1.1.2 (by decide +kernel) (by decide +kernel) (He.glo_ok X Gm (cD.fact 27 (f := .glo ("BadLots" : Str)) rfl)) ck.1.1.1.1.1.1.1.1.1.1.1.1.1.1.1.1.1.1.1.1.2
  have i_BadMost : IsoOk (mkG R.prog w base K mg) ("BadMost" : Str) ys_BadMost ns_BadMost := isoOk_own X Gm ck.1.1.1.1.1.1.1.1.1.1.1.1.1.1.1.1.1.1.1.1.1.1.1.1.1.1.1.1.1.1.1.1.1.1.2 (by decide +kernel) (by decide +kernel) (He.glo_ok X Gm (cD.fact 28 (f := .glo ("BadMost" : Str)) rfl)) ck.1.1.1.1.1.1.1.1.1.1.1.1.1.1.1.1.1.1.1.2
  have i_BadPatch : IsoOk (mkG R.prog w base K mg) ("BadPatch" : Str) ys_BadPatch ns_BadPatch := isoOk_own X Gm ck.1.1.1.1.1.1.1.1.1.1.1.1.1.1.1.1.1.1.1.1.1.1.1.1.1.1.1.1.1.1.1.1.1.1.2 (by decide +kernel) (by decide +kernel) (He.glo_ok X Gm (cD.fact 29 (f := .glo ("BadPatch" : Str)) rfl)) ck.1.1.1.1.1.1.1.1.1.1.1.1.1.1.1.1.1.1.2
  have i_BadPlace : IsoOk (mkG R.prog w base K mg) ("BadPlace" : Str) ys_BadPlace ns_BadPlace := isoOk_own X Gm ck.1.1.1.1.1.1.1.1.1.1.1.1.1.1.1.1.1.1.1.1.1.1.1.1.1.1.1.1.1.1.1.1.1.1.2 (by decide +kernel) (by decide +kernel) (He.glo_ok X Gm (cD.fact 30 (f := .glo ("BadPlace" : Str)) rfl)) ck.1.1.1.1.1.1.1.1.1.1.1.1.1.1.1.1.1.2
  have i_BadRatio : IsoOk (mkG R.prog w base K mg) ("BadRatio" : Str) ys_BadRatio ns_BadRatio := isoOk_own X Gm ck.1.1.1.1.1.1.1.1.1.1.1.1.1.1.1.1.1.1.1.1.1.1.1.1.1.1.1.1.1.1.1.1.1.1.2 (by decide +kernel) (by decide +kernel) (He.glo_ok X Gm (cD.fact 31 (f := .glo ("BadRatio" : Str)) rfl)) ck.1.1.1.1.1.1.1.1.1.1.1.1.1.1.1.1.2
  have i_BadReading : IsoOk (mkG R.prog w base K mg) ("BadReading" : Str) ys_BadReading ns_BadReading := isoOk_own X Gm ck.1.1.1.1.1.1.1.1.1.1.1.1.1.1.1.1.1.1.1.1.1.1.1.1.1.1.1.1.1.1.1.1.1.1.2 (by decide +kernel) (by decide +kernel) (He.glo_ok X Gm (cD.fact 32 (f := .glo ("BadReading" : Str)) rfl)) ck.1.1.1.1.1.1.1.1.1.1.1.1.1.1.1.2
  have i_BadSize : IsoOk (mkG R.prog w base K mg) ("BadSize" : Str) ys_BadSize ns_BadSize := isoOk_own X Gm ck.1.1.1.1.1.1.1.1.1.1.1.1.1.1.1.1.1.1.1.1.1.1.1.1.1.1.1.1.1.1.1.1.1.1.2 (by decide +kernel) (by decide +kernel) (He.glo_ok X Gm (cD.fact 33 (f := .glo ("BadSize" : Str)) rfl)) ck.1.1.1.1.1.1.1.1.1.1.1.1.1.1.2
  have i_BadStone : IsoOk (mkG R.prog w base K mg) ("BadStone" : Str) ys_BadStone ns_BadStone := isoOk_own X Gm ck.1.1.1.1.1.1.1.1.1.1.1.1.1.1.1.1.1.1.1.1.1.1.1.1.1.1.1.1.1.1.1.1.1.1.2 (by decide +kernel) (by decide +kernel) (He.glo_ok X Gm (cD.fact 34 (f := .glo ("BadStone" : Str)) rfl)) ck.1.1.1.1.1.1.1.1.1.1.1.1.1.2
  have i_BadTable : IsoOk (mkG R.prog w base K mg) ("BadTable" : Str) ys_BadTable ns_BadTable := isoOk_own X Gm ck.1.1.1.1.1.1.1.1.1.1.1.1.1.1.1.1.1.1.1.1.1.1.1.1.1.1.1.1.1.1.1.1.1.1.2 (by decide +kernel) (by decide +kernel) (He.glo_ok X Gm (cD.fact 35 (f := .glo ("BadTable" : Str)) rfl)) ck.1.1.1.1.1.1.1.1.1.1.1.1.2
  have i_BadText : IsoOk (mkG R.prog w base K mg) ("BadText" : Str) ys_BadText ns_BadText := isoOk_own X Gm ck.1.1.1.1.1.1.1.1.1.1.1.1.1.1.1.1.1.1.1.1.1.1.1.1.1.1.1.1.1.1.1.1.1.1.2 (by decide +kernel) (by decide +kernel) (He.glo_ok X Gm (cD.fact 36 (f := .glo ("BadText" : Str)) rfl)) ck.1.1.1.1.1.1.1.1.1.1.1.2
  have i_BadWish : IsoOk (mkG R.prog w base K mg) ("BadWish" : Str) ys_BadWish ns_BadWish := isoOk_own X Gm ck.1.1.1.1.1.1.1.1.1.1.1.1.1.1.1.1.1.1.1.1.1.1.1.1.1.1.1.1.1.1.1.1.1.1.2 (by decide +kernel) (by decide +kernel) (He.glo_ok X Gm (cD.fact 37 (f := .glo ("BadWish" : Str)) rfl)) ck.1.1.1.1.1.1.1.1.1.1.2
  have i_BookFull : IsoOk (mkG R.prog w base K mg) ("BookFull" : Str) ys_BookFull ns_BookFull := isoOk_own X Gm ck.1.1.1.1.1.1.1.1.1.1.1.1.1.1.1.1.1.1.1.1.1.1.1.1.1.1.1.1.1.1.1.1.1.1.2 (by decide +kernel) (by decide +kernel) (He.glo_ok X Gm (cD.fact 38 (f := .glo ("BookFull" : Str)) rfl)) ck.1.1.1.1.1.1.1.1.1.2
  have i_FeltError : IsoOk (mkG R.prog w base K mg) ("FeltError" : Str) ys_FeltError ns_FeltError := isoOk_own X Gm ck.1.1.1.1.1.1.1.1.1.1.1.1.1.1.1.1.1.1.1.1.1.1.1.1.1.1.1.1.1.1.1.1.1.1.2 (by decide +kernel) (by decide +kernel) (He.glo_ok X Gm (cD.fact 39 (f := .glo ("FeltError" : Str)) rfl)) ck.1.1.1.1.1.1.1.1.2
  have i_NoArea : IsoOk (mkG R.prog w base K mg) ("NoArea" : Str) ys_NoArea ns_NoArea := isoOk_own X Gm ck.1.1.1.1.1.1.1.1.1.1.1.1.1.1.1.1.1.1.1.1.1.1.1.1.1.1.1.1.1.1.1.1.1.1.2 (by decide +kernel) (by decide +kernel) (He.glo_ok X Gm (cD.fact 40 (f := .glo ("NoArea" : Str)) rfl)) ck.1.1.1.1.1.1.1.2
  have i_NoFact : IsoOk (mkG R.prog w base K mg) ("NoFact" : Str) ys_NoFact ns_NoFact := isoOk_own X Gm ck.1.1.1.1.1.1.1.1.1.1.1.1.1.1.1.1.1.1.1.1.1.1.1.1.1.1.1.1.1.1.1.1.1.1.2 (by decide +kernel) (by decide +kernel) (He.glo_ok X Gm (cD.fact 41 (f := .glo ("NoFact" : Str)) rfl)) ck.1.1.1.1.1.1.2
  have i_NoNumber : IsoOk (mkG R.prog w base K mg) ("NoNumber" : Str) ys_NoNumber ns_NoNumber := isoOk_own X Gm ck.1.1.1.1.1.1.1.1.1.1.1.1.1.1.1.1.1.1.1.1.1.1.1.1.1.1.1.1.1.1.1.1.1.1.2 (by decide +kernel) (by decide +kernel) (He.glo_ok X Gm (cD.fact 42 (f := .glo ("NoNumber" : Str)) rfl)) ck.1.1.1.1.1.2
  have i_NoStones : IsoOk (mkG R.prog w base K mg) ("NoStones" : Str) ys_NoStones ns_NoStones := isoOk_own X Gm ck.1.1.1.1.1.1.1.1.1.1.1.1.1.1.1.1.1.1.1.1.1.1.1.1.1.1.1.1.1.1.1.1.1.1.2 (by decide +kernel) (by decide +kernel) (He.glo_ok X Gm (cD.fact 43 (f := .glo ("NoStones" : Str)) rfl)) ck.1.1.1.1.2
  have i_NotFit : IsoOk (mkG R.prog w base K mg) ("NotFit" : Str) ys_NotFit ns_NotFit := isoOk_own X Gm ck.1.1.1.1.1.1.1.1.1.1.1.1.1.1.1.1.1.1.1.1.1.1.1.1.1.1.1.1.1.1.1.1.1.1.2 (by decide +kernel) (by decide +kernel) (He.glo_ok X Gm (cD.fact 44 (f := .glo ("NotFit" : Str)) rfl)) ck.1.1.1.2
  have i_NotMet : IsoOk (mkG R.prog w base K mg) ("NotMet" : Str) ys_NotMet ns_NotMet := isoOk_own X Gm ck.1.1.1.1.1.1.1.1.1.1.1.1.1.1.1.1.1.1.1.1.1.1.1.1.1.1.1.1.1.1.1.1.1.1.2 (by decide +kernel) (by decide +kernel) (He.glo_ok X Gm (cD.fact 45 (f := .glo ("NotMet" : Str)) rfl)) ck.1.1.2
  have i_TooMany : IsoOk (mkG R.prog w base K mg) ("TooMany" : Str) ys_TooMany ns_TooMany := isoOk_own X Gm ck.1.1.1.1.1.1.1.1.1.1.1.1.1.1.1.1.1.1.1.1.1.1.1.1.1.1.1.1.1.1.1.1.1.1.2 (by decide +kernel) (by decide +kernel) (He.glo_ok X Gm (cD.fact 46 (f := .glo ("TooMany" : Str)) rfl)) ck.1.2
  have i_ValueError : IsoOk (mkG R.prog w base K mg) ("ValueError" : Str) ys_ValueError ns_ValueError := isoOk_ve X Gm ck.1.1.1.1.1.1.1.1.1.1.1.1.1.1.1.1.1.1.1.1.1.1.1.1.1.1.1.1.1.1.1.1.1.1.2 (by decide +kernel) (by decide +kernel) (He.free_ok X Gm (cD.fact 47 (f := .free "ValueError") rfl)) ck.2
  have ne_FeltError : NewOk (mkG R.prog w base K mg) ("FeltError" : Str) := newOk_of X Gm (He.glo_ok X Gm (cD.fact 39 (f := .glo ("FeltError" : Str)) rfl)) (cD.fact 54 (f := .exc ("FeltError" : Str)) rfl)
  have t2_BadFact_FeltError_BadCase : Try2Ok (mkG R.prog w base K mg) ("BadFact" : Str) ("FeltError" : Str) [("BadCase" : Str)] := try2Ok_of (He.glo_ok X Gm (cD.fact 24 (f := .glo ("BadFact" : Str)) rfl)) (He.glo_ok X Gm (cD.fact 39 (f := .glo ("FeltError" : Str)) rfl)) (by
    intro y hy
    simp only [List.mem_cons, List.not_mem_nil, or_false] at hy
    rcases hy with rfl
    · exact ⟨He.glo_ok X Gm (cD.fact 17 (f := .glo ("BadCase" : Str)) rfl), He.exm_ok (cD.fact 48 (f := .exm ("BadCase" : Str) ("BadFact" : Str) false) rfl), He.exm_ok (cD.fact 49 (f := .exm ("BadCase" : Str) ("FeltError" : Str) true) rfl)⟩
    )
  have t2_NoArea_FeltError_NoFact : Try2Ok (mkG R.prog w base K mg) ("NoArea" : Str) ("FeltError" : Str) [("NoFact" : Str)] := try2Ok_of (He.glo_ok X Gm (cD.fact 40 (f := .glo ("NoArea" : Str)) rfl)) (He.glo_ok X Gm (cD.fact 39 (f := .glo ("FeltError" : Str)) rfl)) (by
    intro y hy
    simp only [List.mem_cons, List.not_mem_nil, or_false] at hy
    rcases hy with rfl
    · exact ⟨He.glo_ok X Gm (cD.fact 41 (f := .glo ("NoFact" : Str)) rfl), He.exm_ok (cD.fact 50 (f := .exm ("NoFact" : Str) ("NoArea" : Str) false) rfl), He.exm_ok (cD.fact 51 (f := .exm ("NoFact" : Str) ("FeltError" : Str) true) rfl)⟩
    )
  have t2_NoStones_FeltError_NotMet : Try2Ok (mkG R.prog w base K mg) ("NoStones" : Str) ("FeltError" : Str) [("NotMet" : Str)] := try2Ok_of (He.glo_ok X Gm (cD.fact 43 (f := .glo ("NoStones" : Str)) rfl)) (He.glo_ok X Gm (cD.fact 39 (f := .glo ("FeltError" : Str)) rfl)) (by
    intro y hy
    simp only [List.mem_cons, List.not_mem_nil, or_false] at hy
    rcases hy with rfl
    · exact ⟨He.glo_ok X Gm (cD.fact 45 (f := .glo ("NotMet" : Str)) rfl), He.exm_ok (cD.fact 52 (f := .exm ("NotMet" : Str) ("NoStones" : Str) false) rfl), He.exm_ok (cD.fact 53 (f := .exm ("NotMet" : Str) ("FeltError" : Str) true) rfl)⟩
    )
  have x_fact_all : XfOk (mkG R.prog w base K mg) ("fact" : Str) [("NotFit" : Str)] := xfOk_of (by decide +kernel) (by
    intro y hy
    simp only [List.mem_cons, List.not_mem_nil, or_false] at hy
    rcases hy with rfl
    · exact ⟨xm_NotFit, (xc_xf xc_NotFit).1, (xc_xf xc_NotFit).2 _ (List.mem_of_getElem? (i := 0) rfl)⟩
    )
  have x_index_BadCase : XfOk (mkG R.prog w base K mg) ("index" : Str) [("BadCase" : Str)] := xfOk_of (by decide +kernel) (by
    intro y hy
    simp only [List.mem_cons, List.not_mem_nil, or_false] at hy
    rcases hy with rfl
    · exact ⟨xm_BadCase, (xc_xf xc_BadCase).1, (xc_xf xc_BadCase).2 _ (List.mem_of_getElem? (i := 0) rfl)⟩
    )
  have x_index_all : XfOk (mkG R.prog w base K mg) ("index" : Str) [("BadCase" : Str), ("BadChoice" : Str), ("BadReading" : Str), ("BadDirections" : Str), ("BadChange" : Str), ("BadWish" : Str)] := xfOk_of (by decide +kernel) (by
    intro y hy
    simp only [List.mem_cons, List.not_mem_nil, or_false] at hy
    rcases hy with rfl | rfl | rfl | rfl | rfl | rfl
    · exact ⟨xm_BadCase, (xc_xf xc_BadCase).1, (xc_xf xc_BadCase).2 _ (List.mem_of_getElem? (i := 0) rfl)⟩
    · exact ⟨xm_BadChoice, (xc_xf xc_BadChoice).1, (xc_xf xc_BadChoice).2 _ (List.mem_of_getElem? (i := 0) rfl)⟩
    · exact ⟨xm_BadReading, (xc_xf xc_BadReading).1, (xc_xf xc_BadReading).2 _ (List.mem_of_getElem? (i := 0) rfl)⟩
    · exact ⟨xm_BadDirections, (xc_xf xc_BadDirections).1, (xc_xf xc_BadDirections).2 _ (List.mem_of_getElem? (i := 0) rfl)⟩
    · exact ⟨xm_BadChange, (xc_xf xc_BadChange).1, (xc_xf xc_BadChange).2 _ (List.mem_of_getElem? (i := 0) rfl)⟩
    · exact ⟨xm_BadWish, (xc_xf xc_BadWish).1, (xc_xf xc_BadWish).2 _ (List.mem_of_getElem? (i := 0) rfl)⟩
    )
  have x_most_all : XfOk (mkG R.prog w base K mg) ("most" : Str) [("TooMany" : Str)] := xfOk_of (by decide +kernel) (by
    intro y hy
    simp only [List.mem_cons, List.not_mem_nil, or_false] at hy
    rcases hy with rfl
    · exact ⟨xm_TooMany, (xc_xf xc_TooMany).1, (xc_xf xc_TooMany).2 _ (List.mem_of_getElem? (i := 0) rfl)⟩
    )
  have x_number_NoFact : XfOk (mkG R.prog w base K mg) ("number" : Str) [("NoFact" : Str)] := xfOk_of (by decide +kernel) (by
    intro y hy
    simp only [List.mem_cons, List.not_mem_nil, or_false] at hy
    rcases hy with rfl
    · exact ⟨xm_NoFact, (xc_xf xc_NoFact).1, (xc_xf xc_NoFact).2 _ (List.mem_of_getElem? (i := 0) rfl)⟩
    )
  have x_number_all : XfOk (mkG R.prog w base K mg) ("number" : Str) [("NoFact" : Str), ("NoArea" : Str), ("BadCorner" : Str), ("NoNumber" : Str)] := xfOk_of (by decide +kernel) (by
    intro y hy
    simp only [List.mem_cons, List.not_mem_nil, or_false] at hy
    rcases hy with rfl | rfl | rfl | rfl
    · exact ⟨xm_NoFact, (xc_xf xc_NoFact).1, (xc_xf xc_NoFact).2 _ (List.mem_of_getElem? (i := 0) rfl)⟩
    · exact ⟨xm_NoArea, (xc_xf xc_NoArea).1, (xc_xf xc_NoArea).2 _ (List.mem_of_getElem? (i := 0) rfl)⟩
    · exact ⟨xm_BadCorner, (xc_xf xc_BadCorner).1, (xc_xf xc_BadCorner).2 _ (List.mem_of_getElem? (i := 0) rfl)⟩
    · exact ⟨xm_NoNumber, (xc_xf xc_NoNumber).1, (xc_xf xc_NoNumber).2 _ (List.mem_of_getElem? (i := 0) rfl)⟩
    )
  have x_row_all : XfOk (mkG R.prog w base K mg) ("row" : Str) [("BadText" : Str)] := xfOk_of (by decide +kernel) (by
    intro y hy
    simp only [List.mem_cons, List.not_mem_nil, or_false] at hy
    rcases hy with rfl
    · exact ⟨xm_BadText, (xc_xf xc_BadText).1, (xc_xf xc_BadText).2 _ (List.mem_of_getElem? (i := 0) rfl)⟩
    )
  have x_what_BadCase : XfOk (mkG R.prog w base K mg) ("what" : Str) [("BadCase" : Str)] := xfOk_of (by decide +kernel) (by
    intro y hy
    simp only [List.mem_cons, List.not_mem_nil, or_false] at hy
    rcases hy with rfl
    · exact ⟨xm_BadCase, (xc_xf xc_BadCase).1, (xc_xf xc_BadCase).2 _ (List.mem_of_getElem? (i := 1) rfl)⟩
    )
  have x_what_all : XfOk (mkG R.prog w base K mg) ("what" : Str) [("BadRatio" : Str), ("BadPatch" : Str), ("BadTable" : Str), ("BadText" : Str), ("BadFact" : Str), ("BadCase" : Str), ("BadLots" : Str), ("BadClaim" : Str), ("BadKept" : Str), ("BadReading" : Str), ("BadBox" : Str), ("BadChange" : Str)] := xfOk_of (by decide +kernel) (by
    intro y hy
    simp only [List.mem_cons, List.not_mem_nil, or_false] at hy
    rcases hy with rfl | rfl | rfl | rfl | rfl | rfl | rfl | rfl | rfl | rfl | rfl | rfl
    · exact ⟨xm_BadRatio, (xc_xf xc_BadRatio).1, (xc_xf xc_BadRatio).2 _ (List.mem_of_getElem? (i := 0) rfl)⟩
    · exact ⟨xm_BadPatch, (xc_xf xc_BadPatch).1, (xc_xf xc_BadPatch).2 _ (List.mem_of_getElem? (i := 0) rfl)⟩
    · exact ⟨xm_BadTable, (xc_xf xc_BadTable).1, (xc_xf xc_BadTable).2 _ (List.mem_of_getElem? (i := 0) rfl)⟩
    · exact ⟨xm_BadText, (xc_xf xc_BadText).1, (xc_xf xc_BadText).2 _ (List.mem_of_getElem? (i := 1) rfl)⟩
    · exact ⟨xm_BadFact, (xc_xf xc_BadFact).1, (xc_xf xc_BadFact).2 _ (List.mem_of_getElem? (i := 0) rfl)⟩
    · exact ⟨xm_BadCase, (xc_xf xc_BadCase).1, (xc_xf xc_BadCase).2 _ (List.mem_of_getElem? (i := 1) rfl)⟩
    · exact ⟨xm_BadLots, (bin_xf ck.1.1.1.1.1.1.1.1.1.1.1.1.1.1.1.1.1.1.1.1.1.1.1.1.1.1.1.1.1.1.1.1.1.1.1.1.1).1, (bin_xf ck.1.1.1.1.1.1.1.1.1.1.1.1.1.1.1.1.1.1.1.1.1.1.1.1.1.1.1.1.1.1.1.1.1.1.1.1.1).2 _ (List.mem_of_getElem? (i := 0) rfl)⟩
    · exact ⟨xm_BadClaim, (xc_xf xc_BadClaim).1, (xc_xf xc_BadClaim).2 _ (List.mem_of_getElem? (i := 0) rfl)⟩
    · exact ⟨xm_BadKept, (xc_xf xc_BadKept).1, (xc_xf xc_BadKept).2 _ (List.mem_of_getElem? (i := 0) rfl)⟩
    · exact ⟨xm_BadReading, (xc_xf xc_BadReading).1, (xc_xf xc_BadReading).2 _ (List.mem_of_getElem? (i := 1) rfl)⟩
    · exact ⟨xm_BadBox, (xc_xf xc_BadBox).1, (xc_xf xc_BadBox).2 _ (List.mem_of_getElem? (i := 0) rfl)⟩
    · exact ⟨xm_BadChange, (xc_xf xc_BadChange).1, (xc_xf xc_BadChange).2 _ (List.mem_of_getElem? (i := 1) rfl)⟩
    )
  obtain ⟨fd_Lhand, F_Lhand⟩ := cD.def_ 0 (d := D_Lhand) rfl
  have m_Lhand : mg ("_law_hand" : Str) = some (.ref (He.ga K ("_law_hand" : Str))) := He.glo_ok X Gm (cD.fact 0 (f := .glo ("_law_hand" : Str)) rfl)
  have bd_Lhand := b_Lhand ho f_int f_len
  have h_Lhand : HasFn (mkG R.prog w base K mg) 1 f_Lhand [] := hasFn_of (dv := []) F_Lhand s_Lhand rfl rfl m_Lhand bd_Lhand ⟨[], .nil, F_Lhand.bindsN fun _ _ _ _ _ _ us hl => match us, hl with | [_], _ => rfl⟩ (fun F => by simp [Reps, Rep, He.Dv.v])
  obtain ⟨fd_Lmixed, F_Lmixed⟩ := cD.def_ 1 (d := D_Lmixed) rfl
  have m_Lmixed : mg ("_law_mixed" : Str) = some (.ref (He.ga K ("_law_mixed" : Str))) := He.glo_ok X Gm (cD.fact 1 (f := .glo ("_law_mixed" : Str)) rfl)
  have bd_Lmixed := b_Lmixed ho f_int
  have h_Lmixed : HasFn (mkG R.prog w base K mg) 1 f_Lmixed [] := hasFn_of (dv := []) F_Lmixed s_Lmixed rfl rfl m_Lmixed bd_Lmixed ⟨[], .nil, F_Lmixed.bindsN fun _ _ _ _ _ _ us hl => match us, hl with | [_, _], _ => rfl⟩ (fun F => by simp [Reps, Rep, He.Dv.v])
  obtain ⟨fd_Ltake, F_Ltake⟩ := cD.def_ 2 (d := D_Ltake) rfl
  have m_Ltake : mg ("_law_take" : Str) = some (.ref (He.ga K ("_law_take" : Str))) := He.glo_ok X Gm (cD.fact 2 (f := .glo ("_law_take" : Str)) rfl)
  have bd_Ltake := b_Ltake ho f_int f_len (h_Lmixed.mono (by decide))
  have h_Ltake : HasFn (mkG R.prog w base K mg) 2 f_Ltake [] := hasFn_of (dv := []) F_Ltake s_Ltake rfl rfl m_Ltake bd_Ltake ⟨[], .nil, F_Ltake.bindsN fun _ _ _ _ _ _ us hl => match us, hl with | [_, _], _ => rfl⟩ (fun F => by simp [Reps, Rep, He.Dv.v])
  obtain ⟨fd_Lname, F_Lname⟩ := cD.def_ 3 (d := D_Lname) rfl
  have m_Lname : mg ("_law_name" : Str) = some (.ref (He.ga K ("_law_name" : Str))) := He.glo_ok X Gm (cD.fact 3 (f := .glo ("_law_name" : Str)) rfl)
  have bd_Lname := b_Lname ho f_range (h_Ltake.mono (by decide))
  have h_Lname : HasFn (mkG R.prog w base K mg) 3 f_Lname [] := hasFn_of (dv := []) F_Lname s_Lname rfl rfl m_Lname bd_Lname ⟨[], .nil, F_Lname.bindsN fun _ _ _ _ _ _ us hl => match us, hl with | [_], _ => rfl⟩ (fun F => by simp [Reps, Rep, He.Dv.v])
  obtain ⟨fd_Lthird, F_Lthird⟩ := cD.def_ 4 (d := D_Lthird) rfl
  have m_Lthird : mg ("_law_third" : Str) = some (.ref (He.ga K ("_law_third" : Str))) := He.glo_ok X Gm (cD.fact 4 (f := .glo ("_law_third" : Str)) rfl)
  have bd_Lthird := b_Lthird ho e_BadBox e_BadBreadth e_BadChange e_BadDirections e_BadMost e_BadReading e_BadStone e_BadWish e_BookFull e_NoNumber x_index_all x_number_all x_what_all
  have h_Lthird : HasFn (mkG R.prog w base K mg) 3 f_Lthird [] := hasFn_of (dv := []) F_Lthird s_Lthird rfl rfl m_Lthird bd_Lthird ⟨[], .nil, F_Lthird.bindsN fun _ _ _ _ _ _ us hl => match us, hl with | [_, _, _, _], _ => rfl⟩ (fun F => by simp [Reps, Rep, He.Dv.v])
  obtain ⟨fd_Lfirst, F_Lfirst⟩ := cD.def_ 5 (d := D_Lfirst) rfl
  have m_Lfirst : mg ("_law_first" : Str) = some (.ref (He.ga K ("_law_first" : Str))) := He.glo_ok X Gm (cD.fact 5 (f := .glo ("_law_first" : Str)) rfl)
  have bd_Lfirst := b_Lfirst ho e_BadAmount e_BadCase e_BadDirection e_BadFact e_BadPatch e_BadPlace e_BadRatio e_BadSize e_BadTable e_BadText e_NoFact x_index_all x_number_all x_row_all x_what_all
  have h_Lfirst : HasFn (mkG R.prog w base K mg) 3 f_Lfirst [] := hasFn_of (dv := []) F_Lfirst s_Lfirst rfl rfl m_Lfirst bd_Lfirst ⟨[], .nil, F_Lfirst.bindsN fun _ _ _ _ _ _ us hl => match us, hl with | [_, _, _, _], _ => rfl⟩ (fun F => by simp [Reps, Rep, He.Dv.v])
  obtain ⟨fd_Lsecond, F_Lsecond⟩ := cD.def_ 6 (d := D_Lsecond) rfl
  have m_Lsecond : mg ("_law_second" : Str) = some (.ref (He.ga K ("_law_second" : Str))) := He.glo_ok X Gm (cD.fact 6 (f := .glo ("_law_second" : Str)) rfl)
  have bd_Lsecond := b_Lsecond ho e_BadChoice e_BadClaim e_BadCorner e_BadKept e_NoArea e_NoStones e_NotFit e_NotMet e_TooMany eb_BadLine eb_BadLots x_fact_all x_index_all x_most_all x_number_all x_what_all
  have h_Lsecond : HasFn (mkG R.prog w base K mg) 3 f_Lsecond [] := hasFn_of (dv := []) F_Lsecond s_Lsecond rfl rfl m_Lsecond bd_Lsecond ⟨[], .nil, F_Lsecond.bindsN fun _ _ _ _ _ _ us hl => match us, hl with | [_, _, _, _], _ => rfl⟩ (fun F => by simp [Reps, Rep, He.Dv.v])
  obtain ⟨fd_Lclasses, F_Lclasses⟩ := cD.def_ 7 (d := D_Lclasses) rfl
  have m_Lclasses : mg ("_law_classes" : Str) = some (.ref (He.ga K ("_law_classes" : Str))) := He.glo_ok X Gm (cD.fact 7 (f := .glo ("_law_classes" : Str)) rfl)
  have bd_Lclasses := b_Lclasses ho f_isinstance i_BadAmount i_BadBox i_BadBreadth i_BadCase i_BadChange i_BadChoice i_BadClaim i_BadCorner i_BadDirection i_BadDirections i_BadFact i_BadKept i_BadLine i_BadLots i_BadMost i_BadPatch i_BadPlace i_BadRatio i_BadReading i_BadSize i_BadStone i_BadTable i_BadText i_BadWish i_BookFull i_NoArea i_NoFact i_NoNumber i_NoStones i_NotFit i_NotMet i_TooMany
  have h_Lclasses : HasFn (mkG R.prog w base K mg) 1 f_Lclasses [] := hasFn_of (dv := []) F_Lclasses s_Lclasses rfl rfl m_Lclasses bd_Lclasses ⟨[], .nil, F_Lclasses.bindsN fun _ _ _ _ _ _ us hl => match us, hl with | [_], _ => rfl⟩ (fun F => by simp [Reps, Rep, He.Dv.v])
  obtain ⟨fd_Lraised, F_Lraised⟩ := cD.def_ 8 (d := D_Lraised) rfl
  have m_Lraised : mg ("_law_raised" : Str) = some (.ref (He.ga K ("_law_raised" : Str))) := He.glo_ok X Gm (cD.fact 8 (f := .glo ("_law_raised" : Str)) rfl)
  have bd_Lraised := b_Lraised ho e_BadCase e_NoFact e_NotMet f_isinstance i_BadCase i_NoFact i_NotMet i_ValueError t2_BadFact_FeltError_BadCase t2_NoArea_FeltError_NoFact t2_NoStones_FeltError_NotMet x_index_BadCase x_number_NoFact x_what_BadCase
  have h_Lraised : HasFn (mkG R.prog w base K mg) 3 f_Lraised [] := hasFn_of (dv := []) F_Lraised s_Lraised rfl rfl m_Lraised bd_Lraised ⟨[], .nil, F_Lraised.bindsN fun _ _ _ _ _ _ us hl => match us, hl with | [_, _], _ => rfl⟩ (fun F => by simp [Reps, Rep, He.Dv.v])
  obtain ⟨fd_law, F_law⟩ := cD.def_ 9 (d := D_law) rfl
  have m_law : mg ("law" : Str) = some (.ref (He.ga K ("law" : Str))) := He.glo_ok X Gm (cD.fact 9 (f := .glo ("law" : Str)) rfl)
  have bd_law := b_law ho f_isinstance f_len f_range (h_Lclasses.mono (by decide)) (h_Lfirst.mono (by decide)) (h_Lhand.mono (by decide)) (h_Lname.mono (by decide)) (h_Lraised.mono (by decide)) (h_Lsecond.mono (by decide)) (h_Ltake.mono (by decide)) (h_Lthird.mono (by decide)) i_FeltError i_ValueError ne_FeltError
  have h_law : HasFn (mkG R.prog w base K mg) 4 f_law [] := hasFn_of (dv := []) F_law s_law rfl rfl m_law bd_law ⟨[], .nil, F_law.bindsN fun _ _ _ _ _ _ us hl => match us, hl with | [_], _ => rfl⟩ (fun F => by simp [Reps, Rep, He.Dv.v])
  exact ⟨fd_law, F_law, fn_ok F_law s_law rfl rfl bd_law⟩

end K00.H
open PySem PySem.W PySem.Calls PyProof.Rows
theorem PySem.Challenge.cw_feltstone_k00_errors_side_by_side_holds : PySem.Challenge.rw_feltstone_k00_errors_side_by_side.Holds := by
  w_on; o_law
  refine HandSHeadRun.head_any (r := OpenLaw.row PySem.Challenge.rw_feltstone_k00_errors_side_by_side) (q := view (OpenLaw.row PySem.Challenge.rw_feltstone_k00_errors_side_by_side).prog K00.H.vw) (H := K00.H.hk) (ob := K00.H.ob) (M := 16000) (loose := K00.H.loose) (d := HandSHeadRun.topDef (OpenLaw.row PySem.Challenge.rw_feltstone_k00_errors_side_by_side).prog 44) (kwd := []) K00.H.ob_eq
    (by kernel_rfl) (fun s => by kernel_rfl) K00.H.run (by kernel_rfl) (by kernel_rfl) (by kernel_rfl) (by rfl) (by first | assumption | decide +kernel) (by decide +kernel) ⟨rfl, rfl, rfl, rfl, rfl, by decide +kernel⟩ ?hw ?hc
  case hw => w_witness2
  case hc =>
    refine FL.walk_ofX (l := PySem.Challenge.rw_feltstone_k00_errors_side_by_side) (n := 63) (k := 4) (x := "script") (CX := fun w => L2.CX (PySem.Challenge.rw_feltstone_k00_errors_side_by_side).prog w) rfl (by decide) (by kernel_rfl) ⟨rfl, by decide, by decide⟩ ?F (fun _ _ _ _ _ z => FL.cx_false z)
    intro w mg fa h Y G hmg0
    obtain ⟨K, KX, c⟩ := Y
    have hmg : mg ("law" : PySem.Str) = some (.ref fa) := by
      have e : (HandSHeadRun.topDef (OpenLaw.row PySem.Challenge.rw_feltstone_k00_errors_side_by_side).prog 44).name = ("law" : PySem.Str) := by kernel_rfl
      rw [← e]
      exact hmg0
    obtain ⟨fd, FD, _⟩ := K00.H.chain (w := w) (base := h) KX G c
    have em : mg ("law" : PySem.Str) = some (.ref (He.ga K "law")) := He.glo_ok KX G (c.D.fact 9 (f := .glo "law") rfl)
    have ea : fa = He.ga K "law" := by
      rw [hmg] at em
      cases em
      rfl
    subst ea
    have b := L2.FunD.bindsA (ps := ["script"]) FD fun _ _ _ _ _ _ us hl => match us, hl with | [_], _ => rfl
    refine ⟨K, fd, fun vs H Q E => ∀ base : Heap, FL.spF (FL.mkG (PySem.Challenge.rw_feltstone_k00_errors_side_by_side).prog w base K mg) K00.f_law vs H Q E, KX, fun s v => b s [v] rfl, fun H a ns hl hbits _ hS base => FL.law_sp rfl rfl hS (K00.law_true ns hl), fun base hb hg => ?_⟩
    obtain ⟨fd2, FD2, ok⟩ := K00.H.chain (w := w) (base := base) KX G c
    obtain rfl := FL.funD_uniq FD2 FD
    exact ok.imp fun vs H Q E z => z base
