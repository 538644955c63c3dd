import PyProof.Rows.All
import Wide.All
import OpenK.AllK
import Wide.FinOn
import HandS.ForMost
import HandS.ForExc
import HandS.Defaults
import HandS.IsInst
import HandS.ExcSuper
import HandS.Gcd
import HandS.Wide
import HandS.Conv
import HandS.Style
import HandS.Flow
import HandS.FStr
import HandS.Sort
import HandS.TupLe
import HandS.TryOnly
import KE.SortData
import HandS.Deep
import HandS.CallSlots
import HandS.ExcInit
import KE.KSuper
import KE.KExcSuper
import HandS.Text
import HandS.ExcField
import HandS.Words
import HandS.HeadHook1
import HandS.HeadHook2
import HandS.HeadEnd
import HandS.EndBits
import HandS.Head3
import HandS.Head4
import PySem.Challenge.RW_feltstone_k03_whole_places_and_amounts
set_option Elab.async false
set_option linter.all false
set_option maxRecDepth 100000
set_option maxHeartbeats 8000000
set_option exponentiation.threshold 100000
/-! FL1: value trees, slots, what stands for a tree in the abstract heap. -/
namespace FL
open PySem PySem.Spec L2

/-- a value tree -/
inductive T where
  | non | bl (b : Bool) | int (i : Int) | str (s : Str)
  | tup (xs : List T) | lst (xs : List T)
  /-- the law's script: read only -/
  | scr (xs : List T)
  | obj (c : Str) (ns : List Str) (xs : List T)

/-- the ground: the written part, the module's names -/
structure Gx where
  P : Program
  w : World
  base : Heap
  K : PySem.W.Frag
  mg : Str → Option Value
  /-- the own classes whose instances stand for trees -/
  cl : Str → Option Addr

mutual
def Rep (G : Gx) (F : Hp) : V → T → Prop
  | v, .non => v = .non
  | v, .bl b => v = .bl b
  | v, .int i => v = .int i
  | v, .str s => v = .str s
  | v, .tup ts => ∃ a vs, v = .ref a ∧ SqT G.K F a vs ∧ Reps G F vs ts
  | v, .lst ts => ∃ a vs, v = .ref a ∧ F a = some (.lst vs) ∧ Reps G F vs ts
  | v, .scr ts => ∃ a vs, v = .ref a ∧ SqL G.K F a vs ∧ Reps G F vs ts
  | v, .obj c ns ts => ∃ a C dx vs, v = .ref a ∧ G.cl c = some C ∧ F a = some (.ins C dx (ns.zip vs)) ∧ vs.length = ns.length ∧ Reps G F vs ts
def Reps (G : Gx) (F : Hp) : List V → List T → Prop
  | vs, [] => vs = []
  | vs, t :: ts => ∃ v r, vs = v :: r ∧ Rep G F v t ∧ Reps G F r ts
end

theorem sameSqT {K : PySem.W.Frag} {H H' : Hp} {a : Addr} {xs : List V} (e : Same H H') (h : SqT K H a xs) : SqT K H' a xs := by
  rcases h with (h | ⟨o, h⟩) | h
  · exact .inl (.inl (e _ _ h))
  · exact .inl (.inr ⟨o, e _ _ h⟩)
  · exact .inr h

mutual
theorem Rep.mono {G : Gx} {F F' : Hp} (e : Same F F') : ∀ (t : T) (v : V), Rep G F v t → Rep G F' v t
  | .non, v, h => by simpa only [Rep] using h
  | .bl _, v, h => by simpa only [Rep] using h
  | .int _, v, h => by simpa only [Rep] using h
  | .str _, v, h => by simpa only [Rep] using h
  | .tup ts, v, h => by
    simp only [Rep] at h ⊢
    obtain ⟨a, vs, h1, h2, h3⟩ := h
    exact ⟨a, vs, h1, sameSqT e h2, Reps.mono e ts vs h3⟩
  | .lst ts, v, h => by
    simp only [Rep] at h ⊢
    obtain ⟨a, vs, h1, h2, h3⟩ := h
    exact ⟨a, vs, h1, e _ _ h2, Reps.mono e ts vs h3⟩
  | .scr ts, v, h => by
    simp only [Rep] at h ⊢
    obtain ⟨a, vs, h1, h2, h3⟩ := h
    exact ⟨a, vs, h1, e.seq h2, Reps.mono e ts vs h3⟩
  | .obj c ns ts, v, h => by
    simp only [Rep] at h ⊢
    obtain ⟨a, C, dx, vs, h1, h2, h3, h4, h5⟩ := h
    exact ⟨a, C, dx, vs, h1, h2, e _ _ h3, h4, Reps.mono e ts vs h5⟩
theorem Reps.mono {G : Gx} {F F' : Hp} (e : Same F F') : ∀ (ts : List T) (vs : List V), Reps G F vs ts → Reps G F' vs ts
  | [], vs, h => by simpa only [Reps] using h
  | t :: ts, vs, h => by
    simp only [Reps] at h ⊢
    obtain ⟨v, r, h1, h2, h3⟩ := h
    exact ⟨v, r, h1, Rep.mono e t v h2, Reps.mono e ts r h3⟩
end

theorem Reps.length {G : Gx} {F : Hp} : ∀ {ts : List T} {vs : List V}, Reps G F vs ts → vs.length = ts.length
  | [], vs, h => by simp only [Reps] at h; subst h; rfl
  | t :: ts, vs, h => by
    simp only [Reps] at h
    obtain ⟨v, r, h1, h2, h3⟩ := h
    subst h1
    simp [Reps.length h3]
theorem Reps.get {G : Gx} {F : Hp} : ∀ {ts : List T} {vs : List V} {i : Nat} {t : T}, Reps G F vs ts → ts[i]? = some t → ∃ v, vs[i]? = some v ∧ Rep G F v t
  | [], vs, i, t, h, e => by simp at e
  | t' :: ts, vs, 0, t, h, e => by
    simp only [Reps] at h
    obtain ⟨v, r, h1, h2, h3⟩ := h
    subst h1
    simp at e
    subst e
    exact ⟨v, rfl, h2⟩
  | t' :: ts, vs, i + 1, t, h, e => by
    simp only [Reps] at h
    obtain ⟨v, r, h1, h2, h3⟩ := h
    subst h1
    obtain ⟨w, e1, e2⟩ := Reps.get (i := i) (t := t) h3 (by simpa using e)
    exact ⟨w, by simpa using e1, e2⟩
theorem Reps.got {G : Gx} {F : Hp} : ∀ {ts : List T} {vs : List V} {i : Nat} {v : V}, Reps G F vs ts → vs[i]? = some v → ∃ t, ts[i]? = some t ∧ Rep G F v t := fun {ts vs i v} h e => by
  have hl := h.length
  have hi : i < vs.length := (List.getElem?_eq_some_iff.mp e).1
  have hi' : i < ts.length := by omega
  obtain ⟨w, e1, e2⟩ := h.get (i := i) (t := ts[i]) (by simp [hi'])
  rw [e] at e1
  cases e1
  exact ⟨ts[i], by simp [hi'], e2⟩
theorem Reps.append {G : Gx} {F : Hp} : ∀ {ts us : List T} {vs ws : List V}, Reps G F vs ts → Reps G F ws us → Reps G F (vs ++ ws) (ts ++ us)
  | [], us, vs, ws, h, h' => by simp only [Reps] at h; subst h; simpa using h'
  | t :: ts, us, vs, ws, h, h' => by
    simp only [Reps] at h
    obtain ⟨v, r, h1, h2, h3⟩ := h
    subst h1
    simp only [List.cons_append, Reps]
    exact ⟨v, r ++ ws, rfl, h2, Reps.append h3 h'⟩
theorem Reps.one {G : Gx} {F : Hp} {v : V} {t : T} (h : Rep G F v t) : Reps G F [v] [t] := by
  simp only [Reps]
  exact ⟨v, [], rfl, h, rfl⟩
theorem Reps.cons {G : Gx} {F : Hp} {v : V} {t : T} {vs : List V} {ts : List T} (h : Rep G F v t) (h' : Reps G F vs ts) : Reps G F (v :: vs) (t :: ts) := by
  simp only [Reps]
  exact ⟨v, vs, rfl, h, h'⟩
theorem Reps.take {G : Gx} {F : Hp} : ∀ {ts : List T} {vs : List V} (n : Nat), Reps G F vs ts → Reps G F (vs.take n) (ts.take n)
  | ts, vs, 0, h => by simp [Reps]
  | [], vs, n + 1, h => by simp only [Reps] at h; subst h; simp [Reps]
  | t :: ts, vs, n + 1, h => by
    simp only [Reps] at h
    obtain ⟨v, r, h1, h2, h3⟩ := h
    subst h1
    exact Reps.cons h2 (Reps.take n h3)
theorem Reps.drop {G : Gx} {F : Hp} : ∀ {ts : List T} {vs : List V} (n : Nat), Reps G F vs ts → Reps G F (vs.drop n) (ts.drop n)
  | ts, vs, 0, h => by simpa using h
  | [], vs, n + 1, h => by simp only [Reps] at h; subst h; simp [Reps]
  | t :: ts, vs, n + 1, h => by
    simp only [Reps] at h
    obtain ⟨v, r, h1, h2, h3⟩ := h
    subst h1
    exact Reps.drop n h3
theorem Reps.set {G : Gx} {F : Hp} {v : V} {t : T} (h' : Rep G F v t) : ∀ {ts : List T} {vs : List V} (n : Nat), Reps G F vs ts → Reps G F (vs.set n v) (ts.set n t)
  | [], vs, n, h => by simp only [Reps] at h; subst h; simp [Reps]
  | t :: ts, vs, 0, h => by
    simp only [Reps] at h
    obtain ⟨v, r, h1, h2, h3⟩ := h
    subst h1
    exact Reps.cons h' h3
  | t :: ts, vs, n + 1, h => by
    simp only [Reps] at h
    obtain ⟨v, r, h1, h2, h3⟩ := h
    subst h1
    exact Reps.cons h2 (Reps.set h' n h3)

/-! no list within -/
mutual
def noL : T → Bool
  | .lst _ => false
  | .scr _ => false
  | .tup ts => noLs ts
  | .obj _ _ ts => noLs ts
  | _ => true
def noLs : List T → Bool
  | [] => true
  | t :: ts => noL t && noLs ts
end
/-- the same heap without lists at the addresses told by p -/
def less (F : Hp) (p : Addr → Prop) [DecidablePred p] : Hp := fun a => if p a then none else F a

mutual
theorem Rep.less {G : Gx} {F : Hp} {p : Addr → Prop} [DecidablePred p] (hp : ∀ a, p a → ∃ vs, F a = some (.lst vs)) : ∀ (t : T) (v : V), noL t = true → Rep G F v t → Rep G (less F p) v t
  | .non, v, _, h => by simpa only [Rep] using h
  | .bl _, v, _, h => by simpa only [Rep] using h
  | .int _, v, _, h => by simpa only [Rep] using h
  | .str _, v, _, h => by simpa only [Rep] using h
  | .lst ts, v, n, _ => by simp [noL] at n
  | .scr ts, v, n, _ => by simp [noL] at n
  | .tup ts, v, n, h => by
    simp only [noL] at n
    simp only [Rep] at h ⊢
    obtain ⟨a, vs, h1, h2, h3⟩ := h
    refine ⟨a, vs, h1, ?_, Reps.less hp ts vs n h3⟩
    rcases h2 with (h | ⟨o, h⟩) | h
    · refine .inl (.inl ?_)
      unfold FL.less
      rw [if_neg]
      · exact h
      · intro q
        obtain ⟨vs, e⟩ := hp a q
        rw [h] at e
        cases e
    · refine .inl (.inr ⟨o, ?_⟩)
      unfold FL.less
      rw [if_neg]
      · exact h
      · intro q
        obtain ⟨vs, e⟩ := hp a q
        rw [h] at e
        cases e
    · exact .inr h
  | .obj c ns ts, v, n, h => by
    simp only [noL] at n
    simp only [Rep] at h ⊢
    obtain ⟨a, C, dx, vs, h1, h2, h3, h4, h5⟩ := h
    refine ⟨a, C, dx, vs, h1, h2, ?_, h4, Reps.less hp ts vs n h5⟩
    unfold FL.less
    rw [if_neg]
    · exact h3
    · intro q
      obtain ⟨vs, e⟩ := hp a q
      rw [h3] at e
      cases e
theorem Reps.less {G : Gx} {F : Hp} {p : Addr → Prop} [DecidablePred p] (hp : ∀ a, p a → ∃ vs, F a = some (.lst vs)) : ∀ (ts : List T) (vs : List V), noLs ts = true → Reps G F vs ts → Reps G (less F p) vs ts
  | [], vs, _, h => by simpa only [Reps] using h
  | t :: ts, vs, n, h => by
    simp only [noLs, Bool.and_eq_true] at n
    simp only [Reps] at h ⊢
    obtain ⟨v, r, h1, h2, h3⟩ := h
    exact ⟨v, r, h1, Rep.less hp t v n.1 h2, Reps.less hp ts r n.2 h3⟩
end

/-! ### slots -/
/-- unset; a value; a list of one's own; the list that a parameter is (changed for the caller) -/
inductive Sl where
  | un | im (t : T) | mu (ts : List T) | mp (ts : List T)
  /-- a caught exception: its class, its attributes -/
  | xc (c : Str) (ns : List Str) (ts : List T)
abbrev Sls := List Sl
/-- a list that may be changed -/
def Sl.own : Sl → Option (List T)
  | .mu ts => some ts
  | .mp ts => some ts
  | _ => none

/-- the entry's objects that must stand, the parameter that is a list of the caller's -/
structure Fr0 where
  H0 : Hp
  pa : Option Addr
  F0 : Hp
  /-- the exception that is caught: its object, its class, its dict -/
  xa : Option (Addr × Value × Option Addr)
/-- an exception's object: its class, its attributes -/
def ExR (G : Gx) (F : Hp) (cls : Value) (d : Option Addr) (c : Str) (ns : List Str) (ts : List T) : Prop :=
  ∃ C, cls = .ref C ∧ G.mg c = some (.ref C) ∧ ((ns = [] ∧ ts = [] ∧ d = none) ∨ ∃ dx vs, d = some dx ∧ F dx = some (.xd (ns.zip vs)) ∧ vs.length = ns.length ∧ Reps G F vs ts)
theorem ExR.mono {G : Gx} {F F' : Hp} {cls : Value} {d : Option Addr} {c : Str} {ns : List Str} {ts : List T} (e : Same F F') (h : ExR G F cls d c ns ts) : ExR G F' cls d c ns ts := by
  obtain ⟨C, h1, h2, h3⟩ := h
  refine ⟨C, h1, h2, ?_⟩
  rcases h3 with h3 | ⟨dx, vs, k1, k2, k3, k4⟩
  · exact .inl h3
  · exact .inr ⟨dx, vs, k1, e _ _ k2, k3, Reps.mono e ts vs k4⟩
/-- a slot's list stands at a -/
structure LstAt (G : Gx) (F H : Hp) (a : Addr) (ts : List T) : Prop where
  at_ : ∃ vs, H a = some (.lst vs) ∧ Reps G F vs ts
  out : F a = none
/-- the state σ, H bears the slots s; F is what never changes -/
structure SR (G : Gx) (B : Fr0) (F H : Hp) (σ : St) (s : Sls) : Prop where
  sub : Same F H
  len : s.length = σ.length
  im : ∀ (i : Nat) (t : T), s[i]? = some (.im t) → ∃ v, σ[i]? = some (some v) ∧ Rep G F v t
  mu : ∀ (i : Nat) (ts : List T), s[i]? = some (.mu ts) → ∃ a, σ[i]? = some (some (.ref a)) ∧ LstAt G F H a ts ∧ B.H0 a = none
  mp : ∀ (i : Nat) (ts : List T), s[i]? = some (.mp ts) → ∃ a, σ[i]? = some (some (.ref a)) ∧ LstAt G F H a ts ∧ B.pa = some a
  ne : ∀ (i j : Nat) (x y : Sl) (a b : Addr), i ≠ j → s[i]? = some x → s[j]? = some y → x.own.isSome = true → y.own.isSome = true → σ[i]? = some (some (.ref a)) → σ[j]? = some (some (.ref b)) → a ≠ b
  fr : ∀ b o, B.H0 b = some o → B.pa ≠ some b → H b = some o
  pl : ∀ a, B.pa = some a → ∃ vs, H a = some (.lst vs)
  ph : ∀ a, B.pa = some a → B.H0 a ≠ none
  f0 : Same B.F0 F
  nw : ∀ b, B.F0 b = none → F b ≠ none → B.H0 b = none
  xc : ∀ (i : Nat) (c : Str) (ns : List Str) (ts : List T), s[i]? = some (.xc c ns ts) → ∃ a cls d, B.xa = some (a, cls, d) ∧ σ[i]? = some (some (.ref a)) ∧ (c = Str.empty ∨ ExR G F cls d c ns ts)

section
variable {G : Gx} {B : Fr0} {F F' H H' : Hp} {σ : St} {s : Sls}
theorem SR.own (h : SR G B F H σ s) {i : Nat} {x : Sl} {ts : List T} (e : s[i]? = some x) (o : x.own = some ts) : ∃ a, σ[i]? = some (some (.ref a)) ∧ LstAt G F H a ts ∧ (B.H0 a = none ∨ B.pa = some a) := by
  cases x with
  | un => cases o
  | im t => cases o
  | xc _ _ _ => cases o
  | mu us =>
    cases o
    obtain ⟨a, h1, h2, h3⟩ := h.mu i ts e
    exact ⟨a, h1, h2, .inl h3⟩
  | mp us =>
    cases o
    obtain ⟨a, h1, h2, h3⟩ := h.mp i ts e
    exact ⟨a, h1, h2, .inr h3⟩
theorem LstAt.mono {a : Addr} {ts : List T} (h : LstAt G F H a ts) (e : Same F F') (n : F' a = none) (k : H' a = H a) : LstAt G F' H' a ts := by
  obtain ⟨⟨vs, h1, h2⟩, h3⟩ := h
  exact ⟨⟨vs, k.trans h1, Reps.mono e ts vs h2⟩, n⟩
end
end FL

/-! FL2: the terms and what they are worth. -/
namespace FL
open PySem PySem.Spec L2

/-! ### equality of data -/
mutual
def eqT : T → T → Bool
  | .non, .non => true
  | .bl a, .bl b => a == b
  | .bl a, .int j => (if a then 1 else 0) == j
  | .int i, .bl b => i == (if b then 1 else 0)
  | .int i, .int j => i == j
  | .str x, .str y => x == y
  | .lst xs, .lst ys => eqTs xs ys
  | .tup xs, .tup ys => eqTs xs ys
  | _, _ => false
def eqTs : List T → List T → Bool
  | [], [] => true
  | x :: xs, y :: ys => eqT x y && eqTs xs ys
  | _, _ => false
end
mutual
/-- data of at most this depth, without instances, its texts of plain signs -/
def dat : Nat → T → Bool
  | _, .non => true
  | _, .bl _ => true
  | _, .int _ => true
  | _, .str s => PySem.PyData.strOk s
  | n + 1, .tup ts => dats n ts
  | n + 1, .lst ts => dats n ts
  | _, _ => false
def dats : Nat → List T → Bool
  | _, [] => true
  | n, t :: ts => dat n t && dats n ts
end

/-! ### as the kit's data -/
mutual
def toD : T → PyData
  | .non => .none
  | .bl b => .bool b
  | .int i => .int i
  | .str s => .str s
  | .tup ts => .tuple (toDs ts)
  | .lst ts => .list (toDs ts)
  | .obj _ _ _ => .none
  | .scr _ => .none
def toDs : List T → List PyData
  | [] => []
  | t :: ts => toD t :: toDs ts
end

/-! ### results -/
inductive Rs (α : Type) where
  | ok (a : α) (s : Sls)
  | ex (c : Str) (ns : List Str) (ts : List T) (s : Sls)
  | bad
def Rs.bind {α β : Type} (r : Rs α) (k : α → Sls → Rs β) : Rs β := match r with
  | .ok a s => k a s
  | .ex c ns ts s => .ex c ns ts s
  | .bad => .bad
def Rs.of {α : Type} (o : Option α) (s : Sls) : Rs α := match o with
  | some a => .ok a s
  | none => .bad
/-- a def's result: the value, what has become of the list that it changes -/
inductive FR where
  | ok (t : T) (o : List T)
  | ex (c : Str) (ns : List Str) (ts : List T) (o : List T)
  | bad
structure FS where
  name : Str
  /-- the parameter that is a list which it changes -/
  mu : Option Nat
  /-- it hands back a new list -/
  fresh : Bool
  sem : List T → FR

/-! ### terms -/
inductive Bop where | add | sub | mul | fdiv | mod | pow | shl | shr | band
inductive Cop where | lt | le | gt | ge | eq | ne | isN | notN | inn | nin | isB | notB
inductive Bi where | len | abs | int | str | max2 | min2 | gcd | tuple
  deriving DecidableEq
/-- an argument of a call with keywords: a positional one, a keyword's, a default -/
inductive AK where | p (i : Nat) | k (j : Nat) | d (t : T)
inductive Ty where | int | bool | str | tuple | list | own (c : Str)
inductive Tg where | nm (i : Nat) | tp (gs : List Tg)
mutual
inductive E where
  | var (i : Nat)
  | cst (t : T)
  | glo (x : Str) (t : T)
  | bin (op : Bop) (a b : E)
  | neg (a : E)
  | cmp (op : Cop) (a b : E)
  | cmpB (op : Cop) (a : E) (i : Nat)
  | chn (op op' : Cop) (a b c : E)
  | no (a : E)
  | bo (isAnd : Bool) (es : Es)
  | ite (c : C) (a b : E)
  | tup (es : Es)
  | idx (a b : E)
  | idxB (i : Nat) (b : E)
  | slc (a : E) (lo hi : Oe)
  | fld (a : E) (f : Str)
  | call (g : FS) (as : As) (ds : List T)
  | bi (b : Bi) (es : Es)
  | lenB (i : Nat)
  | tupB (i : Nat)
  | isi (a : E) (one : Bool) (ks : List Ty)
  | frz (m : M)
  | exf (i : Nat) (f : Str) (cs : List Str)
  | stw (a b : E)
  | callK (g : FS) (es ks : Es) (ar : List AK)
  | fst (es : Es)
inductive Es where
  | nil | cons (e : E) (es : Es)
inductive Oe where
  | none | some (e : E)
inductive C where
  | e (e : E)
  | cmp (op : Cop) (a b : E)
  | cmpB (op : Cop) (a : E) (i : Nat)
  | chn (op op' : Cop) (a b c : E)
  | no (c : C)
  | bo (isAnd : Bool) (cs : Cs)
  | trB (i : Nat)
inductive Cs where
  | nil | cons (c : C) (cs : Cs)
inductive M where
  | disp (es : Es)
  | comp (own : List Nat) (g : Tg) (it : It) (cs : Cs) (elt : E)
  | lst (e : E) | lstB (i : Nat)
  | cat (a b : E)
  | rep (a b : E)
  | slc (a : E) (lo hi : Oe)
  | call (g : FS) (as : As) (ds : List T)
  | split (a b : E)
  | srt (e : E)
inductive As where
  | nil | e (e : E) (as : As) | b (i : Nat) (as : As)
inductive It where
  | seq (e : E) | seqB (i : Nat) | rng1 (e : E) | rng2 (a b : E) | enm (e : E) | zip (a b : E)
end
inductive S where
  | asg (g : Tg) (e : E)
  | asgM (i : Nat) (m : M)
  | setI (i : Nat) (k e : E)
  | app (i : Nat) (e : E)
  | expr (e : E)
  | ret (e : E) | retN | retM (m : M) | retB (i : Nat)
  | ifS (c : C) (a b : List S)
  | forS (g : Tg) (it : It) (b : List S)
  | forB (g : Tg) (i : Nat) (b : List S)
  | whl (n : Nat) (c : C) (b : List S)
  | brk | cnt | pass
  | rai (c : Str) (np : Nat) (sel : List (Str × Nat)) (es : Es)
  | tryS (b : List S) (yes no : List Str) (x : Option Nat) (h : List S)

/-! ### operators -/
def big : Nat := 16777216
def MulOk (i j : Int) : Bool := decide (i.natAbs.log2 + j.natAbs.log2 < 1000000)
def bop : Bop → T → T → Option T
  | .add, .int i, .int j => some (.int (i + j))
  | .add, .str x, .str y => if x.length + y.length ≤ big then some (.str (x ++ y)) else none
  | .add, .tup xs, .tup ys => if xs.length + ys.length ≤ big ∧ xs ≠ [] then some (.tup (xs ++ ys)) else none
  | .sub, .int i, .int j => some (.int (i - j))
  | .mul, .int i, .int j => if MulOk i j then some (.int (i * j)) else none
  | .mul, .str x, .int j => if 0 ≤ j ∧ j ≤ 10000 ∧ x.length ≤ 1000 then some (.str (Txt.mul x j)) else none
  | .fdiv, .int i, .int j => if j ≠ 0 ∧ j.natAbs.log2 < 9000 then some (.int (i.fdiv j)) else none
  | .mod, .int i, .int j => if j ≠ 0 then some (.int (i.fmod j)) else none
  | .pow, .int i, .int j => if 0 ≤ j ∧ j ≤ 1000000 ∧ i.natAbs < 2 ^ 64 then some (.int (i ^ j.toNat)) else none
  | _, _, _ => none
/-- what is true of a value -/
def tru : T → Option Bool
  | .non => some false
  | .bl b => some b
  | .int i => some (i != 0)
  | .tup ts => some (!ts.isEmpty)
  | .lst ts => some (!ts.isEmpty)
  | _ => none
def items : T → Option (List T)
  | .tup ts => some ts
  | .lst ts => some ts
  | .scr ts => some ts
  | _ => none
/-- the string's signs, each a text -/
def signs (s : Str) : List T := s.cps.toList.map fun c => .str ⟨#[c]⟩
def inT (x : T) (ts : List T) : Bool := ts.any fun y => eqT y x
def cop : Cop → T → T → Option T
  | .lt, .int i, .int j => some (.bl (decide (i < j)))
  | .le, .int i, .int j => some (.bl (decide (i ≤ j)))
  | .gt, .int i, .int j => some (.bl (decide (j < i)))
  | .ge, .int i, .int j => some (.bl (decide (j ≤ i)))
  | .eq, x, y => if dat 60 x && dat 60 y then some (.bl (eqT x y)) else none
  | .ne, x, y => if dat 60 x && dat 60 y then some (.bl (!eqT x y)) else none
  | .isN, x, .non => some (.bl (match x with | .non => true | _ => false))
  | .notN, x, .non => some (.bl (match x with | .non => false | _ => true))
  | .isB, .bl a, .bl b => some (.bl (decide (a = b)))
  | .notB, .bl a, .bl b => some (.bl (!decide (a = b)))
  | .inn, .str x, .str y => match x.cps.toList with
    | [c] => some (.bl (decide (c ∈ y.cps.toList)))
    | _ => none
  | .nin, .str x, .str y => match x.cps.toList with
    | [c] => some (.bl (!decide (c ∈ y.cps.toList)))
    | _ => none
  | .inn, x, y => match items y with
    | some ts => if dat 60 x && dats 60 ts then some (.bl (inT x ts)) else none
    | none => none
  | .nin, x, y => match items y with
    | some ts => if dat 60 x && dats 60 ts then some (.bl (!inT x ts)) else none
    | none => none
  | _, _, _ => none
def biF : Bi → List T → Option T
  | .len, ts => match ts with
    | [.str s] => if s.length ≤ big then some (.int s.length) else none
    | [.tup ts] => some (.int ts.length)
    | [.lst ts] => some (.int ts.length)
    | [.scr ts] => some (.int ts.length)
    | _ => none
  | .abs, ts => match ts with
    | [.int i] => some (.int (if i < 0 then -i else i))
    | _ => none
  | .int, ts => match ts with
    | [.int i] => some (.int i)
    | [.bl b] => some (.int (if b then 1 else 0))
    | [.str a] => if a.length ≤ 640 then (PySem.intText? a).map .int else none
    | _ => none
  | .str, ts => match ts with
    | [.int i] => if i.natAbs.log2 < 1920 then some (.str (toString i)) else none
    | _ => none
  | .max2, ts => match ts with
    | [.int i, .int j] => some (.int (if j > i then j else i))
    | _ => none
  | .min2, ts => match ts with
    | [.int i, .int j] => some (.int (if j < i then j else i))
    | _ => none
  | .gcd, ts => match ts with
    | [.int a, .int b] => some (.int ((Nat.gcd a.natAbs b.natAbs : Nat) : Int))
    | _ => none
  | .tuple, ts => match ts with
    | [.lst ts] => some (.tup ts)
    | [.tup ts] => some (.tup ts)
    | _ => none
def isTy : T → Ty → Bool
  | .int _, .int => true
  | .bl _, .int => true
  | .bl _, .bool => true
  | .str _, .str => true
  | .tup _, .tuple => true
  | .lst _, .list => true
  | .obj c _ _, .own d => c == d
  | _, _ => false
def idxT : T → T → Option T
  | .tup ts, .int i => atI ts i
  | .lst ts, .int i => atI ts i
  | .str s, .int i => if s.length ≤ big then (atI s.cps.toList i).map fun c => .str ⟨#[c]⟩ else none
  | _, _ => none
def cutT (ts : List T) (lo hi : Option Int) : List T := (ts.drop (HT.sIx ts.length 0 lo)).take (HT.sIx ts.length ts.length hi - HT.sIx ts.length 0 lo)
/-- what can be sorted here -/
def srtOk (ts : List T) : Bool := dats 60 ts && (decide (ts.length ≤ big) && (ts.all (fun t => ts.all fun u => PySem.W.alike (toD t) (toD u)) && (ts.all (fun t => match t with | .tup (_ :: _) => true | _ => false) || ts.all (fun t => match t with | .non => false | .tup _ => false | _ => true))))
def srtT (ts : List T) : List T := ts.mergeSort (PySem.W.dataLe false toD)
/-- a part of an f-string -/
def fmtT : T → Option Str
  | .str y => if y.length ≤ big then some y else none
  | .int i => if i.natAbs.log2 < 1920 then some (toString i) else none
  | _ => none
def arr (ps ks : List T) : List AK → Option (List T)
  | [] => some []
  | .p i :: r => match ps[i]?, arr ps ks r with | some t, some ts => some (t :: ts) | _, _ => none
  | .k j :: r => match ks[j]?, arr ps ks r with | some t, some ts => some (t :: ts) | _, _ => none
  | .d t :: r => match arr ps ks r with | some ts => some (t :: ts) | _ => none
def fldT (f : Str) : List Str → List T → Option T
  | n :: ns, t :: ts => if n = f then some t else fldT f ns ts
  | _, _ => none

/-! ### slots -/
def getV (s : Sls) (i : Nat) : Rs T := match s[i]? with
  | some (.im t) => .ok t s
  | some (.mu ts) => .ok (.lst ts) (s.set i (.im (.lst ts)))
  | _ => .bad
def ownAt (s : Sls) (i : Nat) : Option (List T) := match s[i]? with
  | some x => x.own
  | none => none
def putOwn (s : Sls) (i : Nat) (ts : List T) : Sls := match s[i]? with
  | some (.mu _) => s.set i (.mu ts)
  | some (.mp _) => s.set i (.mp ts)
  | _ => s
def isMp (s : Sls) (i : Nat) : Bool := match s[i]? with
  | some (.mp _) => true
  | none => true
  | _ => false
mutual
def setTg : Tg → T → Sls → Option Sls
  | .nm i, t, s => if isMp s i then none else some (s.set i (.im t))
  | .tp gs, t, s => match t with
    | .tup ts => setTgs gs ts s
    | .lst ts => setTgs gs ts s
    | _ => none
def setTgs : List Tg → List T → Sls → Option Sls
  | [], [], s => some s
  | g :: gs, t :: ts, s => match setTg g t s with
    | some s1 => setTgs gs ts s1
    | none => none
  | _, _, _ => none
end
/-- an argument: a value, or a slot's own list -/
inductive AV where | v (t : T) | r (i : Nat)
def fill : List AV → Sls → Option (List T)
  | [], _ => some []
  | .v t :: r, s => (fill r s).map (t :: ·)
  | .r i :: r, s => match ownAt s i with
    | some ts => (fill r s).map (.lst ts :: ·)
    | none => none
/-- the slots that are lent, but for the one that is changed -/
def lent : List AV → Nat → Option Nat → List Nat
  | [], _, _ => []
  | .v _ :: r, k, m => lent r (k + 1) m
  | .r i :: r, k, m => if m = some k then lent r (k + 1) m else i :: lent r (k + 1) m
def muAt (avs : List AV) (m : Option Nat) : Option (Option Nat) := match m with
  | none => some none
  | some p => match avs[p]? with
    | some (.r i) => some (some i)
    | _ => none
/-- nothing that was lent is within -/
def retOk (l : List Nat) (o : List T) (fin : Bool) (t : T) : Bool := l.isEmpty || (noLs o && (if fin then (match t with | .lst us => noLs us | _ => false) else noL t))
def excOk (l : List Nat) (o es : List T) : Bool := l.isEmpty || (noLs o && noLs es)
def putMi (s : Sls) (o : List T) : Option Nat → Sls
  | some i => putOwn s i o
  | none => s
def hasMi (l : List Nat) : Option Nat → Bool
  | some i => l.contains i
  | none => false
/-- a call: what comes of it for the slots -/
def after (g : FS) (avs : List AV) (ds : List T) (s : Sls) (fin : Bool) : Rs T := match fill avs s, muAt avs g.mu with
  | some ts, some m =>
    let l := lent avs 0 g.mu
    if hasMi l m then .bad else
    match g.sem (ts ++ ds) with
    | .ok t o =>
      if retOk l o fin t then .ok t (putMi s o m) else .bad
    | .ex c ns es o => if excOk l o es then .ex c ns es (putMi s o m) else .bad
    | .bad => .bad
  | _, _ => .bad

/-! ### evaluation -/
/-- a comprehension's turns -/
def compL (own : List Nat) (s0 : Sls) (g : Tg) (tst : Sls → Rs Bool) (elt : Sls → Rs T) : List T → List T → Sls → Rs (List T)
  | [], acc, s => .ok acc s
  | x :: xs, acc, s => match setTg g x s with
    | some s1 => match tst s1 with
      | .ok true s2 => match elt s2 with
        | .ok y s3 => if acc.length < big then compL own s0 g tst elt xs (acc ++ [y]) (wipeS s3 own) else .bad
        | _ => .bad
      | .ok false s2 => compL own s0 g tst elt xs acc (wipeS s2 own)
      | _ => .bad
    | none => .bad
where
  wipeS (s : Sls) : List Nat → Sls
    | [] => s
    | i :: r => (wipeS s r).set i .un
abbrev wipeS := compL.wipeS
/-- the own slots as they stood -/
def backS (s0 s : Sls) : List Nat → Sls
  | [] => s
  | i :: r => (backS s0 s r).set i (match s0[i]? with | some x => x | none => .un)
def noOwn (s : Sls) : List Nat → Bool
  | [] => true
  | i :: r => (ownAt s i).isNone && noOwn s r
def isB (o : Option T) (s : Sls) : Rs Bool := match o with
  | some (.bl b) => .ok b s
  | _ => .bad
def truR (t : T) (s : Sls) : Rs Bool := Rs.of (tru t) s
mutual
def evE : E → Sls → Rs T
  | .var i, s => getV s i
  | .cst t, s => .ok t s
  | .glo _ t, s => .ok t s
  | .bin op a b, s => (evE a s).bind fun x s => (evE b s).bind fun y s => Rs.of (bop op x y) s
  | .neg a, s => (evE a s).bind fun x s => match x with | .int i => .ok (.int (-i)) s | _ => .bad
  | .cmp op a b, s => (evE a s).bind fun x s => (evE b s).bind fun y s => Rs.of (cop op x y) s
  | .cmpB op a i, s => (evE a s).bind fun x s => match ownAt s i with | some ts => Rs.of (cop op x (.lst ts)) s | none => .bad
  | .chn op op' a b c, s => (evE a s).bind fun x s => (evE b s).bind fun y s => match cop op x y with
    | some (.bl true) => (evE c s).bind fun z s => Rs.of (cop op' y z) s
    | some (.bl false) => .ok (.bl false) s
    | _ => .bad
  | .no a, s => (evE a s).bind fun x s => (truR x s).bind fun b s => .ok (.bl (!b)) s
  | .bo isAnd es, s => evBo isAnd es s
  | .ite c a b, s => (evC c s).bind fun k s => if k then evE a s else evE b s
  | .tup es, s => (evEs es s).bind fun ts s => if ts.length ≤ big then .ok (.tup ts) s else .bad
  | .idx a b, s => (evE a s).bind fun x s => (evE b s).bind fun y s => Rs.of (idxT x y) s
  | .idxB i b, s => match ownAt s i with
    | some _ => (evE b s).bind fun y s => match ownAt s i with | some ts => Rs.of (idxT (.lst ts) y) s | none => .bad
    | none => .bad
  | .slc a lo hi, s => (evE a s).bind fun x s => (evO lo s).bind fun l s => (evO hi s).bind fun h s => match x with
    | .tup ts => if HT.sIx ts.length 0 l = 0 ∧ HT.sIx ts.length ts.length h = ts.length then .bad else .ok (.tup (cutT ts l h)) s
    | .str z => if z.length ≤ big then .ok (.str (cutS z l h)) s else .bad
    | _ => .bad
  | .fld a f, s => (evE a s).bind fun x s => match x with | .obj _ ns ts => Rs.of (fldT f ns ts) s | _ => .bad
  | .call g as ds, s => if g.fresh then .bad else (evAs as s).bind fun avs s => after g avs ds s false
  | .bi b es, s => (evEs es s).bind fun ts s => Rs.of (biF b ts) s
  | .lenB i, s => match ownAt s i with | some ts => .ok (.int ts.length) s | none => .bad
  | .tupB i, s => match ownAt s i with | some ts => .ok (.tup ts) s | none => .bad
  | .isi a _ ks, s => (evE a s).bind fun x s => match x with
    | .scr _ => .bad
    | _ => .ok (.bl (ks.any (isTy x))) s
  | .frz m, s => (evM m s).bind fun ts s => .ok (.lst ts) s
  | .exf i f cs, s => match s[i]? with
    | some (.xc c ns ts) => if cs.contains c then Rs.of (fldT f ns ts) s else .bad
    | _ => .bad
  | .stw a b, s => (evE a s).bind fun x s => match x with
    | .str u => (evE b s).bind fun y s => match y with
      | .str v => .ok (.bl (Txt.startswith u v)) s
      | _ => .bad
    | _ => .bad
  | .callK g es ks ar, s => if g.fresh || g.mu.isSome then .bad else (evEs es s).bind fun ps s => (evEs ks s).bind fun kv s => match arr ps kv ar with
    | some ts => (match g.sem ts with
      | .ok t _ => .ok t s
      | _ => .bad)
    | none => .bad
  | .fst es, s => (evJs es Str.empty s).bind fun z s => .ok (.str z) s
def evJs : Es → Str → Sls → Rs Str
  | .nil, acc, s => .ok acc s
  | .cons e es, acc, s => (evE e s).bind fun x s => match fmtT x with
    | some y => if (acc ++ y).length ≤ big then evJs es (acc ++ y) s else .bad
    | none => .bad
def evBo (isAnd : Bool) : Es → Sls → Rs T
  | .nil, s => .bad
  | .cons e .nil, s => evE e s
  | .cons e es, s => (evE e s).bind fun x s => match x with
    | .bl b => if b = isAnd then evBo isAnd es s else .ok (.bl b) s
    | _ => .bad
def evEs : Es → Sls → Rs (List T)
  | .nil, s => .ok [] s
  | .cons e es, s => (evE e s).bind fun x s => (evEs es s).bind fun xs s => .ok (x :: xs) s
def evO : Oe → Sls → Rs (Option Int)
  | .none, s => .ok none s
  | .some e, s => (evE e s).bind fun x s => match x with | .int i => .ok (some i) s | _ => .bad
def evC : C → Sls → Rs Bool
  | .e e, s => (evE e s).bind truR
  | .cmp op a b, s => (evE a s).bind fun x s => (evE b s).bind fun y s => isB (cop op x y) s
  | .cmpB op a i, s => (evE a s).bind fun x s => match ownAt s i with | some ts => isB (cop op x (.lst ts)) s | none => .bad
  | .chn op op' a b c, s => (evE a s).bind fun x s => (evE b s).bind fun y s => match cop op x y with
    | some (.bl true) => (evE c s).bind fun z s => isB (cop op' y z) s
    | some (.bl false) => .ok false s
    | _ => .bad
  | .no c, s => (evC c s).bind fun b s => .ok (!b) s
  | .bo isAnd cs, s => evCs isAnd cs s
  | .trB i, s => match ownAt s i with | some ts => .ok (!ts.isEmpty) s | none => .bad
def evCs (isAnd : Bool) : Cs → Sls → Rs Bool
  | .nil, s => .bad
  | .cons c .nil, s => evC c s
  | .cons c cs, s => (evC c s).bind fun b s => if b = isAnd then evCs isAnd cs s else .ok b s
/-- the tests of a comprehension -/
def evTs : Cs → Sls → Rs Bool
  | .nil, s => .ok true s
  | .cons c .nil, s => evC c s
  | .cons _ _, s => .bad
def evM : M → Sls → Rs (List T)
  | .disp es, s => (evEs es s).bind fun ts s => if ts.length ≤ big then .ok ts s else .bad
  | .comp own g it cs elt, s => (evIt it s).bind fun xs s1 =>
    if noOwn s1 own then (compL own s1 g (evTs cs) (evE elt) xs [] (wipeS s1 own)).bind fun ts s2 => .ok ts (backS s1 s2 own) else .bad
  | .lst e, s => (evE e s).bind fun x s => Rs.of (items x) s
  | .lstB i, s => Rs.of (ownAt s i) s
  | .cat a b, s => (evE a s).bind fun x s => (evE b s).bind fun y s => match x, y with
    | .lst xs, .lst ys => if xs.length + ys.length ≤ big then .ok (xs ++ ys) s else .bad
    | _, _ => .bad
  | .rep a b, s => (evE a s).bind fun x s => (evE b s).bind fun y s => match x, y with
    | .lst xs, .int k => if -(2 ^ 63) ≤ k ∧ k < 2 ^ 63 ∧ xs.length * k.toNat ≤ big then .ok (List.replicate k.toNat xs).flatten s else .bad
    | _, _ => .bad
  | .slc a lo hi, s => (evE a s).bind fun x s => (evO lo s).bind fun l s => (evO hi s).bind fun h s => match x with
    | .lst ts => .ok (cutT ts l h) s
    | _ => .bad
  | .call g as ds, s => if g.fresh then (evAs as s).bind fun avs s => (after g avs ds s true).bind fun t s => match t with
    | .lst ts => .ok ts s
    | _ => .bad else .bad
  | .split a b, s => (evE a s).bind fun x s => match x with
    | .str u => (evE b s).bind fun y s => match y with
      | .str v => if 0 < v.length ∧ u.length ≤ 1000000 then .ok ((Txt.split u v).map .str) s else .bad
      | _ => .bad
    | _ => .bad
  | .srt e, s => (evE e s).bind fun x s => match x with
    | .lst ts => if srtOk ts then .ok (srtT ts) s else .bad
    | _ => .bad
def evAs : As → Sls → Rs (List AV)
  | .nil, s => .ok [] s
  | .e e as, s => (evE e s).bind fun x s => (evAs as s).bind fun xs s => .ok (.v x :: xs) s
  | .b i as, s => match ownAt s i with
    | some _ => (evAs as s).bind fun xs s => .ok (.r i :: xs) s
    | none => .bad
def evIt : It → Sls → Rs (List T)
  | .seq e, s => (evE e s).bind fun x s => match x with
    | .str z => .ok (signs z) s
    | _ => Rs.of (items x) s
  | .seqB i, s => .bad
  | .rng1 e, s => (evE e s).bind fun x s => match x with
    | .int j => if -(2 ^ 62) ≤ j ∧ j < 2 ^ 62 then .ok ((List.range j.toNat).map fun k => .int (k : Nat)) s else .bad
    | _ => .bad
  | .rng2 a b, s => (evE a s).bind fun x s => (evE b s).bind fun y s => match x, y with
    | .int i, .int j => if -(2 ^ 62) ≤ i ∧ i < 2 ^ 62 ∧ -(2 ^ 62) ≤ j ∧ j < 2 ^ 62 then .ok ((List.range (j - i).toNat).map fun k => .int (i + (k : Nat))) s else .bad
    | _, _ => .bad
  | .enm e, s => (evE e s).bind fun x s => match x with
    | .lst ts => .ok (ts.zipIdx.map fun p => .tup [.int (p.2 : Nat), p.1]) s
    | _ => .bad
  | .zip a b, s => (evE a s).bind fun x s => (evE b s).bind fun y s => match x, y with
    | .lst xs, .lst ys => .ok ((xs.zip ys).map fun p => .tup [p.1, p.2]) s
    | _, _ => .bad
end

/-! ### statements -/
inductive SO where
  | nx (s : Sls) | brk (s : Sls) | cnt (s : Sls) | ret (t : T) (s : Sls) | retF (ts : List T) (s : Sls)
  | ex (c : Str) (ns : List Str) (ts : List T) (s : Sls) | bad
def Rs.so {α : Type} (r : Rs α) (k : α → Sls → SO) : SO := match r with
  | .ok a s => k a s
  | .ex c ns ts s => .ex c ns ts s
  | .bad => .bad
def SO.then (r : SO) (k : Sls → SO) : SO := match r with
  | .nx s => k s
  | r => r
def forL (g : Tg) (body : Sls → SO) : List T → Sls → SO
  | [], s => .nx s
  | x :: xs, s => match setTg g x s with
    | none => .bad
    | some s1 => match body s1 with
      | .nx s2 => forL g body xs s2
      | .cnt s2 => forL g body xs s2
      | .brk s2 => .nx s2
      | r => r
def whileL (c : Sls → Rs Bool) (body : Sls → SO) : Nat → Sls → SO
  | 0, _ => .bad
  | n + 1, s => (c s).so fun b s1 => if b then (match body s1 with
      | .nx s2 => whileL c body n s2
      | .cnt s2 => whileL c body n s2
      | .brk s2 => .nx s2
      | r => r) else .nx s1
def noXc : Sls → Bool
  | [] => true
  | .xc _ _ _ :: _ => false
  | _ :: r => noXc r
def noEx : SO → SO
  | .ex _ _ _ _ => .bad
  | r => r
/-- behind a suite: the caught exception is forgotten -/
def leaveX (i : Nat) : SO → SO
  | .nx s => if noXc (s.set i .un) then .nx (s.set i .un) else .bad
  | .brk s => if noXc (s.set i .un) then .brk (s.set i .un) else .bad
  | .cnt s => if noXc (s.set i .un) then .cnt (s.set i .un) else .bad
  | .ret t s => if noXc (s.set i .un) then .ret t (s.set i .un) else .bad
  | .retF ts s => .bad
  | .ex c ns ts s => .bad
  | .bad => .bad
/-- the slot's list is held -/
def heldX (i : Nat) (s : Sls) : Bool := (match s[i]? with | some (.xc c _ _) => decide (c = Str.empty) | _ => false) && noXc (s.set i .un)
/-- behind a loop over a slot's own list -/
def finB (i : Nat) (ts : List T) : SO → SO
  | .nx s => if heldX i s then .nx (s.set i (.mu ts)) else .bad
  | .ret t s => if heldX i s then .ret t (s.set i .un) else .bad
  | .ex c ns es s => if heldX i s then .ex c ns es (s.set i .un) else .bad
  | _ => .bad
/-- the fields that are picked of the arguments -/
def selV {α : Type} (sel : List (Str × Nat)) (ts : List α) : Option (List α) := sel.mapM fun p => ts[p.2]?
mutual
def evS : S → Sls → SO
  | .asg g e, s => (evE e s).so fun t s => match setTg g t s with | some s => .nx s | none => .bad
  | .asgM i m, s => (evM m s).so fun ts s => if isMp s i then .bad else .nx (s.set i (.mu ts))
  | .setI i k e, s => (evE e s).so fun t s => match ownAt s i with
    | some _ => (evE k s).so fun x s => match ownAt s i, x with
      | some ts, .int j => (match ixN ts.length j with | some n => .nx (putOwn s i (ts.set n t)) | none => .bad)
      | _, _ => .bad
    | none => .bad
  | .app i e, s => match ownAt s i with
    | some _ => (evE e s).so fun t s => match ownAt s i with
      | some ts => if ts.length < big then .nx (putOwn s i (ts ++ [t])) else .bad
      | none => .bad
    | none => .bad
  | .expr e, s => (evE e s).so fun _ s => .nx s
  | .ret e, s => (evE e s).so fun t s => .ret t s
  | .retN, s => .ret .non s
  | .retM m, s => (evM m s).so fun ts s => .retF ts s
  | .retB i, s => match s[i]? with
    | some (.mu ts) => .retF ts (s.set i .un)
    | _ => .bad
  | .ifS c a b, s => (evC c s).so fun k s => if k then evSs a s else evSs b s
  | .forS g it b, s => (evIt it s).so fun xs s => forL g (evSs b) xs s
  | .forB g i b, s => match s[i]? with
    | some (.mu ts) => finB i ts (forL g (evSs b) ts (s.set i (.xc Str.empty [] [])))
    | _ => .bad
  | .whl n c b, s => whileL (evC c) (evSs b) n s
  | .brk, s => .brk s
  | .cnt, s => .cnt s
  | .pass, s => .nx s
  | .rai c np sel es, s => (evEs es s).so fun ts s => if ts.length = np then (match selV sel ts with | some us => .ex c (sel.map (·.1)) us s | none => .bad) else .bad
  | .tryS b yes no x h, s => match evSs b s with
    | .ex c ns ts s1 => if yes.contains c then (match x with
        | none => noEx (evSs h s1)
        | some i => if isMp s1 i then .bad else leaveX i (evSs h (s1.set i (.xc c ns ts)))) else if no.contains c then .ex c ns ts s1 else .bad
    | r => r
def evSs : List S → Sls → SO
  | [], s => .nx s
  | x :: xs, s => (evS x s).then (evSs xs)
end

/-! ### a def -/
def startS : Option Nat → List T → Nat → Option Sls
  | _, [], _ => some []
  | m, t :: ts, k => if m = some k then (match t with
      | .lst us => (startS m ts (k + 1)).map (.mp us :: ·)
      | _ => none) else (startS m ts (k + 1)).map (.im t :: ·)
def outS (m : Option Nat) (s : Sls) : Option (List T) := match m with
  | none => some []
  | some p => match s[p]? with
    | some (.mp o) => some o
    | _ => none
/-- n slots behind np parameters -/
def mkSem (np n : Nat) (m : Option Nat) (fresh : Bool) (body : List S) (ts : List T) : FR :=
  if ts.length = np then match startS m ts 0 with
    | some s0 => match evSs body (s0 ++ List.replicate n .un) with
      | .ret t s => if fresh then .bad else (match outS m s with | some o => .ok t o | none => .bad)
      | .retF us s => if fresh then (match outS m s with | some o => .ok (.lst us) o | none => .bad) else .bad
      | .nx s => if fresh then .bad else (match outS m s with | some o => .ok .non o | none => .bad)
      | .ex c ns es s => (match outS m s with | some o => .ex c ns es o | none => .bad)
      | _ => .bad
    | none => .bad
  else .bad
end FL

/-! FL3: readings of the terms, the lemmas of binding and growing. -/
namespace FL
open PySem PySem.Spec L2

/-- the heap has grown -/
structure Grow (F H F' H' : Hp) : Prop where
  ff : Same F F'
  sub : Same F' H'
  hh : Same H H'
  new : ∀ b, F b = none → F' b ≠ none → H b = none
theorem Grow.refl {F H : Hp} (h : Same F H) : Grow F H F H := ⟨.refl _, h, .refl _, fun _ e n => (n e).elim⟩
theorem Grow.trans {F H F1 H1 F2 H2 : Hp} (a : Grow F H F1 H1) (b : Grow F1 H1 F2 H2) : Grow F H F2 H2 :=
  ⟨a.ff.trans b.ff, b.sub, a.hh.trans b.hh, fun c e n => by
    by_cases q : F1 c = none
    · exact a.hh.free (b.new c q n)
    · exact a.new c e q⟩
/-- a new object that never changes -/
theorem Grow.laid {F H : Hp} {p : Addr} {o : HO} (h : Same F H) (n : H p = none) : Grow F H (upd F p o) (upd H p o) := by
  have nF : F p = none := h.free n
  refine ⟨fun b u e => ?_, fun b u e => ?_, fun b u e => ?_, fun b e q => ?_⟩
  · by_cases z : b = p
    · subst z; rw [nF] at e; cases e
    · rw [upd_ne z]; exact e
  · by_cases z : b = p
    · subst z; rw [upd_same] at e ⊢; exact e
    · rw [upd_ne z] at e ⊢; exact h _ _ e
  · by_cases z : b = p
    · subst z; rw [n] at e; cases e
    · rw [upd_ne z]; exact e
  · by_cases z : b = p
    · subst z; exact n
    · rw [upd_ne z] at q; exact (q e).elim
/-- a new object that may change -/
theorem Grow.put {F H : Hp} {p : Addr} {o : HO} (h : Same F H) (n : H p = none) : Grow F H F (upd H p o) := by
  refine ⟨.refl _, fun b u e => ?_, fun b u e => ?_, fun b e q => (q e).elim⟩
  · by_cases z : b = p
    · subst z; rw [h _ _ e] at n; cases n
    · rw [upd_ne z]; exact h _ _ e
  · by_cases z : b = p
    · subst z; rw [n] at e; cases e
    · rw [upd_ne z]; exact e

section
variable {G : Gx} {B : Fr0} {F F' H H' : Hp} {σ : L2.St} {s : Sls}
/-- a free place was free at the entry -/
theorem SR.free0 (h : SR G B F H σ s) {b : Addr} (e : H b = none) : B.H0 b = none := by
  cases q : B.H0 b with
  | none => rfl
  | some o =>
    by_cases z : B.pa = some b
    · obtain ⟨vs, k⟩ := h.pl b z
      rw [e] at k
      cases k
    · rw [h.fr b o q z] at e
      cases e
theorem SR.grow (h : SR G B F H σ s) (g : Grow F H F' H') : SR G B F' H' σ s := by
  have own : ∀ {a : Addr} {ts : List T}, LstAt G F H a ts → LstAt G F' H' a ts := fun {a ts} l => by
    obtain ⟨⟨vs, h1, h2⟩, h3⟩ := id l
    refine ⟨⟨vs, g.hh _ _ h1, Reps.mono g.ff ts vs h2⟩, ?_⟩
    by_cases q : F' a = none
    · exact q
    · have z := g.new a h3 q
      rw [h1] at z; cases z
  refine ⟨g.sub, h.len, fun i t e => ?_, fun i ts e => ?_, fun i ts e => ?_, h.ne, fun b o e n => g.hh _ _ (h.fr b o e n), fun a e => let ⟨vs, q⟩ := h.pl a e; ⟨vs, g.hh _ _ q⟩, h.ph, h.f0.trans g.ff, fun b e n => ?_, fun i c ns ts e => let ⟨a, cls, d, h1, h2, h3⟩ := h.xc i c ns ts e; ⟨a, cls, d, h1, h2, h3.imp id fun z => z.mono g.ff⟩⟩
  case refine_4 =>
    by_cases q : F b = none
    · exact h.free0 (g.new b q n)
    · exact h.nw b e q
  · obtain ⟨v, h1, h2⟩ := h.im i t e
    exact ⟨v, h1, Rep.mono g.ff t v h2⟩
  · obtain ⟨a, h1, h2, h3⟩ := h.mu i ts e
    exact ⟨a, h1, own h2, h3⟩
  · obtain ⟨a, h1, h2, h3⟩ := h.mp i ts e
    exact ⟨a, h1, own h2, h3⟩
/-- the slot's list is given up: it never changes again -/
theorem SR.freeze (h : SR G B F H σ s) {i : Nat} {ts : List T} (e : s[i]? = some (.mu ts)) : ∃ a, σ[i]? = some (some (.ref a)) ∧ ∃ F', Grow F F F' F' ∧ Same F F' ∧ SR G B F' H σ (s.set i (.im (.lst ts))) ∧ Rep G F' (.ref a) (.lst ts) := by
  obtain ⟨a, h1, ⟨⟨vs, h2, h3⟩, h4⟩, h5⟩ := h.mu i ts e
  have sF : Same F (upd F a (.lst vs)) := fun b u q => by
    by_cases z : b = a
    · subst z; rw [h4] at q; cases q
    · rw [upd_ne z]; exact q
  have own : ∀ {b : Addr} {us : List T}, b ≠ a → LstAt G F H b us → LstAt G (upd F a (.lst vs)) H b us := fun {b us} nb l => by
    obtain ⟨⟨ws, k1, k2⟩, k3⟩ := l
    exact ⟨⟨ws, k1, Reps.mono sF us ws k2⟩, by rw [upd_ne nb]; exact k3⟩
  have hi : i < s.length := (List.getElem?_eq_some_iff.mp e).1
  have old : ∀ {j : Nat} {x : Sl}, (s.set i (.im (.lst ts)))[j]? = some x → (j = i ∧ x = .im (.lst ts)) ∨ (j ≠ i ∧ s[j]? = some x) := fun {j x} q => by
    by_cases z : j = i
    · subst z
      rw [List.getElem?_set_self hi] at q
      exact .inl ⟨rfl, (Option.some.inj q).symm⟩
    · rw [List.getElem?_set_ne (Ne.symm z)] at q
      exact .inr ⟨z, q⟩
  have rep : Rep G (upd F a (.lst vs)) (.ref a) (.lst ts) := by
    simp only [Rep]
    exact ⟨a, vs, rfl, upd_same, Reps.mono sF ts vs h3⟩
  refine ⟨a, h1, _, ⟨sF, .refl _, sF, fun b e' q => e'⟩, sF, ⟨fun b u q => ?_, by rw [List.length_set]; exact h.len, fun j t q => ?_, fun j us q => ?_, fun j us q => ?_, fun j k x y b c ne q r ox oy sj sk => ?_, h.fr, h.pl, h.ph, h.f0.trans sF, fun b e' n => ?_, fun j c ns ts q => by
    rcases old q with ⟨_, q'⟩ | ⟨_, q'⟩
    · cases q'
    · obtain ⟨a, cls, d, k1, k2, k3⟩ := h.xc j c ns ts q'; exact ⟨a, cls, d, k1, k2, k3.imp id fun z => z.mono sF⟩⟩, rep⟩
  · by_cases z : b = a
    · subst z; rw [upd_same] at q; cases q; exact h2
    · rw [upd_ne z] at q; exact h.sub _ _ q
  · rcases old q with ⟨rfl, q'⟩ | ⟨nj, q'⟩
    · cases q'
      exact ⟨_, h1, rep⟩
    · obtain ⟨v, k1, k2⟩ := h.im j t q'
      exact ⟨v, k1, Rep.mono sF t v k2⟩
  · rcases old q with ⟨rfl, q'⟩ | ⟨nj, q'⟩
    · cases q'
    · obtain ⟨b, k1, k2, k3⟩ := h.mu j us q'
      exact ⟨b, k1, own (h.ne j i _ _ b a nj q' e rfl rfl k1 h1) k2, k3⟩
  · rcases old q with ⟨rfl, q'⟩ | ⟨nj, q'⟩
    · cases q'
    · obtain ⟨b, k1, k2, k3⟩ := h.mp j us q'
      exact ⟨b, k1, own (h.ne j i _ _ b a nj q' e rfl rfl k1 h1) k2, k3⟩
  · rcases old q with ⟨rfl, q'⟩ | ⟨nj, q'⟩
    · subst q'; cases ox
    · rcases old r with ⟨rfl, r'⟩ | ⟨nk, r'⟩
      · subst r'; cases oy
      · exact h.ne j k x y b c ne q' r' ox oy sj sk
  · by_cases z : b = a
    · subst z; exact h5
    · rw [upd_ne z] at n; exact h.nw b e' n
/-- a slot's own list is changed -/
theorem SR.write (h : SR G B F H σ s) {i : Nat} {a : Addr} {x : Sl} {ts us : List T} {ws : List V} (e : s[i]? = some x) (o : x.own = some ts) (ha : σ[i]? = some (some (.ref a))) (hw : Reps G F ws us) : SR G B F (upd H a (.lst ws)) σ (putOwn s i us) := by
  obtain ⟨a', h1, ⟨⟨vs, h2, h3⟩, h4⟩, h5⟩ := h.own e o
  obtain rfl : a' = a := by rw [ha] at h1; cases h1; rfl
  have hi : i < s.length := (List.getElem?_eq_some_iff.mp e).1
  have keep : ∀ b u, b ≠ a' → H b = some u → upd H a' (.lst ws) b = some u := fun b u n q => by rw [upd_ne n]; exact q
  have own : ∀ {b : Addr} {zs : List T}, b ≠ a' → LstAt G F H b zs → LstAt G F (upd H a' (.lst ws)) b zs := fun {b zs} nb l => by
    obtain ⟨⟨ws, k1, k2⟩, k3⟩ := l
    exact ⟨⟨ws, keep _ _ nb k1, k2⟩, k3⟩
  have self : LstAt G F (upd H a' (.lst ws)) a' us := ⟨⟨ws, upd_same, hw⟩, h4⟩
  have isome : x.own.isSome = true := by rw [o]; rfl
  have old : ∀ {j : Nat} {y : Sl}, (putOwn s i us)[j]? = some y → (j = i ∧ ((∃ z, x = .mu z ∧ y = .mu us) ∨ (∃ z, x = .mp z ∧ y = .mp us))) ∨ (j ≠ i ∧ s[j]? = some y) := fun {j y} q => by
    unfold putOwn at q
    rw [e] at q
    by_cases z : j = i
    · subst z
      cases x with
      | un => cases o
      | im t => cases o
      | xc _ _ _ => cases o
      | mu w =>
        have q : (s.set j (.mu us))[j]? = some y := q
        rw [List.getElem?_set_self hi] at q
        exact .inl ⟨rfl, .inl ⟨w, rfl, (Option.some.inj q).symm⟩⟩
      | mp w =>
        have q : (s.set j (.mp us))[j]? = some y := q
        rw [List.getElem?_set_self hi] at q
        exact .inl ⟨rfl, .inr ⟨w, rfl, (Option.some.inj q).symm⟩⟩
    · refine .inr ⟨z, ?_⟩
      cases x with
      | un => exact q
      | im t => exact q
      | xc _ _ _ => exact q
      | mu w =>
        have q : (s.set i (.mu us))[j]? = some y := q
        rw [List.getElem?_set_ne (Ne.symm z)] at q
        exact q
      | mp w =>
        have q : (s.set i (.mp us))[j]? = some y := q
        rw [List.getElem?_set_ne (Ne.symm z)] at q
        exact q
  have lenp : (putOwn s i us).length = s.length := by
    unfold putOwn
    rw [e]
    cases x <;> simp
  refine ⟨fun b u q => ?_, by rw [lenp]; exact h.len, fun j t q => ?_, fun j zs q => ?_, fun j zs q => ?_, fun j k y z b c ne q r ox oy sj sk => ?_, fun b u q n => ?_, fun b q => ?_, h.ph, h.f0, h.nw, fun j c ns ts q => by
    rcases old q with ⟨_, ⟨_, _, q'⟩ | ⟨_, _, q'⟩⟩ | ⟨_, q'⟩
    · cases q'
    · cases q'
    · exact h.xc j c ns ts q'⟩
  · have nb : b ≠ a' := fun z => by subst z; rw [h4] at q; cases q
    exact keep b u nb (h.sub _ _ q)
  · rcases old q with ⟨rfl, ⟨z, _, q'⟩ | ⟨z, _, q'⟩⟩ | ⟨nj, q'⟩
    · cases q'
    · cases q'
    · exact h.im j t q'
  · rcases old q with ⟨rfl, ⟨z, ex, q'⟩ | ⟨z, _, q'⟩⟩ | ⟨nj, q'⟩
    · cases q'
      subst ex
      obtain ⟨b, k1, _, k3⟩ := h.mu j z e
      rw [ha] at k1; cases k1
      exact ⟨a', ha, self, k3⟩
    · cases q'
    · obtain ⟨b, k1, k2, k3⟩ := h.mu j zs q'
      exact ⟨b, k1, own (h.ne j i _ _ b a' nj q' e rfl isome k1 ha) k2, k3⟩
  · rcases old q with ⟨rfl, ⟨z, _, q'⟩ | ⟨z, ex, q'⟩⟩ | ⟨nj, q'⟩
    · cases q'
    · cases q'
      subst ex
      obtain ⟨b, k1, _, k3⟩ := h.mp j z e
      rw [ha] at k1; cases k1
      exact ⟨a', ha, self, k3⟩
    · obtain ⟨b, k1, k2, k3⟩ := h.mp j zs q'
      exact ⟨b, k1, own (h.ne j i _ _ b a' nj q' e rfl isome k1 ha) k2, k3⟩
  · have back : ∀ {j : Nat} {y : Sl}, (putOwn s i us)[j]? = some y → y.own.isSome = true → ∃ y', s[j]? = some y' ∧ y'.own.isSome = true := fun {j y} q oy => by
      rcases old q with ⟨rfl, _⟩ | ⟨nj, q⟩
      · exact ⟨x, e, isome⟩
      · exact ⟨y, q, oy⟩
    obtain ⟨y', q1, q2⟩ := back q ox
    obtain ⟨z', r1, r2⟩ := back r oy
    exact h.ne j k y' z' b c ne q1 r1 q2 r2 sj sk
  · have nb : b ≠ a' := fun z => by
      subst z
      rcases h5 with h5 | h5
      · rw [h5] at q; cases q
      · exact n h5
    exact keep b u nb (h.fr b u q n)
  · by_cases z : b = a'
    · subst z
      exact ⟨ws, upd_same⟩
    · obtain ⟨vs', q'⟩ := h.pl b q
      exact ⟨vs', keep b _ z q'⟩
/-- a slot is set -/
theorem SR.setIm (h : SR G B F H σ s) {i : Nat} {v : V} {t : T} (hi : i < s.length) (r : Rep G F v t) : SR G B F H (σ.set i (some v)) (s.set i (.im t)) := by
  have hi' : i < σ.length := by rw [← h.len]; exact hi
  have old : ∀ {j : Nat} {x : Sl}, (s.set i (.im t))[j]? = some x → (j = i ∧ x = .im t) ∨ (j ≠ i ∧ s[j]? = some x) := fun {j x} q => by
    by_cases z : j = i
    · subst z
      rw [List.getElem?_set_self hi] at q
      exact .inl ⟨rfl, (Option.some.inj q).symm⟩
    · rw [List.getElem?_set_ne (Ne.symm z)] at q
      exact .inr ⟨z, q⟩
  have sg : ∀ {j : Nat}, j ≠ i → (σ.set i (some v))[j]? = σ[j]? := fun {j} n => List.getElem?_set_ne (Ne.symm n)
  refine ⟨h.sub, by rw [List.length_set, List.length_set]; exact h.len, fun j u q => ?_, fun j us q => ?_, fun j us q => ?_, fun j k x y b c ne q r ox oy sj sk => ?_, h.fr, h.pl, h.ph, h.f0, h.nw, fun j c ns ts q => by
    rcases old q with ⟨_, q'⟩ | ⟨nj, q'⟩
    · cases q'
    · rw [sg nj]; exact h.xc j c ns ts q'⟩
  · rcases old q with ⟨rfl, q'⟩ | ⟨nj, q'⟩
    · cases q'
      exact ⟨v, List.getElem?_set_self hi', r⟩
    · rw [sg nj]; exact h.im j u q'
  · rcases old q with ⟨rfl, q'⟩ | ⟨nj, q'⟩
    · cases q'
    · rw [sg nj]; exact h.mu j us q'
  · rcases old q with ⟨rfl, q'⟩ | ⟨nj, q'⟩
    · cases q'
    · rw [sg nj]; exact h.mp j us q'
  · rcases old q with ⟨rfl, q'⟩ | ⟨nj, q'⟩
    · subst q'; cases ox
    · rcases old r with ⟨rfl, r'⟩ | ⟨nk, r'⟩
      · subst r'; cases oy
      · rw [sg nj] at sj
        rw [sg nk] at sk
        exact h.ne j k x y b c ne q' r' ox oy sj sk
/-- a slot gets a new list of its own -/
theorem SR.setMu (h : SR G B F H σ s) {i : Nat} {a : Addr} {ts : List T} (hi : i < s.length) (l : LstAt G F H a ts) (h0 : B.H0 a = none) (new : ∀ (j : Nat) (x : Sl), s[j]? = some x → x.own.isSome = true → σ[j]? ≠ some (some (.ref a))) :
    SR G B F H (σ.set i (some (.ref a))) (s.set i (.mu ts)) := by
  have hi' : i < σ.length := by rw [← h.len]; exact hi
  have old : ∀ {j : Nat} {x : Sl}, (s.set i (.mu ts))[j]? = some x → (j = i ∧ x = .mu ts) ∨ (j ≠ i ∧ s[j]? = some x) := fun {j x} q => by
    by_cases z : j = i
    · subst z
      rw [List.getElem?_set_self hi] at q
      exact .inl ⟨rfl, (Option.some.inj q).symm⟩
    · rw [List.getElem?_set_ne (Ne.symm z)] at q
      exact .inr ⟨z, q⟩
  have sg : ∀ {j : Nat}, j ≠ i → (σ.set i (some (.ref a)))[j]? = σ[j]? := fun {j} n => List.getElem?_set_ne (Ne.symm n)
  refine ⟨h.sub, by rw [List.length_set, List.length_set]; exact h.len, fun j u q => ?_, fun j us q => ?_, fun j us q => ?_, fun j k x y b c ne q r ox oy sj sk => ?_, h.fr, h.pl, h.ph, h.f0, h.nw, fun j c ns ts q => by
    rcases old q with ⟨_, q'⟩ | ⟨nj, q'⟩
    · cases q'
    · rw [sg nj]; exact h.xc j c ns ts q'⟩
  · rcases old q with ⟨rfl, q'⟩ | ⟨nj, q'⟩
    · cases q'
    · rw [sg nj]; exact h.im j u q'
  · rcases old q with ⟨rfl, q'⟩ | ⟨nj, q'⟩
    · cases q'
      exact ⟨a, List.getElem?_set_self hi', l, h0⟩
    · rw [sg nj]; exact h.mu j us q'
  · rcases old q with ⟨rfl, q'⟩ | ⟨nj, q'⟩
    · cases q'
    · rw [sg nj]; exact h.mp j us q'
  · rcases old q with ⟨rfl, q'⟩ | ⟨nj, q'⟩
    · rcases old r with ⟨rfl, r'⟩ | ⟨nk, r'⟩
      · exact (ne rfl).elim
      · rw [List.getElem?_set_self hi'] at sj
        cases sj
        rw [sg nk] at sk
        exact fun z => by subst z; exact new k y r' oy sk
    · rcases old r with ⟨rfl, r'⟩ | ⟨nk, r'⟩
      · rw [List.getElem?_set_self hi'] at sk
        cases sk
        rw [sg nj] at sj
        exact fun z => by subst z; exact new j x q' ox sj
      · rw [sg nj] at sj
        rw [sg nk] at sk
        exact h.ne j k x y b c ne q' r' ox oy sj sk
/-- a slot is forgotten -/
theorem SR.setUn (h : SR G B F H σ s) (i : Nat) (v : Option V) : SR G B F H (σ.set i v) (s.set i .un) := by
  have old : ∀ {j : Nat} {x : Sl}, (s.set i .un)[j]? = some x → x ≠ .un → (j ≠ i ∧ s[j]? = some x) := fun {j x} q n => by
    by_cases z : j = i
    · subst z
      by_cases hi : j < s.length
      · rw [List.getElem?_set_self hi] at q
        exact (n (Option.some.inj q).symm).elim
      · rw [List.getElem?_eq_none (by simpa using hi)] at q; cases q
    · rw [List.getElem?_set_ne (Ne.symm z)] at q
      exact ⟨z, q⟩
  have sg : ∀ {j : Nat}, j ≠ i → (σ.set i v)[j]? = σ[j]? := fun {j} n => List.getElem?_set_ne (Ne.symm n)
  refine ⟨h.sub, by rw [List.length_set, List.length_set]; exact h.len, fun j u q => ?_, fun j us q => ?_, fun j us q => ?_, fun j k x y b c ne q r ox oy sj sk => ?_, h.fr, h.pl, h.ph, h.f0, h.nw, fun j c ns ts q => by
    obtain ⟨nj, q⟩ := old q (fun z => by cases z)
    rw [sg nj]; exact h.xc j c ns ts q⟩
  · obtain ⟨nj, q⟩ := old q (fun z => by cases z)
    rw [sg nj]; exact h.im j u q
  · obtain ⟨nj, q⟩ := old q (fun z => by cases z)
    rw [sg nj]; exact h.mu j us q
  · obtain ⟨nj, q⟩ := old q (fun z => by cases z)
    rw [sg nj]; exact h.mp j us q
  · obtain ⟨nj, q⟩ := old q (fun z => by subst z; cases ox)
    obtain ⟨nk, r⟩ := old r (fun z => by subst z; cases oy)
    rw [sg nj] at sj
    rw [sg nk] at sk
    exact h.ne j k x y b c ne q r ox oy sj sk
end

/-! ### readings -/
/-- what is wanted of a result -/
def Pst {α β : Type} (G : Gx) (B : Fr0) (W : WX) (F : Hp) (σ : L2.St) (rel : Sls → Hp → Hp → β → α → Prop) (r : Rs α) (Q : β → Hp → Prop) : Prop := match r with
  | .ok a s' => ∀ b F' H', Same F F' → SR G B F' H' σ s' → rel s' F' H' b a → Q b H'
  | .ex c ns ts s' => ∀ cls d F' H', Same F F' → SR G B F' H' σ s' → ExR G F' cls d c ns ts → W cls d σ H'
  | .bad => False
def rd {α β : Type} (G : Gx) (B : Fr0) (W : WX) (rel : Sls → Hp → Hp → β → α → Prop) (ev : Sls → Rs α) : L2.St → Hp → (β → Hp → Prop) → Prop :=
  fun σ H Q => ∃ F s, SR G B F H σ s ∧ Pst G B W F σ rel (ev s) Q
section
variable {α β γ δ : Type} {G : Gx} {B : Fr0} {W : WX} {F F' : Hp} {σ : L2.St} {rel : Sls → Hp → Hp → β → α → Prop} {rel2 : Sls → Hp → Hp → δ → γ → Prop} {r : Rs α} {Q Q' : β → Hp → Prop} {Q2 : δ → Hp → Prop}
theorem Pst.mono (h : Pst G B W F σ rel r Q) (k : ∀ b H, Q b H → Q' b H) : Pst G B W F σ rel r Q' := by
  cases r with
  | ok a s => exact fun b F' H' e sr rl => k _ _ (h b F' H' e sr rl)
  | ex c ns ts s => exact h
  | bad => exact h
theorem Pst.up (h : Pst G B W F σ rel r Q) (e : Same F F') : Pst G B W F' σ rel r Q := by
  cases r with
  | ok a s => exact fun b F2 H' e2 sr rl => h b F2 H' (e.trans e2) sr rl
  | ex c ns ts s => exact fun cls d F2 H' e2 sr rl => h cls d F2 H' (e.trans e2) sr rl
  | bad => exact h
theorem Pst.bind {k : α → Sls → Rs γ} (h : Pst G B W F σ rel2 (r.bind k) Q2) :
    Pst G B W F σ rel r fun b H' => ∃ a F' s', Same F F' ∧ SR G B F' H' σ s' ∧ rel s' F' H' b a ∧ Pst G B W F' σ rel2 (k a s') Q2 := by
  cases r with
  | ok a s => exact fun b F' H' e sr rl => ⟨a, F', s, e, sr, rl, h.up e⟩
  | ex c ns ts s => exact h
  | bad => exact h
end
/-- the relations -/
def relE (G : Gx) : Sls → Hp → Hp → V → T → Prop := fun _ F _ v t => Rep G F v t
def relEs (G : Gx) : Sls → Hp → Hp → List V → List T → Prop := fun _ F _ vs ts => Reps G F vs ts
def relC : Sls → Hp → Hp → Bool → Bool → Prop := fun _ _ _ b c => b = c
/-- a new list that nothing else knows -/
def relM (G : Gx) (B : Fr0) (σ : L2.St) : Sls → Hp → Hp → V → List T → Prop := fun s F H v ts => ∃ a, v = .ref a ∧ LstAt G F H a ts ∧ B.H0 a = none ∧ B.pa ≠ some a ∧ ∀ (j : Nat) (x : Sl), s[j]? = some x → x.own.isSome = true → σ[j]? ≠ some (some (.ref a))
def relO : Sls → Hp → Hp → Option Int → Option Int → Prop := fun _ _ _ x y => x = y
abbrev rdE (G : Gx) (B : Fr0) (W : WX) (e : E) : TE := rd G B W (relE G) (evE e)
end FL

/-! FL4: operators. -/
namespace FL
open PySem PySem.Spec L2

/-! ### data -/
mutual
theorem dp_of {G : Gx} {F : Hp} : ∀ (n : Nat) (t : T) (v : V), dat n t = true → Rep G F v t → Dp G.K F v (toD t)
  | _, .non, v, _, h => by simp only [Rep] at h; subst h; simp only [toD]; exact .non
  | _, .bl b, v, _, h => by simp only [Rep] at h; subst h; simp only [toD]; exact .bl b
  | _, .int b, v, _, h => by simp only [Rep] at h; subst h; simp only [toD]; exact .int b
  | _, .str b, v, _, h => by simp only [Rep] at h; subst h; simp only [toD]; exact .str b
  | n + 1, .tup ts, v, d, h => by
    simp only [Rep] at h
    obtain ⟨a, vs, rfl, h2, h3⟩ := h
    simp only [toD]
    exact .tup h2 (dps_of n ts vs (by simpa [dat] using d) h3)
  | n + 1, .lst ts, v, d, h => by
    simp only [Rep] at h
    obtain ⟨a, vs, rfl, h2, h3⟩ := h
    simp only [toD]
    exact .lst (.inl (.inl h2)) (dps_of n ts vs (by simpa [dat] using d) h3)
  | 0, .tup ts, v, d, h => by simp [dat] at d
  | 0, .lst ts, v, d, h => by simp [dat] at d
  | 0, .obj _ _ ts, v, d, h => by simp [dat] at d
  | n + 1, .obj _ _ ts, v, d, h => by simp [dat] at d
  | 0, .scr ts, v, d, h => by simp [dat] at d
  | n + 1, .scr ts, v, d, h => by simp [dat] at d
theorem dps_of {G : Gx} {F : Hp} : ∀ (n : Nat) (ts : List T) (vs : List V), dats n ts = true → Reps G F vs ts → DpAll G.K F vs (toDs ts)
  | _, [], vs, _, h => by simp only [Reps] at h; subst h; simp only [toDs]; exact .nil
  | n, t :: ts, vs, d, h => by
    simp only [Reps] at h
    obtain ⟨v, r, rfl, h2, h3⟩ := h
    simp only [dats, Bool.and_eq_true] at d
    simp only [toDs]
    exact .cons (dp_of n t v d.1 h2) (dps_of n ts r d.2 h3)
end
mutual
theorem lay_of : ∀ (n : Nat) (t : T), dat n t = true → (toD t).canLay0 = true ∧ (toD t).depth ≤ n + 1
  | _, .non, _ => by simp [toD, PyData.canLay0, PyData.depth]
  | _, .bl b, _ => by simp [toD, PyData.canLay0, PyData.depth]
  | _, .int b, _ => by simp [toD, PyData.canLay0, PyData.depth]
  | _, .str b, d => by
    simp only [dat] at d
    simp [toD, PyData.canLay0, PyData.depth, d]
  | n + 1, .tup ts, d => by
    have z := lays_of n ts (by simpa [dat] using d)
    simp only [toD, PyData.canLay0, PyData.depth]
    exact ⟨z.1, by omega⟩
  | n + 1, .lst ts, d => by
    have z := lays_of n ts (by simpa [dat] using d)
    simp only [toD, PyData.canLay0, PyData.depth]
    exact ⟨z.1, by omega⟩
  | 0, .tup ts, d => by simp [dat] at d
  | 0, .lst ts, d => by simp [dat] at d
  | 0, .obj _ _ ts, d => by simp [dat] at d
  | n + 1, .obj _ _ ts, d => by simp [dat] at d
  | 0, .scr ts, d => by simp [dat] at d
  | n + 1, .scr ts, d => by simp [dat] at d
theorem lays_of : ∀ (n : Nat) (ts : List T), dats n ts = true → PyData.canLayAll0 (toDs ts) = true ∧ PyData.depthAll (toDs ts) ≤ n + 1
  | _, [], _ => by simp [toDs, PyData.canLayAll0, PyData.depthAll]
  | n, t :: ts, d => by
    simp only [dats, Bool.and_eq_true] at d
    have z1 := lay_of n t d.1
    have z2 := lays_of n ts d.2
    simp only [toDs, PyData.canLayAll0, PyData.depthAll, Bool.and_eq_true]
    exact ⟨⟨z1.1, z2.1⟩, by omega⟩
end
theorem no_scr {n : Nat} {ts : List T} (h : dat n (.scr ts) = true) : False := by
  cases n <;> simp [dat] at h
theorem no_obj {n : Nat} {c : Str} {ns : List Str} {ts : List T} (h : dat n (.obj c ns ts) = true) : False := by
  cases n <;> simp [dat] at h
mutual
theorem eqv_of : ∀ (n m : Nat) (t u : T), dat n t = true → dat m u = true → PyData.eqv (toD t) (toD u) = eqT t u
  | n + 1, m + 1, .tup ts, .tup us, h1, h2 => by
    simp only [toD, PyData.eqv, eqT]
    exact eqvs_of n m ts us (by simpa [dat] using h1) (by simpa [dat] using h2)
  | n + 1, m + 1, .lst ts, .lst us, h1, h2 => by
    simp only [toD, PyData.eqv, eqT]
    exact eqvs_of n m ts us (by simpa [dat] using h1) (by simpa [dat] using h2)
  | 0, _, .tup ts, _, h1, _ => by simp [dat] at h1
  | 0, _, .lst ts, _, h1, _ => by simp [dat] at h1
  | _, 0, _, .tup ts, _, h1 => by simp [dat] at h1
  | _, 0, _, .lst ts, _, h1 => by simp [dat] at h1
  | n, m, .obj _ _ _, _, h1, _ => (no_obj h1).elim
  | n, m, _, .obj _ _ _, _, h1 => (no_obj h1).elim
  | n, m, .scr _, _, h1, _ => (no_scr h1).elim
  | n, m, _, .scr _, _, h1 => (no_scr h1).elim
  | _, _, .non, .non, _, _ => by simp [toD, PyData.eqv, eqT]
  | _, _, .non, .bl _, _, _ => by simp [toD, PyData.eqv, eqT]
  | _, _, .non, .int _, _, _ => by simp [toD, PyData.eqv, eqT]
  | _, _, .non, .str _, _, _ => by simp [toD, PyData.eqv, eqT]
  | _, _ + 1, .non, .tup _, _, _ => by simp [toD, PyData.eqv, eqT]
  | _, _ + 1, .non, .lst _, _, _ => by simp [toD, PyData.eqv, eqT]
  | _, _, .bl _, .non, _, _ => by simp [toD, PyData.eqv, eqT]
  | _, _, .bl _, .bl _, _, _ => by simp [toD, PyData.eqv, eqT]
  | _, _, .bl _, .int _, _, _ => by simp [toD, PyData.eqv, eqT]
  | _, _, .bl _, .str _, _, _ => by simp [toD, PyData.eqv, eqT]
  | _, _ + 1, .bl _, .tup _, _, _ => by simp [toD, PyData.eqv, eqT]
  | _, _ + 1, .bl _, .lst _, _, _ => by simp [toD, PyData.eqv, eqT]
  | _, _, .int _, .non, _, _ => by simp [toD, PyData.eqv, eqT]
  | _, _, .int _, .bl _, _, _ => by simp [toD, PyData.eqv, eqT]
  | _, _, .int _, .int _, _, _ => by simp [toD, PyData.eqv, eqT]
  | _, _, .int _, .str _, _, _ => by simp [toD, PyData.eqv, eqT]
  | _, _ + 1, .int _, .tup _, _, _ => by simp [toD, PyData.eqv, eqT]
  | _, _ + 1, .int _, .lst _, _, _ => by simp [toD, PyData.eqv, eqT]
  | _, _, .str _, .non, _, _ => by simp [toD, PyData.eqv, eqT]
  | _, _, .str _, .bl _, _, _ => by simp [toD, PyData.eqv, eqT]
  | _, _, .str _, .int _, _, _ => by simp [toD, PyData.eqv, eqT]
  | _, _, .str _, .str _, _, _ => by simp [toD, PyData.eqv, eqT]
  | _, _ + 1, .str _, .tup _, _, _ => by simp [toD, PyData.eqv, eqT]
  | _, _ + 1, .str _, .lst _, _, _ => by simp [toD, PyData.eqv, eqT]
  | _ + 1, _, .tup _, .non, _, _ => by simp [toD, PyData.eqv, eqT]
  | _ + 1, _, .tup _, .bl _, _, _ => by simp [toD, PyData.eqv, eqT]
  | _ + 1, _, .tup _, .int _, _, _ => by simp [toD, PyData.eqv, eqT]
  | _ + 1, _, .tup _, .str _, _, _ => by simp [toD, PyData.eqv, eqT]
  | _ + 1, _ + 1, .tup _, .lst _, _, _ => by simp [toD, PyData.eqv, eqT]
  | _ + 1, _, .lst _, .non, _, _ => by simp [toD, PyData.eqv, eqT]
  | _ + 1, _, .lst _, .bl _, _, _ => by simp [toD, PyData.eqv, eqT]
  | _ + 1, _, .lst _, .int _, _, _ => by simp [toD, PyData.eqv, eqT]
  | _ + 1, _, .lst _, .str _, _, _ => by simp [toD, PyData.eqv, eqT]
  | _ + 1, _ + 1, .lst _, .tup _, _, _ => by simp [toD, PyData.eqv, eqT]
theorem eqvs_of : ∀ (n m : Nat) (ts us : List T), dats n ts = true → dats m us = true → PyData.eqvAll (toDs ts) (toDs us) = eqTs ts us
  | _, _, [], [], _, _ => by simp [toDs, PyData.eqvAll, eqTs]
  | _, _, [], _ :: _, _, _ => by simp [toDs, PyData.eqvAll, eqTs]
  | _, _, _ :: _, [], _, _ => by simp [toDs, PyData.eqvAll, eqTs]
  | n, m, t :: ts, u :: us, h1, h2 => by
    simp only [dats, Bool.and_eq_true] at h1 h2
    simp only [toDs, PyData.eqvAll, eqTs]
    rw [eqv_of n m t u h1.1 h2.1, eqvs_of n m ts us h1.2 h2.2]
end
theorem shaped_of {t : T} (h : dat 60 t = true) : SeqAt.shaped (toD t) = true := by
  have z := lay_of 60 t h
  unfold SeqAt.shaped
  rw [z.1]
  simp only [Bool.true_and, decide_eq_true_eq]
  omega
theorem shapeds_of {ts : List T} (h : dats 60 ts = true) : SeqAt.shaped (.list (toDs ts)) = true := by
  have z := lays_of 60 ts h
  have d : (PyData.list (toDs ts)).depth ≤ 64 := by
    simp only [PyData.depth]
    omega
  have l : (PyData.list (toDs ts)).canLay0 = true := by
    simp only [PyData.canLay0]
    exact z.1
  unfold SeqAt.shaped
  rw [l, decide_eq_true d]
  rfl
theorem any_of {n m : Nat} {t : T} (h : dat n t = true) : ∀ {ts : List T}, dats m ts = true → ((toDs ts).any fun z => PyData.eqv z (toD t)) = inT t ts
  | [], _ => rfl
  | u :: us, d => by
    simp only [dats, Bool.and_eq_true] at d
    unfold inT
    simp only [toDs, List.any_cons]
    rw [eqv_of m n u t d.1 h]
    exact congrArg _ (any_of h d.2)

/-! ### binary operators -/
/-- a reading of two values by an operator of trees -/
def rB (G : Gx) (o : T → T → Option T) : R2 := fun x y H Q => ∃ F tx ty z, Same F H ∧ Rep G F x tx ∧ Rep G F y ty ∧ o tx ty = some z ∧ ∀ v F' H', Grow F H F' H' → Rep G F' v z → Q v H'
theorem big_eq : big = sizeLine := by decide
section
variable {X : Cx}
theorem op_fdivZ : OpR X (binaryOp .FloorDiv) (rI (fun _ j => j ≠ 0 ∧ j.natAbs.log2 < 9000) fun i j => .int (i.fdiv j)) := opI fun _ _ _ _ _ _ _ hc q => PyProof.Rows.floordiv_int hc.1 q (.inl (PyProof.noPylong_of_log2 hc.2))
theorem mulOk_W {i j : Int} (h : MulOk i j = true) : CMulW i j := by
  unfold MulOk at h
  show _ < _
  exact of_decide_eq_true h
def bopOk : Bop → Operator → Bool
  | .add, .Add => true
  | .sub, .Sub => true
  | .mul, .Mult => true
  | .fdiv, .FloorDiv => true
  | .mod, .Mod => true
  | .pow, .Pow => true
  | _, _ => false
theorem op_bop {G : Gx} (hG : X.K = G.K) {b : Bop} {op : Operator} (h : bopOk b op = true) : OpR X (binaryOp op) (rB G (bop b)) := by
  intro pins s σ H x y v u Q I rx ry hh
  obtain ⟨F, tx, ty, z, sub, hx, hy, e, k⟩ := hh
  have k0 : ∀ v, Rep G F v z → Q v H := fun v r => k v F H (.refl sub) r
  unfold bop at e
  split at e
  · -- add int
    cases op <;> simp [bopOk] at h
    simp only [Rep] at hx hy
    subst hx hy
    cases e
    exact op_add pins s σ H _ _ v u Q I rx ry ⟨_, _, rfl, rfl, k0 _ (by simp only [Rep])⟩
  · -- add str
    cases op <;> simp [bopOk] at h
    simp only [Rep] at hx hy
    subst hx hy
    split at e
    · rename_i hl
      cases e
      exact op_add_str pins s σ H _ _ v u Q I rx ry ⟨_, _, rfl, rfl, by rw [← big_eq]; exact hl, k0 _ (by simp only [Rep])⟩
    · cases e
  · -- add tup
    cases op <;> simp [bopOk] at h
    rename_i xs ys
    simp only [Rep] at hx hy
    obtain ⟨a, vs, rfl, a2, a3⟩ := hx
    obtain ⟨b, ws, rfl, b2, b3⟩ := hy
    split at e
    · rename_i hl
      cases e
      have hv : vs ≠ [] := fun z => by
        have q := a3.length
        rw [z] at q
        exact hl.2 (List.length_eq_zero_iff.mp q.symm)
      refine op_catT pins s σ H _ _ v u Q I rx ry ⟨a, b, vs, ws, rfl, rfl, by rw [hG]; exact sameSqT sub a2, by rw [hG]; exact sameSqT sub b2, hv, by rw [a3.length, b3.length, ← big_eq]; exact hl.1, fun hw => ?_, fun hw p hp => ?_⟩
      · subst hw
        have q := b3.length
        obtain rfl : ys = [] := List.length_eq_zero_iff.mp q.symm
        refine k0 _ ?_
        rw [List.append_nil]
        simp only [Rep]
        exact ⟨a, vs, rfl, a2, a3⟩
      · have g := Grow.laid (o := .tup (vs ++ ws)) sub hp
        refine k _ _ _ g ?_
        simp only [Rep]
        exact ⟨p, vs ++ ws, rfl, .inl (.inl upd_same), Reps.append (Reps.mono g.ff _ _ a3) (Reps.mono g.ff _ _ b3)⟩
    · cases e
  · cases op <;> simp [bopOk] at h
    simp only [Rep] at hx hy
    subst hx hy
    cases e
    exact op_sub pins s σ H _ _ v u Q I rx ry ⟨_, _, rfl, rfl, k0 _ (by simp only [Rep])⟩
  · cases op <;> simp [bopOk] at h
    simp only [Rep] at hx hy
    subst hx hy
    split at e
    · rename_i hl
      cases e
      exact op_mulW pins s σ H _ _ v u Q I rx ry ⟨_, _, rfl, rfl, mulOk_W hl, k0 _ (by simp only [Rep])⟩
    · cases e
  · -- mul str
    cases op <;> simp [bopOk] at h
    simp only [Rep] at hx hy
    subst hx hy
    split at e
    · rename_i hl
      cases e
      obtain ⟨t, rfl⟩ := rx
      obtain ⟨u, rfl⟩ := ry
      exact PySem.SB.mul (PyProof.Rows.mulOk_of 1000 10000 hl.2.2 (by have := hl.2.1; omega) (by have := hl.1; omega) (by decide) (by decide)) fun t' k => ⟨V.str _, H, I.tok k, ⟨t', rfl⟩, k0 (V.str _) (by simp only [Rep])⟩
    · cases e
  · cases op <;> simp [bopOk] at h
    simp only [Rep] at hx hy
    subst hx hy
    split at e
    · rename_i hl
      cases e
      exact op_fdivZ pins s σ H _ _ v u Q I rx ry ⟨_, _, rfl, rfl, hl, k0 _ (by simp only [Rep])⟩
    · cases e
  · cases op <;> simp [bopOk] at h
    simp only [Rep] at hx hy
    subst hx hy
    split at e
    · rename_i hl
      cases e
      exact op_modN pins s σ H _ _ v u Q I rx ry ⟨_, _, rfl, rfl, hl, k0 _ (by simp only [Rep])⟩
    · cases e
  · cases op <;> simp [bopOk] at h
    simp only [Rep] at hx hy
    subst hx hy
    split at e
    · rename_i hl
      cases e
      exact op_pow pins s σ H _ _ v u Q I rx ry ⟨_, _, rfl, rfl, hl, k0 _ (by simp only [Rep])⟩
    · cases e
  · cases e
end
end FL

/-! FL5: comparisons, built-ins, items. -/
namespace FL
open PySem PySem.Spec L2

section
variable {X : Cx}
theorem op_inTD (hu : X.A.units + 65 < cLine) {d : PyData} {ds : List PyData} {pins : List (Addr × Obj)} {s : Shared} {σ : L2.St} {H : Hp} {x y : V} {v u : Value} {Q : VK} (I : Inv X pins σ H s) (rx : RelV x v) (ry : RelV y u)
    (hd : Dp X.K H x d) (he : Dp X.K H y (.tuple ds)) (sd : SeqAt.shaped d = true) (se : SeqAt.shaped (.list ds) = true) (q : Q (.bl (ds.any fun z => PyData.eqv z d)) H) : wpAny (model X.prog X.w) X.A (compareOp .In v u) (EP X pins σ Q) X.xe s := by
  obtain ⟨as, r1⟩ := Dp.reads I d x v hd rx
  obtain ⟨bs, r2⟩ := Dp.reads I (.tuple ds) y u he ry
  exact SeqAt.in_tuple_reads r2 r1 (SeqAt.canLay_of_shaped se) (SeqAt.canLay_of_shaped sd) (PyProof.Rows.room_in_shaped sd hu) ⟨.bl _, H, I, rfl, q⟩
theorem op_notInTD (hu : X.A.units + 65 < cLine) {d : PyData} {ds : List PyData} {pins : List (Addr × Obj)} {s : Shared} {σ : L2.St} {H : Hp} {x y : V} {v u : Value} {Q : VK} (I : Inv X pins σ H s) (rx : RelV x v) (ry : RelV y u)
    (hd : Dp X.K H x d) (he : Dp X.K H y (.tuple ds)) (sd : SeqAt.shaped d = true) (se : SeqAt.shaped (.list ds) = true) (q : Q (.bl (!ds.any fun z => PyData.eqv z d)) H) : wpAny (model X.prog X.w) X.A (compareOp .NotIn v u) (EP X pins σ Q) X.xe s := by
  obtain ⟨as, r1⟩ := Dp.reads I d x v hd rx
  obtain ⟨bs, r2⟩ := Dp.reads I (.tuple ds) y u he ry
  exact SeqAt.notIn_tuple_reads r2 r1 (SeqAt.canLay_of_shaped se) (SeqAt.canLay_of_shaped sd) (PyProof.Rows.room_in_shaped sd hu) ⟨.bl _, H, I, rfl, q⟩
theorem Dp.up {K : PySem.W.Frag} {F H : Hp} (e : Same F H) : ∀ (d : PyData) (v : V), Dp K F v d → Dp K H v d := by
  intro d v h
  refine Dp.rec (K := K) (H := F) (motive_1 := fun v d _ => Dp K H v d) (motive_2 := fun vs ds _ => DpAll K H vs ds) .non .bl .int .str (fun a b c => .lst (e.seq a) c) (fun a b c => .tup (sameSqT e a) c) .nil (fun _ _ a b => .cons a b) h
def copOk : Cop → CmpOp → Bool
  | .lt, .Lt => true
  | .le, .LtE => true
  | .gt, .Gt => true
  | .ge, .GtE => true
  | .eq, .Eq => true
  | .ne, .NotEq => true
  | .isN, .Is => true
  | .notN, .IsNot => true
  | .isB, .Is => true
  | .notB, .IsNot => true
  | .inn, .In => true
  | .nin, .NotIn => true
  | _, _ => false
theorem items_cases {t : T} {ts : List T} (h : items t = some ts) : t = .lst ts ∨ t = .tup ts ∨ t = .scr ts := by
  cases t <;> simp [items] at h
  · right; left; rw [h]
  · left; rw [h]
  · right; right; rw [h]
theorem op_cop {G : Gx} (hG : X.K = G.K) (hu : X.A.units + 65 < cLine) {b : Cop} {op : CmpOp} (h : copOk b op = true) : OpR X (compareOp op) (rB G (cop b)) := by
  intro pins s σ H x y v u Q I rx ry hh
  obtain ⟨F, tx, ty, z, sub, hx, hy, e, k⟩ := hh
  have k0 : ∀ v, Rep G F v z → Q v H := fun v r => k v F H (.refl sub) r
  have hu1 : X.A.units + 64 < cLine := by omega
  unfold cop at e
  split at e
  · cases op <;> simp [copOk] at h
    simp only [Rep] at hx hy
    subst hx hy
    cases e
    exact op_lt pins s σ H _ _ v u Q I rx ry ⟨_, _, rfl, rfl, k0 _ (by simp only [Rep])⟩
  · cases op <;> simp [copOk] at h
    simp only [Rep] at hx hy
    subst hx hy
    cases e
    exact op_le pins s σ H _ _ v u Q I rx ry ⟨_, _, rfl, rfl, k0 _ (by simp only [Rep])⟩
  · cases op <;> simp [copOk] at h
    simp only [Rep] at hx hy
    subst hx hy
    cases e
    exact op_gt pins s σ H _ _ v u Q I rx ry ⟨_, _, rfl, rfl, k0 _ (by simp only [Rep])⟩
  · cases op <;> simp [copOk] at h
    simp only [Rep] at hx hy
    subst hx hy
    cases e
    exact op_ge pins s σ H _ _ v u Q I rx ry ⟨_, _, rfl, rfl, k0 _ (by simp only [Rep])⟩
  · cases op <;> simp [copOk] at h
    split at e
    · rename_i hd
      rw [Bool.and_eq_true] at hd
      cases e
      refine op_eqD hu1 pins s σ H x y v u Q I rx ry ⟨_, _, Dp.up sub _ _ (hG ▸ dp_of 60 _ _ hd.1 hx), Dp.up sub _ _ (hG ▸ dp_of 60 _ _ hd.2 hy), shaped_of hd.1, shaped_of hd.2, k0 _ ?_⟩
      rw [eqv_of 60 60 _ _ hd.1 hd.2]
      simp only [Rep]
    · cases e
  · cases op <;> simp [copOk] at h
    split at e
    · rename_i hd
      rw [Bool.and_eq_true] at hd
      cases e
      refine op_neD hu1 pins s σ H x y v u Q I rx ry ⟨_, _, Dp.up sub _ _ (hG ▸ dp_of 60 _ _ hd.1 hx), Dp.up sub _ _ (hG ▸ dp_of 60 _ _ hd.2 hy), shaped_of hd.1, shaped_of hd.2, k0 _ ?_⟩
      rw [eqv_of 60 60 _ _ hd.1 hd.2]
      simp only [Rep]
    · cases e
  · cases op <;> simp [copOk] at h
    simp only [Rep] at hy
    subst hy
    cases e
    refine op_isN pins s σ H _ _ v u Q I rx ry ⟨rfl, k0 _ ?_⟩
    simp only [Rep]
    cases tx with
    | non => simp only [Rep] at hx; subst hx; rfl
    | bl _ => simp only [Rep] at hx; subst hx; rfl
    | int _ => simp only [Rep] at hx; subst hx; rfl
    | str _ => simp only [Rep] at hx; subst hx; rfl
    | tup _ => simp only [Rep] at hx; obtain ⟨a, vs, rfl, _⟩ := hx; rfl
    | lst _ => simp only [Rep] at hx; obtain ⟨a, vs, rfl, _⟩ := hx; rfl
    | scr _ => simp only [Rep] at hx; obtain ⟨a, vs, rfl, _⟩ := hx; rfl
    | obj _ _ _ => simp only [Rep] at hx; obtain ⟨a, _, _, vs, rfl, _⟩ := hx; rfl
  · cases op <;> simp [copOk] at h
    simp only [Rep] at hy
    subst hy
    cases e
    refine op_notN pins s σ H _ _ v u Q I rx ry ⟨rfl, k0 _ ?_⟩
    simp only [Rep]
    cases tx with
    | non => simp only [Rep] at hx; subst hx; rfl
    | bl _ => simp only [Rep] at hx; subst hx; rfl
    | int _ => simp only [Rep] at hx; subst hx; rfl
    | str _ => simp only [Rep] at hx; subst hx; rfl
    | tup _ => simp only [Rep] at hx; obtain ⟨a, vs, rfl, _⟩ := hx; rfl
    | lst _ => simp only [Rep] at hx; obtain ⟨a, vs, rfl, _⟩ := hx; rfl
    | scr _ => simp only [Rep] at hx; obtain ⟨a, vs, rfl, _⟩ := hx; rfl
    | obj _ _ _ => simp only [Rep] at hx; obtain ⟨a, _, _, vs, rfl, _⟩ := hx; rfl
  · cases op <;> simp [copOk] at h
    simp only [Rep] at hx hy
    subst hx hy
    cases e
    exact op_is_bl pins s σ H _ _ v u Q I rx ry ⟨_, _, rfl, rfl, k0 _ (by simp only [Rep])⟩
  · cases op <;> simp [copOk] at h
    simp only [Rep] at hx hy
    subst hx hy
    cases e
    exact op_isnot_bl pins s σ H _ _ v u Q I rx ry ⟨_, _, rfl, rfl, k0 _ (by simp only [Rep])⟩
  · -- one sign in a text
    cases op <;> simp [copOk] at h
    rename_i zx zy
    split at e
    · rename_i c hc
      simp only [Rep] at hx hy
      subst hx hy
      cases e
      have ex : zx = ⟨#[c]⟩ := by
        cases zx with
        | mk a => cases a with
          | mk l =>
            have q : l = [c] := hc
            subst q
            rfl
      subst ex
      exact op_in_sign pins s σ H _ _ v u Q I rx ry ⟨c, _, rfl, rfl, k0 _ (by simp only [Rep])⟩
    · cases e
  · cases op <;> simp [copOk] at h
    rename_i zx zy
    split at e
    · rename_i c hc
      simp only [Rep] at hx hy
      subst hx hy
      cases e
      have ex : zx = ⟨#[c]⟩ := by
        cases zx with
        | mk a => cases a with
          | mk l =>
            have q : l = [c] := hc
            subst q
            rfl
      subst ex
      exact op_notIn_sign pins s σ H _ _ v u Q I rx ry ⟨c, _, rfl, rfl, k0 _ (by simp only [Rep])⟩
    · cases e
  · cases op <;> simp [copOk] at h
    split at e
    · rename_i ts hi
      split at e
      · rename_i hd
        rw [Bool.and_eq_true] at hd
        cases e
        have hq : Q (.bl ((toDs ts).any fun z => PyData.eqv z (toD tx))) H := k0 _ (by rw [any_of hd.1 hd.2]; simp only [Rep])
        rcases items_cases hi with rfl | rfl | rfl
        · simp only [Rep] at hy
          obtain ⟨a, vs, rfl, h2, h3⟩ := hy
          exact op_inD hu pins s σ H x _ v u Q I rx ry ⟨_, _, Dp.up sub _ _ (hG ▸ dp_of 60 _ _ hd.1 hx), .lst (.inl (.inl (sub _ _ h2))) (hG ▸ dps_of 60 ts vs hd.2 (Reps.mono sub _ _ h3)), shaped_of hd.1, shapeds_of hd.2, hq⟩
        · simp only [Rep] at hy
          obtain ⟨a, vs, rfl, h2, h3⟩ := hy
          exact op_inTD hu I rx ry (Dp.up sub _ _ (hG ▸ dp_of 60 _ _ hd.1 hx)) (.tup (hG ▸ sameSqT sub h2) (hG ▸ dps_of 60 ts vs hd.2 (Reps.mono sub _ _ h3))) (shaped_of hd.1) (shapeds_of hd.2) hq
        · simp only [Rep] at hy
          obtain ⟨a, vs, rfl, h2, h3⟩ := hy
          exact op_inD hu pins s σ H x _ v u Q I rx ry ⟨_, _, Dp.up sub _ _ (hG ▸ dp_of 60 _ _ hd.1 hx), .lst (hG ▸ sub.seq h2) (hG ▸ dps_of 60 ts vs hd.2 (Reps.mono sub _ _ h3)), shaped_of hd.1, shapeds_of hd.2, hq⟩
      · cases e
    · cases e
  · cases op <;> simp [copOk] at h
    split at e
    · rename_i ts hi
      split at e
      · rename_i hd
        rw [Bool.and_eq_true] at hd
        cases e
        have hq : Q (.bl (!(toDs ts).any fun z => PyData.eqv z (toD tx))) H := k0 _ (by rw [any_of hd.1 hd.2]; simp only [Rep])
        rcases items_cases hi with rfl | rfl | rfl
        · simp only [Rep] at hy
          obtain ⟨a, vs, rfl, h2, h3⟩ := hy
          exact op_notInD hu pins s σ H x _ v u Q I rx ry ⟨_, _, Dp.up sub _ _ (hG ▸ dp_of 60 _ _ hd.1 hx), .lst (.inl (.inl (sub _ _ h2))) (hG ▸ dps_of 60 ts vs hd.2 (Reps.mono sub _ _ h3)), shaped_of hd.1, shapeds_of hd.2, hq⟩
        · simp only [Rep] at hy
          obtain ⟨a, vs, rfl, h2, h3⟩ := hy
          exact op_notInTD hu I rx ry (Dp.up sub _ _ (hG ▸ dp_of 60 _ _ hd.1 hx)) (.tup (hG ▸ sameSqT sub h2) (hG ▸ dps_of 60 ts vs hd.2 (Reps.mono sub _ _ h3))) (shaped_of hd.1) (shapeds_of hd.2) hq
        · simp only [Rep] at hy
          obtain ⟨a, vs, rfl, h2, h3⟩ := hy
          exact op_notInD hu pins s σ H x _ v u Q I rx ry ⟨_, _, Dp.up sub _ _ (hG ▸ dp_of 60 _ _ hd.1 hx), .lst (hG ▸ sub.seq h2) (hG ▸ dps_of 60 ts vs hd.2 (Reps.mono sub _ _ h3)), shaped_of hd.1, shapeds_of hd.2, hq⟩
      · cases e
    · cases e
  · cases e
end
end FL

/-! FL6: the expressions' rules. -/
namespace FL
open PySem PySem.Spec L2

/-- what a term's rule asks of the context -/
structure Good (X : Cx) (G : Gx) (k : Option Nat) (N : List Str) (sc : Scope) (W : WX) : Prop where
  hP : X.prog = G.P
  hw : X.w = G.w
  hb : X.base = G.base
  hK : X.K = G.K
  hmg : X.mg = G.mg
  hN : X.N = N
  nd : N.Nodup
  hsc : X.env.scope = sc
  /-- k = none: within an except suite -/
  calm : k.isSome = true → X.calm = true
  room : ∀ n, k = some n → Room n X.A
  un : X.A.units + 65 < cLine
  tk : k.isSome = true → Takes X W

section
variable {X : Cx} {e : Expr} {es : List Expr} {t t' : TE}
theorem PE.imp (h : PE X e t) (k : ∀ σ H Q, t' σ H Q → t σ H Q) : PE X e t' := ⟨fun pins s σ H Q I hw => h.run pins s σ H Q I (k σ H Q hw)⟩
theorem PT.imp {t t' : TT} (h : PT X e t) (k : ∀ σ H Q, t' σ H Q → t σ H Q) : PT X e t' := ⟨fun pins s σ H Q I hw => h.run pins s σ H Q I (k σ H Q hw)⟩
theorem PW.imp {t t' : TT} (h : PW X e t) (k : ∀ σ H Q, t' σ H Q → t σ H Q) : PW X e t' := ⟨fun wh pins s σ H Q I hw => h.run wh pins s σ H Q I (k σ H Q hw)⟩
theorem PA.imp {t t' : TA} (h : PA X es t) (k : ∀ σ H Q, t' σ H Q → t σ H Q) : PA X es t' := ⟨fun p pins s σ H Q I hw => h.run p pins s σ H Q I (k σ H Q hw)⟩
theorem PO.imp {o : Option Expr} {t t' : TO} (h : PO X o t) (k : ∀ σ H Q, t' σ H Q → t σ H Q) : PO X o t' := ⟨fun pins s σ H Q I hw => h.run pins s σ H Q I (k σ H Q hw)⟩
theorem PS.imp {st : Stmt} {t t' : TS} (h : PS X st t) (k : ∀ D σ H, t' D σ H → t D σ H) : PS X st t' := ⟨fun pins s σ H D I hw => h.run pins s σ H D I (k D σ H hw)⟩
theorem PSs.imp {st : List Stmt} {t t' : TS} (h : PSs X st t) (k : ∀ D σ H, t' D σ H → t D σ H) : PSs X st t' := ⟨fun pins s σ H D I hw => h.run pins s σ H D I (k D σ H hw)⟩
end

/-! ### lists that are lent -/
open Classical in
/-- F, and the lists at p as they stand -/
noncomputable def lend (F H : Hp) (p : Addr → Prop) : Hp := fun b => if p b then H b else F b
open Classical in
noncomputable def unlend (F : Hp) (p : Addr → Prop) : Hp := FL.less F p
section
variable {F H F' H' : Hp} {p : Addr → Prop}
theorem lend_sub (hp : ∀ a, p a → F a = none ∧ ∃ vs, H a = some (.lst vs)) : Same F (lend F H p) := fun b u q => by
  unfold lend
  by_cases z : p b
  · rw [(hp b z).1] at q; cases q
  · rw [if_neg z]; exact q
theorem lend_top (sub : Same F H) : Same (lend F H p) H := fun b u q => by
  unfold lend at q
  by_cases z : p b
  · rw [if_pos z] at q; exact q
  · rw [if_neg z] at q; exact sub _ _ q
theorem lend_at {a : Addr} {vs : List V} (z : p a) (h : H a = some (.lst vs)) : lend F H p a = some (.lst vs) := by
  unfold lend
  rw [if_pos z]
  exact h
theorem Grow.unlend (hp : ∀ a, p a → F a = none ∧ ∃ vs, H a = some (.lst vs)) (g : Grow (lend F H p) H F' H') : Grow F H (unlend F' p) H' := by
  refine ⟨fun b u q => ?_, fun b u q => ?_, g.hh, fun b e n => ?_⟩
  · unfold FL.unlend FL.less
    by_cases z : p b
    · rw [(hp b z).1] at q; cases q
    · rw [if_neg z]
      exact g.ff _ _ (lend_sub hp _ _ q)
  · unfold FL.unlend FL.less at q
    by_cases z : p b
    · rw [if_pos z] at q; cases q
    · rw [if_neg z] at q; exact g.sub _ _ q
  · unfold FL.unlend FL.less at n
    by_cases z : p b
    · rw [if_pos z] at n; exact (n rfl).elim
    · rw [if_neg z] at n
      refine g.new b ?_ n
      unfold lend
      rw [if_neg z]
      exact e
open Classical in
theorem Rep.unlend {G : Gx} (hp : ∀ a, p a → ∃ vs, F' a = some (.lst vs)) {t : T} {v : V} (n : noL t = true) (r : Rep G F' v t) : Rep G (unlend F' p) v t := by
  unfold FL.unlend
  exact Rep.less hp t v n r
open Classical in
theorem Reps.unlend {G : Gx} (hp : ∀ a, p a → ∃ vs, F' a = some (.lst vs)) {t : List T} {v : List V} (n : noLs t = true) (r : Reps G F' v t) : Reps G (FL.unlend F' p) v t := by
  unfold FL.unlend
  exact Reps.less hp t v n r
theorem lent_kept (hp : ∀ a, p a → F a = none ∧ ∃ vs, H a = some (.lst vs)) (g : Grow (lend F H p) H F' H') : ∀ a, p a → ∃ vs, F' a = some (.lst vs) := fun a z => by
  obtain ⟨_, vs, h⟩ := hp a z
  exact ⟨vs, g.ff _ _ (lend_at z h)⟩
end
theorem cop_bl {o : Cop} {x y z : T} (h : cop o x y = some z) : ∃ k, z = .bl k := by
  unfold cop at h
  repeat (first | (cases h; exact ⟨_, rfl⟩) | (split at h) | cases h)

section
variable {G : Gx} {B : Fr0} {W : WX} {α β : Type} {rel : Sls → Hp → Hp → β → α → Prop}
theorem rd_ok {ev : Sls → Rs α} {σ : L2.St} {H : Hp} {Q : β → Hp → Prop} {a : α} {s' : Sls} {F : Hp} {s : Sls} (p : Pst G B W F σ rel (ev s) Q) (e : ev s = .ok a s') : ∀ b F' H', Same F F' → SR G B F' H' σ s' → rel s' F' H' b a → Q b H' := by
  rw [e] at p
  exact p
/-- two values, then an operator -/
theorem rd_bin {ea eb : Sls → Rs T} {o : T → T → Option T} {σ : L2.St} {H : Hp} {Q : VK} (h : rd G B W (relE G) (fun s => (ea s).bind fun x s => (eb s).bind fun y s => Rs.of (o x y) s) σ H Q) :
    tOp (rB G o) (rd G B W (relE G) ea) (rd G B W (relE G) eb) σ H Q := by
  obtain ⟨F, s, sr, p⟩ := h
  refine ⟨F, s, sr, (Pst.bind p).mono ?_⟩
  rintro x H1 ⟨tx, F1, s1, e1, sr1, rx, p1⟩
  refine ⟨F1, s1, sr1, (Pst.bind p1).mono ?_⟩
  rintro y H2 ⟨ty, F2, s2, e2, sr2, ry, p2⟩
  cases h : o tx ty with
  | none => rw [h] at p2; exact p2.elim
  | some z =>
    rw [h] at p2
    exact ⟨F2, tx, ty, z, sr2.sub, Rep.mono e2 _ _ rx, ry, h, fun v F' H' g r => p2 v F' H' g.ff (sr2.grow g) r⟩
/-- a value, then a function of it -/
theorem rd_then {ea : Sls → Rs T} {k : T → Sls → Rs α} {σ : L2.St} {H : Hp} {Q : β → Hp → Prop} (h : rd G B W rel (fun s => (ea s).bind k) σ H Q) :
    rd G B W (relE G) ea σ H fun x H1 => ∃ tx F1 s1, SR G B F1 H1 σ s1 ∧ Rep G F1 x tx ∧ Pst G B W F1 σ rel (k tx s1) Q := by
  obtain ⟨F, s, sr, p⟩ := h
  refine ⟨F, s, sr, (Pst.bind p).mono ?_⟩
  rintro x H1 ⟨tx, F1, s1, e1, sr1, rx, p1⟩
  exact ⟨tx, F1, s1, sr1, rx, p1⟩
end

section
variable {X : Cx} {G : Gx} {B : Fr0} {W : WX} {k : Option Nat} {N : List Str} {sc : Scope} {pos : Pos}
theorem Good.hu (g : Good X G k N sc W) : X.A.units + 65 < cLine := by
  exact g.un

/-! ### names and constants -/
theorem q_var (g : Good X G k N sc W) {i : Nat} {x : Str} (hi : N[i]? = some x) (hv : Vis sc x) (hd : (x == ("__debug__" : Str)) = false) (hcd : (x == ("__classdict__" : Str)) = false) : PE X (.Name x pos) (rdE G B W (.var i)) := by
  refine PE.imp (pe_var (i := i) (by rw [g.hN]; exact hi) (by rw [g.hsc]; exact hv) hd hcd) ?_
  rintro σ H Q ⟨F, s, sr, p⟩
  have p : Pst G B W F σ (relE G) (getV s i) Q := p
  unfold getV at p
  split at p
  · rename_i t e
    obtain ⟨v, h1, h2⟩ := sr.im i t e
    exact ⟨v, h1, p v F H (.refl _) sr h2⟩
  · rename_i ts e
    obtain ⟨a, h1, F', _, sF, sr', rep⟩ := sr.freeze e
    exact ⟨.ref a, h1, p _ F' H sF sr' rep⟩
  · exact p.elim
/-- a slot's own list, its address -/
theorem own_at {F H : Hp} {σ : L2.St} {s : Sls} (sr : SR G B F H σ s) {i : Nat} {ts : List T} (e : ownAt s i = some ts) : ∃ a x, s[i]? = some x ∧ x.own = some ts ∧ σ[i]? = some (some (.ref a)) ∧ LstAt G F H a ts := by
  unfold ownAt at e
  split at e
  · rename_i x h
    obtain ⟨a, h1, h2, _⟩ := sr.own h e
    exact ⟨a, x, h, e, h1, h2⟩
  · cases e
theorem q_cst_int {i : Int} {j : Nat} : PE X (.Constant (.int i) j pos) (rdE G B W (.cst (.int i))) := by
  refine PE.imp pe_int ?_
  rintro σ H Q ⟨F, s, sr, p⟩
  exact p (.int i) F H (.refl _) sr (by simp only [relE, Rep])
theorem q_cst_bl {i : Bool} {j : Nat} : PE X (.Constant (.bool i) j pos) (rdE G B W (.cst (.bl i))) := by
  refine PE.imp pe_bl ?_
  rintro σ H Q ⟨F, s, sr, p⟩
  exact p (.bl i) F H (.refl _) sr (by simp only [relE, Rep])
theorem q_cst_str {i : Str} {j : Nat} : PE X (.Constant (.str i) j pos) (rdE G B W (.cst (.str i))) := by
  refine PE.imp pe_str ?_
  rintro σ H Q ⟨F, s, sr, p⟩
  exact p (.str i) F H (.refl _) sr (by simp only [relE, Rep])
theorem q_cst_non {j : Nat} : PE X (.Constant .none j pos) (rdE G B W (.cst .non)) := by
  refine PE.imp pe_non ?_
  rintro σ H Q ⟨F, s, sr, p⟩
  exact p .non F H (.refl _) sr (by simp only [relE, Rep])
/-- a constant of the module -/
def GloOk (G : Gx) (x : Str) (t : T) : Prop := ∃ v u, G.mg x = some u ∧ RelV v u ∧ ∀ F : Hp, Rep G F v t
theorem q_glo (g : Good X G k N sc W) {x : Str} {t : T} (hl : sc.names.lookup x = some .globalImplicit) (h : GloOk G x t) (hd : (x == ("__debug__" : Str)) = false) : PE X (.Name x pos) (rdE G B W (.glo x t)) := by
  obtain ⟨v, u, h1, h2, h3⟩ := h
  refine PE.imp (pe_glob (v := v) (u := u) (show X.env.scope.names.lookup x = some .globalImplicit by rw [g.hsc]; exact hl) (by rw [g.hmg]; exact h1) h2 hd) ?_
  rintro σ H Q ⟨F, s, sr, p⟩
  exact p v F H (.refl _) sr (h3 F)

/-- its truth -/
theorem tru_rel {F H : Hp} {x : V} {t : T} {b : Bool} (sub : Same F H) (r : Rep G F x t) (h : tru t = some b) : TruV G.K x H b := by
  unfold tru at h
  cases t with
  | non => simp only [Rep] at r; subst r; cases h; rfl
  | bl _ => simp only [Rep] at r; subst r; cases h; rfl
  | int _ => simp only [Rep] at r; subst r; cases h; rfl
  | tup ts =>
    simp only [Rep] at r
    obtain ⟨a, vs, rfl, h2, h3⟩ := r
    cases h
    refine .inr (.inl ⟨vs, sameSqT sub h2, ?_⟩)
    have q := h3.length
    cases ts with
    | nil => rw [List.length_eq_zero_iff.mp q]; rfl
    | cons _ _ => cases vs with
      | nil => cases q
      | cons _ _ => rfl
  | lst ts =>
    simp only [Rep] at r
    obtain ⟨a, vs, rfl, h2, h3⟩ := r
    cases h
    refine .inl ⟨vs, .inl (.inl (sub _ _ h2)), ?_⟩
    have q := h3.length
    cases ts with
    | nil => rw [List.length_eq_zero_iff.mp q]; rfl
    | cons _ _ => cases vs with
      | nil => cases q
      | cons _ _ => rfl
  | _ => cases h
/-! ### operators -/
variable {a b c : Expr} {ea eb ec : E}
theorem q_bin (g : Good X G k N sc W) {o : Bop} {op : Operator} (h : bopOk o op = true) (ha : PE X a (rdE G B W ea)) (hb : PE X b (rdE G B W eb)) : PE X (.BinOp a op b pos) (rdE G B W (.bin o ea eb)) := by
  refine PE.imp (pe_op (op_bop g.hK h) ha hb) fun σ H Q hq => rd_bin (ea := evE ea) (eb := evE eb) ?_
  obtain ⟨F, s, sr, p⟩ := hq
  simp only [evE] at p
  exact ⟨F, s, sr, p⟩
theorem q_neg (ha : PE X a (rdE G B W ea)) : PE X (.UnaryOp .USub a pos) (rdE G B W (.neg ea)) := by
  refine PE.imp (pe_un un_neg ha) fun σ H Q hq => ?_
  obtain ⟨F, s, sr, p⟩ := hq
  simp only [evE] at p
  refine ⟨F, s, sr, (Pst.bind p).mono ?_⟩
  rintro x H1 ⟨tx, F1, s1, e1, sr1, rx, p1⟩
  cases tx with
  | int i =>
    simp only [relE, Rep] at rx
    exact ⟨i, rx, p1 _ F1 H1 (.refl _) sr1 (by simp only [relE, Rep])⟩
  | _ => exact p1.elim
theorem q_cmp (g : Good X G k N sc W) {o : Cop} {op : CmpOp} (h : copOk o op = true) (ha : PE X a (rdE G B W ea)) (hb : PE X b (rdE G B W eb)) (hm : behindInMarks op b = false) : PE X (.Compare a [op] [b] pos) (rdE G B W (.cmp o ea eb)) := by
  refine PE.imp (pe_cmpR (op_cop g.hK g.hu h) ha hb hm) fun σ H Q hq => rd_bin (ea := evE ea) (eb := evE eb) ?_
  obtain ⟨F, s, sr, p⟩ := hq
  simp only [evE] at p
  exact ⟨F, s, sr, p⟩
theorem rd_isB {ea eb : Sls → Rs T} {o : T → T → Option T} {σ : L2.St} {H : Hp} {Q : Bool → Hp → Prop} (h : rd G B W relC (fun s => (ea s).bind fun x s => (eb s).bind fun y s => isB (o x y) s) σ H Q) :
    tTest (tOp (rB G o) (rd G B W (relE G) ea) (rd G B W (relE G) eb)) σ H Q := by
  refine rd_bin ?_
  obtain ⟨F, s, sr, p⟩ := h
  refine ⟨F, s, sr, ?_⟩
  dsimp only at p ⊢
  cases h1 : ea s with
  | bad => rw [h1] at p; exact p.elim
  | ex _ _ _ _ => rw [h1] at p; exact p
  | ok x s1 =>
    rw [h1] at p
    simp only [Rs.bind] at p ⊢
    cases h2 : eb s1 with
    | bad => rw [h2] at p; exact p.elim
    | ex _ _ _ _ => rw [h2] at p; exact p
    | ok y s2 =>
      rw [h2] at p
      simp only at p ⊢
      cases h3 : o x y with
      | none => rw [h3] at p; exact p.elim
      | some z =>
        rw [h3] at p
        cases z with
        | bl k =>
          intro v F' H' e' sr' r
          simp only [relE, Rep] at r
          exact ⟨k, r, p k F' H' e' sr' rfl⟩
        | _ => exact p.elim
theorem q_cmpT (g : Good X G k N sc W) {o : Cop} {op : CmpOp} (h : copOk o op = true) (ha : PE X a (rdE G B W ea)) (hb : PE X b (rdE G B W eb)) (hm : behindInMarks op b = false) : PT X (.Compare a [op] [b] pos) (rd G B W relC (evC (.cmp o ea eb))) := by
  refine PT.imp (pt_cmpR (op_cop g.hK g.hu h) ha hb hm) fun σ H Q hq => rd_isB (ea := evE ea) (eb := evE eb) ?_
  obtain ⟨F, s, sr, p⟩ := hq
  simp only [evC] at p
  exact ⟨F, s, sr, p⟩
/-- the slot's own list on the right -/
theorem rd_cmpB {ea : Sls → Rs T} {o : Cop} {i : Nat} {σ : L2.St} {H : Hp} {Q : VK} (h : rd G B W (relE G) (fun s => (ea s).bind fun x s => match ownAt s i with | some ts => Rs.of (cop o x (.lst ts)) s | none => .bad) σ H Q) :
    tOp (rB G (cop o)) (rd G B W (relE G) ea) (tVar i) σ H Q := by
  obtain ⟨F, s, sr, p⟩ := h
  refine ⟨F, s, sr, (Pst.bind p).mono ?_⟩
  rintro x H1 ⟨tx, F1, s1, e1, sr1, rx, p1⟩
  split at p1
  · rename_i ts ho
    obtain ⟨a, y, h1, h2, h3, ⟨⟨vs, h4, h5⟩, h6⟩⟩ := own_at sr1 ho
    refine ⟨.ref a, h3, ?_⟩
    cases h : cop o tx (.lst ts) with
    | none => rw [h] at p1; exact p1.elim
    | some z =>
      rw [h] at p1
      have hp : ∀ b, b = a → F1 b = none ∧ ∃ vs, H1 b = some (.lst vs) := fun b q => by subst q; exact ⟨h6, vs, h4⟩
      refine ⟨lend F1 H1 (· = a), tx, .lst ts, z, lend_top sr1.sub, Rep.mono (lend_sub hp) _ _ rx, ?_, h, fun v F' H' g r => ?_⟩
      · simp only [Rep]
        exact ⟨a, vs, rfl, lend_at rfl h4, Reps.mono (lend_sub hp) _ _ h5⟩
      · obtain ⟨k, rfl⟩ := cop_bl h
        have g' := g.unlend hp
        exact p1 v _ H' g'.ff (sr1.grow g') (by simpa only [relE, Rep] using r)
  · exact p1.elim
theorem q_cmpB (g : Good X G k N sc W) {o : Cop} {op : CmpOp} {i : Nat} {x : Str} {px : Pos} (h : copOk o op = true) (ha : PE X a (rdE G B W ea)) (hi : N[i]? = some x) (hv : Vis sc x) (hd : (x == ("__debug__" : Str)) = false) (hcd : (x == ("__classdict__" : Str)) = false) (hm : behindInMarks op (.Name x px) = false) :
    PE X (.Compare a [op] [.Name x px] pos) (rdE G B W (.cmpB o ea i)) := by
  refine PE.imp (pe_cmpR (op_cop g.hK g.hu h) ha (pe_var (i := i) (by rw [g.hN]; exact hi) (by rw [g.hsc]; exact hv) hd hcd) hm) fun σ H Q hq => rd_cmpB (ea := evE ea) ?_
  obtain ⟨F, s, sr, p⟩ := hq
  simp only [evE] at p
  exact ⟨F, s, sr, p⟩
theorem q_cmpBT (g : Good X G k N sc W) {o : Cop} {op : CmpOp} {i : Nat} {x : Str} {px : Pos} (h : copOk o op = true) (ha : PE X a (rdE G B W ea)) (hi : N[i]? = some x) (hv : Vis sc x) (hd : (x == ("__debug__" : Str)) = false) (hcd : (x == ("__classdict__" : Str)) = false) (hm : behindInMarks op (.Name x px) = false) :
    PT X (.Compare a [op] [.Name x px] pos) (rd G B W relC (evC (.cmpB o ea i))) := by
  refine PT.imp (pt_cmpR (op_cop g.hK g.hu h) ha (pe_var (i := i) (by rw [g.hN]; exact hi) (by rw [g.hsc]; exact hv) hd hcd) hm) fun σ H Q hq => rd_cmpB (ea := evE ea) ?_
  obtain ⟨F, s, sr, p⟩ := hq
  refine ⟨F, s, sr, ?_⟩
  simp only [evC] at p
  dsimp only at p ⊢
  cases h1 : evE ea s with
  | bad => rw [h1] at p; exact p.elim
  | ex _ _ _ _ => rw [h1] at p; exact p
  | ok x s1 =>
    rw [h1] at p
    simp only [Rs.bind] at p ⊢
    split at p
    · rename_i ts ho
      try rw [ho]
      try simp only
      cases h3 : cop o x (.lst ts) with
      | none => rw [h3] at p; exact p.elim
      | some z =>
        rw [h3] at p
        obtain ⟨k, rfl⟩ := cop_bl h3
        intro v F' H' e' sr' r
        simp only [relE, Rep] at r
        exact ⟨k, r, p k F' H' e' sr' rfl⟩
    · exact p.elim
theorem q_no (ha : PE X a (rdE G B W ea)) (hG : X.K = G.K) : PE X (.UnaryOp .Not a pos) (rdE G B W (.no ea)) := by
  refine ⟨fun pins s σ H Q I hq => ?_⟩
  have h : rd G B W (relE G) (evE ea) σ H fun x H1 => ∃ tx F1 s1, SR G B F1 H1 σ s1 ∧ Rep G F1 x tx ∧ Pst G B W F1 σ (relE G) ((truR tx s1).bind fun b s => Rs.ok (T.bl (!b)) s) Q := by
    refine rd_then (k := fun tx s1 => (truR tx s1).bind fun b s => Rs.ok (T.bl (!b)) s) ?_
    obtain ⟨F, s, sr, p⟩ := hq
    simp only [evE] at p
    exact ⟨F, s, sr, p⟩
  refine PyProof.Rows.UnaryOp_ (thn (ha.run pins s σ H _ I h) fun v s1 ⟨x, H1, I1, r1, tx, F1, sl, sr1, rx, p1⟩ => PyProof.Rows.not_of ?_)
  unfold truR Rs.of at p1
  cases ht : tru tx with
  | none => rw [ht] at p1; exact p1.elim
  | some b =>
    rw [ht] at p1
    refine thn (tru_ok pins s1 σ H1 x v (fun c H2 => c = b ∧ H2 = H1) I1 r1 ⟨b, ?_, rfl, rfl⟩) fun c s2 hc => ?_
    · rw [hG]
      exact tru_rel sr1.sub rx ht
    · obtain ⟨H2, I2, rfl, rfl⟩ := hc
      exact ⟨.bl (!c), H2, I2, rfl, p1 _ F1 H2 (.refl _) sr1 (by simp only [relE, Rep])⟩
end
end FL

/-! FL7: further expressions. -/
namespace FL
open PySem PySem.Spec L2
section
variable {X : Cx} {G : Gx} {B : Fr0} {W : WX} {k : Option Nat} {N : List Str} {sc : Scope} {pos : Pos}
variable {a b c : Expr} {ea eb ec : E} {es : List Expr}

/-! ### chains -/
theorem rd_chn {ea eb ec : Sls → Rs T} {o o' : T → T → Option T} (hb : ∀ x y z, o x y = some z → ∃ k, z = .bl k) {σ : L2.St} {H : Hp} {Q : VK}
    (h : rd G B W (relE G) (fun s => (ea s).bind fun x s => (eb s).bind fun y s => match o x y with
    | some (.bl true) => (ec s).bind fun z s => Rs.of (o' y z) s
    | some (.bl false) => .ok (.bl false) s
    | _ => .bad) σ H Q) : tChain (rB G o) (rB G o') (rd G B W (relE G) ea) (rd G B W (relE G) eb) (rd G B W (relE G) ec) σ H Q := by
  obtain ⟨F, s, sr, p⟩ := h
  refine ⟨F, s, sr, (Pst.bind p).mono ?_⟩
  rintro x H1 ⟨tx, F1, s1, e1, sr1, rx, p1⟩
  refine ⟨F1, s1, sr1, (Pst.bind p1).mono ?_⟩
  rintro y H2 ⟨ty, F2, s2, e2, sr2, ry, p2⟩
  cases h : o tx ty with
  | none => rw [h] at p2; exact p2.elim
  | some z =>
    obtain ⟨k, rfl⟩ := hb _ _ _ h
    rw [h] at p2
    refine ⟨F2, tx, ty, .bl k, sr2.sub, Rep.mono e2 _ _ rx, ry, h, fun v F' H' g r => ?_⟩
    simp only [Rep] at r
    refine ⟨k, r, ?_⟩
    cases k with
    | false =>
      rw [if_neg Bool.false_ne_true]
      exact p2 _ F' H' g.ff (sr2.grow g) (by simp only [relE, Rep])
    | true =>
      rw [if_pos rfl]
      refine ⟨F', s2, sr2.grow g, (Pst.bind (p2.up g.ff)).mono ?_⟩
      rintro w H3 ⟨tw, F3, s3, e3, sr3, rw', p3⟩
      cases h3 : o' ty tw with
      | none => rw [h3] at p3; exact p3.elim
      | some z =>
        rw [h3] at p3
        exact ⟨F3, ty, tw, z, sr3.sub, Rep.mono e3 _ _ (Rep.mono g.ff _ _ ry), rw', h3, fun v F4 H4 g4 r4 => p3 v F4 H4 g4.ff (sr3.grow g4) r4⟩

theorem q_chn (g : Good X G k N sc W) {o o' : Cop} {op op' : CmpOp} (h : copOk o op = true) (h' : copOk o' op' = true) (ha : PE X a (rdE G B W ea)) (hb : PE X b (rdE G B W eb)) (hc : PE X c (rdE G B W ec)) (hm : lastMarks [op, op'] [b, c] = false) :
    PE X (.Compare a [op, op'] [b, c] pos) (rdE G B W (.chn o o' ea eb ec)) := by
  refine PE.imp (pe_chain (op_cop g.hK g.hu h) (op_cop g.hK g.hu h') ha hb hc hm) fun σ H Q hq => rd_chn (ea := evE ea) (eb := evE eb) (ec := evE ec) (fun x y z e => cop_bl e) ?_
  obtain ⟨F, s, sr, p⟩ := hq
  simp only [evE] at p
  exact ⟨F, s, sr, p⟩
/-- from a value that is a truth to a test -/
theorem rs_isB {r : Sls → Rs T} {r' : Sls → Rs Bool} (h : ∀ s, r' s = (r s).bind fun x s => isB (some x) s) {σ : L2.St} {H : Hp} {Q : Bool → Hp → Prop} (hq : rd G B W relC r' σ H Q) :
    rd G B W (relE G) r σ H fun x H' => ∃ k, x = .bl k ∧ Q k H' := by
  obtain ⟨F, s, sr, p⟩ := hq
  refine ⟨F, s, sr, ?_⟩
  rw [h] at p
  cases h1 : r s with
  | bad => rw [h1] at p; exact p.elim
  | ex _ _ _ _ => rw [h1] at p; exact p
  | ok x s1 =>
    rw [h1] at p
    cases x with
    | bl k =>
      intro v F' H' e' sr' r
      simp only [relE, Rep] at r
      exact ⟨k, r, p k F' H' e' sr' rfl⟩
    | _ => exact p.elim
theorem q_chnT (g : Good X G k N sc W) {o o' : Cop} {op op' : CmpOp} (h : copOk o op = true) (h' : copOk o' op' = true) (ha : PE X a (rdE G B W ea)) (hb : PE X b (rdE G B W eb)) (hc : PE X c (rdE G B W ec)) (hm : lastMarks [op, op'] [b, c] = false) :
    PT X (.Compare a [op, op'] [b, c] pos) (rd G B W relC (evC (.chn o o' ea eb ec))) := by
  refine PT.imp (pt_chain (op_cop g.hK g.hu h) (op_cop g.hK g.hu h') ha hb hc hm) fun σ H Q hq => rd_chn (ea := evE ea) (eb := evE eb) (ec := evE ec) (fun x y z e => cop_bl e) ?_
  refine rs_isB (r' := evC (.chn o o' ea eb ec)) (fun s => ?_) hq
  simp only [evC]
  cases evE ea s with
  | bad => rfl
  | ex _ _ _ _ => rfl
  | ok x s1 =>
    simp only [Rs.bind]
    cases evE eb s1 with
    | bad => rfl
    | ex _ _ _ _ => rfl
    | ok y s2 =>
      simp only
      cases h1 : cop o x y with
      | none => rfl
      | some z =>
        obtain ⟨q, rfl⟩ := cop_bl h1
        cases q with
        | false => rfl
        | true =>
          simp only
          cases evE ec s2 with
          | bad => rfl
          | ex _ _ _ _ => rfl
          | ok w s3 =>
            simp only
            cases cop o' y w <;> rfl

/-! ### and, or, if -/
theorem q_bo1 {op : PySem.BoolOp} {ia : Bool} (ha : PE X a (rdE G B W ea)) : PE X (.BoolOp op [a] pos) (rd G B W (relE G) (evBo ia (.cons ea .nil))) := by
  refine PE.imp (pe_one ha) fun σ H Q hq => ?_
  obtain ⟨F, s, sr, p⟩ := hq
  simp only [evBo] at p
  exact ⟨F, s, sr, p⟩
theorem rd_bo {ea : E} {eb : E} {es : Es} {ia : Bool} {σ : L2.St} {H : Hp} {Q : VK} (hq : rd G B W (relE G) (evBo ia (.cons ea (.cons eb es))) σ H Q) :
    rdE G B W ea σ H fun x H1 => ∃ c, x = .bl c ∧ if c = ia then rd G B W (relE G) (evBo ia (.cons eb es)) σ H1 Q else Q (.bl c) H1 := by
  obtain ⟨F, s, sr, p⟩ := hq
  simp only [evBo] at p
  refine ⟨F, s, sr, (Pst.bind p).mono ?_⟩
  rintro x H1 ⟨tx, F1, s1, e1, sr1, rx, p1⟩
  cases tx with
  | bl c =>
    simp only [relE, Rep] at rx
    refine ⟨c, rx, ?_⟩
    simp only at p1
    split
    · rename_i hc
      rw [if_pos hc] at p1
      exact ⟨F1, s1, sr1, p1⟩
    · rename_i hc
      rw [if_neg hc] at p1
      exact p1 _ F1 H1 (.refl _) sr1 (by simp only [relE, Rep])
  | _ => exact p1.elim
theorem q_and {es : Es} {rest : List Expr} (ha : PE X a (rdE G B W ea)) (hb : PE X (.BoolOp .And (b :: rest) pos) (rd G B W (relE G) (evBo true (.cons eb es)))) : PE X (.BoolOp .And (a :: b :: rest) pos) (rd G B W (relE G) (evBo true (.cons ea (.cons eb es)))) := by
  refine PE.imp (pe_and ha hb) fun σ H Q hq => ?_
  obtain ⟨F, s, sr, p⟩ := rd_bo hq
  refine ⟨F, s, sr, p.mono ?_⟩
  rintro x H1 ⟨c, rfl, h⟩
  refine ⟨c, rfl, ?_⟩
  cases c with
  | true => rw [if_pos rfl] at h ⊢; exact h
  | false => rw [if_neg Bool.false_ne_true] at h ⊢; exact h
theorem q_or {es : Es} {rest : List Expr} (ha : PE X a (rdE G B W ea)) (hb : PE X (.BoolOp .Or (b :: rest) pos) (rd G B W (relE G) (evBo false (.cons eb es)))) : PE X (.BoolOp .Or (a :: b :: rest) pos) (rd G B W (relE G) (evBo false (.cons ea (.cons eb es)))) := by
  refine PE.imp (pe_or ha hb) fun σ H Q hq => ?_
  obtain ⟨F, s, sr, p⟩ := rd_bo hq
  refine ⟨F, s, sr, p.mono ?_⟩
  rintro x H1 ⟨c, rfl, h⟩
  refine ⟨c, rfl, ?_⟩
  cases c with
  | true => rw [if_neg (by decide)] at h; rw [if_pos rfl]; exact h
  | false => rw [if_pos rfl] at h; rw [if_neg Bool.false_ne_true]; exact h
abbrev rdC (G : Gx) (B : Fr0) (W : WX) (c : C) : TT := rd G B W relC (evC c)
variable {ca cb : C}
theorem q_bo1T {op : PySem.BoolOp} {ia : Bool} (ho : op = .And ∨ op = .Or) (ha : PT X a (rdC G B W ca)) : PW X (.BoolOp op [a] pos) (rd G B W relC (evCs ia (.cons ca .nil))) := by
  have k : ∀ σ H Q, rd G B W relC (evCs ia (.cons ca .nil)) σ H Q → rdC G B W ca σ H Q := fun σ H Q hq => by
    obtain ⟨F, s, sr, p⟩ := hq
    simp only [evCs] at p
    exact ⟨F, s, sr, p⟩
  rcases ho with rfl | rfl
  · exact PW.imp (pw_and1 ha) k
  · exact PW.imp (pw_or1 ha) k
theorem rd_boT {cs : Cs} {ia : Bool} {σ : L2.St} {H : Hp} {Q : Bool → Hp → Prop} (hq : rd G B W relC (evCs ia (.cons ca (.cons cb cs))) σ H Q) :
    rdC G B W ca σ H fun c H1 => if c = ia then rd G B W relC (evCs ia (.cons cb cs)) σ H1 Q else Q c H1 := by
  obtain ⟨F, s, sr, p⟩ := hq
  simp only [evCs] at p
  refine ⟨F, s, sr, (Pst.bind p).mono ?_⟩
  rintro c H1 ⟨d, F1, s1, e1, sr1, rfl, p1⟩
  split
  · rename_i hc
    rw [if_pos hc] at p1
    exact ⟨F1, s1, sr1, p1⟩
  · rename_i hc
    rw [if_neg hc] at p1
    exact p1 _ F1 H1 (.refl _) sr1 rfl
theorem q_andT {cs : Cs} {rest : List Expr} (ha : PT X a (rdC G B W ca)) (hb : PW X (.BoolOp .And (b :: rest) pos) (rd G B W relC (evCs true (.cons cb cs)))) : PW X (.BoolOp .And (a :: b :: rest) pos) (rd G B W relC (evCs true (.cons ca (.cons cb cs)))) := by
  refine PW.imp (pw_and ha hb) fun σ H Q hq => ?_
  obtain ⟨F, s, sr, p⟩ := rd_boT hq
  refine ⟨F, s, sr, p.mono ?_⟩
  rintro c H1 h
  cases c with
  | true => rw [if_pos rfl] at h ⊢; exact h
  | false => rw [if_neg Bool.false_ne_true] at h ⊢; exact h
theorem q_orT {cs : Cs} {rest : List Expr} (ha : PT X a (rdC G B W ca)) (hb : PW X (.BoolOp .Or (b :: rest) pos) (rd G B W relC (evCs false (.cons cb cs)))) : PW X (.BoolOp .Or (a :: b :: rest) pos) (rd G B W relC (evCs false (.cons ca (.cons cb cs)))) := by
  refine PW.imp (pw_or ha hb) fun σ H Q hq => ?_
  obtain ⟨F, s, sr, p⟩ := rd_boT hq
  refine ⟨F, s, sr, p.mono ?_⟩
  rintro c H1 h
  cases c with
  | true => rw [if_neg (by decide)] at h; rw [if_pos rfl]; exact h
  | false => rw [if_pos rfl] at h; rw [if_neg Bool.false_ne_true]; exact h
theorem q_boT {op : PySem.BoolOp} {rest : List Expr} {ia : Bool} {cs : Cs} (h : PW X (.BoolOp op rest pos) (rd G B W relC (evCs ia cs))) : PT X (.BoolOp op rest pos) (rdC G B W (.bo ia cs)) := by
  refine PT.imp h.pt fun σ H Q hq => ?_
  obtain ⟨F, s, sr, p⟩ := hq
  simp only [evC] at p
  exact ⟨F, s, sr, p⟩
theorem q_boV {op : PySem.BoolOp} {rest : List Expr} {ia : Bool} {es : Es} (h : PE X (.BoolOp op rest pos) (rd G B W (relE G) (evBo ia es))) : PE X (.BoolOp op rest pos) (rdE G B W (.bo ia es)) := by
  refine PE.imp h fun σ H Q hq => ?_
  obtain ⟨F, s, sr, p⟩ := hq
  simp only [evE] at p
  exact ⟨F, s, sr, p⟩
theorem q_noT (ha : PT X a (rdC G B W ca)) : PT X (.UnaryOp .Not a pos) (rdC G B W (.no ca)) := by
  refine PT.imp (pt_not ha) fun σ H Q hq => ?_
  obtain ⟨F, s, sr, p⟩ := hq
  simp only [evC] at p
  refine ⟨F, s, sr, (Pst.bind p).mono ?_⟩
  rintro c H1 ⟨d, F1, s1, e1, sr1, rfl, p1⟩
  exact p1 _ F1 H1 (.refl _) sr1 rfl
theorem q_ite (hc : PT X c (rdC G B W ca)) (ha : PE X a (rdE G B W ea)) (hb : PE X b (rdE G B W eb)) : PE X (.IfExp c a b pos) (rdE G B W (.ite ca ea eb)) := by
  refine PE.imp (pe_ifExp hc ha hb) fun σ H Q hq => ?_
  obtain ⟨F, s, sr, p⟩ := hq
  simp only [evE] at p
  refine ⟨F, s, sr, (Pst.bind p).mono ?_⟩
  rintro d H1 ⟨d', F1, s1, e1, sr1, rfl, p1⟩
  cases d with
  | true => rw [if_pos rfl] at p1 ⊢; exact ⟨F1, s1, sr1, p1⟩
  | false => rw [if_neg Bool.false_ne_true] at p1 ⊢; exact ⟨F1, s1, sr1, p1⟩
/-- a value's truth as a test -/
theorem q_ce (hG : X.K = G.K) (ha : PE X a (rdE G B W ea)) (he : ∀ whole, isTrue a X.env whole = (do let v ← whole; standAt a.pos; holding [v] (truthy v))) : PT X a (rdC G B W (.e ea)) := by
  refine PT.imp (pt_truth ha he) fun σ H Q hq => ?_
  have h := rd_then (ea := evE ea) (k := truR) (rel := relC) (G := G) (B := B) (W := W) (σ := σ) (H := H) (Q := Q) (by
    obtain ⟨F, s, sr, p⟩ := hq
    simp only [evC] at p
    exact ⟨F, s, sr, p⟩)
  obtain ⟨F, s, sr, p⟩ := h
  refine ⟨F, s, sr, p.mono ?_⟩
  rintro x H1 ⟨tx, F1, s1, sr1, rx, p1⟩
  unfold truR Rs.of at p1
  cases ht : tru tx with
  | none => rw [ht] at p1; exact p1.elim
  | some b =>
    rw [ht] at p1
    refine ⟨b, ?_, p1 b F1 H1 (.refl _) sr1 rfl⟩
    rw [hG]
    exact tru_rel sr1.sub rx ht
/-- a slot's own list as a test -/
theorem q_trB (g : Good X G k N sc W) {i : Nat} {x : Str} (hi : N[i]? = some x) (hv : Vis sc x) (hd : (x == ("__debug__" : Str)) = false) (hcd : (x == ("__classdict__" : Str)) = false) : PT X (.Name x pos) (rdC G B W (.trB i)) := by
  refine PT.imp (pt_truth (pe_var (i := i) (by rw [g.hN]; exact hi) (by rw [g.hsc]; exact hv) hd hcd) (fun _ => rfl)) fun σ H Q hq => ?_
  obtain ⟨F, s, sr, p⟩ := hq
  simp only [evC] at p
  split at p
  · rename_i ts ho
    obtain ⟨a, y, h1, h2, h3, ⟨⟨vs, h4, h5⟩, h6⟩⟩ := own_at sr ho
    refine ⟨.ref a, h3, !ts.isEmpty, ?_, p _ F H (.refl _) sr rfl⟩
    refine .inl ⟨vs, .inl (.inl h4), ?_⟩
    have q := h5.length
    cases ts with
    | nil => rw [List.length_eq_zero_iff.mp q]; rfl
    | cons _ _ => cases vs with
      | nil => cases q
      | cons _ _ => rfl
  · exact p.elim

/-! ### rows of values, tuples -/
theorem q_nil : PA X [] (rd G B W (relEs G) (evEs .nil)) := by
  refine PA.imp pa_nil fun σ H Q hq => ?_
  obtain ⟨F, s, sr, p⟩ := hq
  simp only [evEs] at p
  exact p [] F H (.refl _) sr (by simp only [relEs, Reps])
theorem q_cons {fs : Es} (ha : PE X a (rdE G B W ea)) (hr : PA X es (rd G B W (relEs G) (evEs fs))) (hs : starEach (a :: es) X.env = (false, eval a X.env) :: starEach es X.env) : PA X (a :: es) (rd G B W (relEs G) (evEs (.cons ea fs))) := by
  refine PA.imp (pa_cons ha hr hs) fun σ H Q hq => ?_
  obtain ⟨F, s, sr, p⟩ := hq
  simp only [evEs] at p
  refine ⟨F, s, sr, (Pst.bind p).mono ?_⟩
  rintro x H1 ⟨tx, F1, s1, e1, sr1, rx, p1⟩
  refine ⟨F1, s1, sr1, (Pst.bind p1).mono ?_⟩
  rintro xs H2 ⟨txs, F2, s2, e2, sr2, rxs, p2⟩
  exact p2 (x :: xs) F2 H2 (.refl _) sr2 (Reps.cons (Rep.mono e2 _ _ rx) rxs)
theorem q_tup {fs : Es} {x1 : Nat} (h : PA X es (rd G B W (relEs G) (evEs fs))) : PE X (.Tuple es x1 pos) (rdE G B W (.tup fs)) := by
  refine PE.imp (pe_tup h) fun σ H Q hq => ?_
  obtain ⟨F, s, sr, p⟩ := hq
  simp only [evE] at p
  refine ⟨F, s, sr, (Pst.bind p).mono ?_⟩
  rintro xs H1 ⟨ts, F1, s1, e1, sr1, rx, p1⟩
  simp only [relEs] at rx
  split at p1
  · rename_i hl
    refine ⟨by rw [rx.length, ← big_eq]; exact hl, fun q hn => ?_⟩
    have gr := Grow.laid (o := .tup xs) sr1.sub hn
    refine p1 _ _ _ gr.ff (sr1.grow gr) ?_
    simp only [relE, Rep]
    exact ⟨q, xs, rfl, .inl (.inl upd_same), Reps.mono gr.ff _ _ rx⟩
  · exact p1.elim

/-! ### items, slices, fields -/
theorem atI_reps {F : Hp} {vs : List V} {ts : List T} {i : Int} {t : T} (r : Reps G F vs ts) (h : atI ts i = some t) : ∃ v, atI vs i = some v ∧ Rep G F v t := by
  unfold atI at h ⊢
  rw [r.length]
  cases e : ixN ts.length i with
  | none => rw [e] at h; cases h
  | some j =>
    rw [e] at h
    simp only [Option.bind_some] at h ⊢
    obtain ⟨v, h1, h2⟩ := r.get h
    exact ⟨v, h1, h2⟩
theorem ix_rB (hG : X.K = G.K) : IxR X (rB G idxT) := by
  intro ve se pins s σ H x y v u Q I rx ry hh hsb
  obtain ⟨F, tx, ty, z, sub, hx, hy, e, k⟩ := hh
  have k0 : ∀ v, Rep G F v z → Q v H := fun v r => k v F H (.refl sub) r
  unfold idxT at e
  split at e
  · simp only [Rep] at hx hy
    obtain ⟨a, vs, rfl, h2, h3⟩ := hx
    subst hy
    obtain ⟨w, h4, h5⟩ := atI_reps h3 e
    exact ix_tup ve se pins s σ H _ _ v u Q I rx ry ⟨a, vs, _, w, rfl, rfl, by rw [hG]; exact sameSqT sub h2, h4, k0 _ h5⟩ hsb
  · simp only [Rep] at hx hy
    obtain ⟨a, vs, rfl, h2, h3⟩ := hx
    subst hy
    obtain ⟨w, h4, h5⟩ := atI_reps h3 e
    exact ix_list ve se pins s σ H _ _ v u Q I rx ry ⟨a, vs, _, w, rfl, rfl, .inl (.inl (sub _ _ h2)), h4, k0 _ h5⟩ hsb
  · simp only [Rep] at hx hy
    subst hx hy
    split at e
    · rename_i hl
      cases h : atI (Array.toList (Str.cps ‹Str›)) ‹Int› with
      | none => rw [h] at e; cases e
      | some c =>
        rw [h] at e
        cases e
        exact ix_str ve se pins s σ H _ _ v u Q I rx ry ⟨_, _, c, rfl, rfl, by rw [← big_eq]; exact hl, h, k0 _ (by simp only [Rep])⟩ hsb
    · cases e
  · cases e
theorem q_idx (hG : X.K = G.K) (ha : PE X a (rdE G B W ea)) (hb : PE X b (rdE G B W eb)) (hs : PlainIx b) : PE X (.Subscript a b pos) (rdE G B W (.idx ea eb)) := by
  refine PE.imp (pe_ix (ix_rB hG) ha hb hs) fun σ H Q hq => rd_bin (ea := evE ea) (eb := evE eb) ?_
  obtain ⟨F, s, sr, p⟩ := hq
  simp only [evE] at p
  exact ⟨F, s, sr, p⟩
theorem SR.same_own {F H F1 H1 : Hp} {σ : L2.St} {s s1 : Sls} {i : Nat} {ts us : List T} {v : V} (sr : SR G B F H σ s) (sr1 : SR G B F1 H1 σ s1) (e : ownAt s i = some ts) (e1 : ownAt s1 i = some us) (h : σ[i]? = some (some v)) : ∃ a, v = .ref a ∧ LstAt G F1 H1 a us := by
  obtain ⟨a, y, h1, h2, h3, h4⟩ := own_at sr1 e1
  rw [h] at h3
  cases h3
  exact ⟨a, rfl, h4⟩
theorem q_idxB (g : Good X G k N sc W) {i : Nat} {x : Str} {px : Pos} (hi : N[i]? = some x) (hv : Vis sc x) (hd : (x == ("__debug__" : Str)) = false) (hcd : (x == ("__classdict__" : Str)) = false) (hb : PE X b (rdE G B W eb)) (hs : PlainIx b) :
    PE X (.Subscript (.Name x px) b pos) (rdE G B W (.idxB i eb)) := by
  refine PE.imp (pe_ix ix_list (pe_var (i := i) (by rw [g.hN]; exact hi) (by rw [g.hsc]; exact hv) hd hcd) hb hs) fun σ H Q hq => ?_
  obtain ⟨F, s, sr, p⟩ := hq
  simp only [evE] at p
  split at p
  · rename_i ts0 ho
    obtain ⟨a, y, h1, h2, h3, _⟩ := own_at sr ho
    refine ⟨.ref a, h3, F, s, sr, (Pst.bind p).mono ?_⟩
    rintro y H1 ⟨ty, F1, s1, e1, sr1, ry, p1⟩
    split at p1
    · rename_i ts ho1
      obtain ⟨a', h5, ⟨⟨vs, h6, h7⟩, h8⟩⟩ := sr.same_own sr1 ho ho1 h3
      cases h5
      cases ty with
      | int j =>
        simp only [relE, Rep] at ry
        simp only [idxT] at p1
        cases h : atI ts j with
        | none => rw [h] at p1; exact p1.elim
        | some t =>
          rw [h] at p1
          obtain ⟨w, h9, h10⟩ := atI_reps h7 h
          exact ⟨a, vs, j, w, rfl, ry, .inl (.inl h6), h9, p1 w F1 H1 (.refl _) sr1 h10⟩
      | _ => exact p1.elim
    · exact p1.elim
  · exact p.elim
theorem cut_reps {F : Hp} {vs : List V} {ts : List T} (r : Reps G F vs ts) (lo hi : Option Int) : Reps G F (cutV vs lo hi) (cutT ts lo hi) := by
  unfold cutV cutT
  rw [r.length]
  exact Reps.take _ (Reps.drop _ r)
/-- a slice's end -/
theorem q_on {o : Oe} (h : o = .none) : PO X none (rd G B W relO (evO o)) := by
  subst h
  refine PO.imp po_none fun σ H Q hq => ?_
  obtain ⟨F, s, sr, p⟩ := hq
  simp only [evO] at p
  exact p none F H (.refl _) sr rfl
theorem q_os (ha : PE X a (rdE G B W ea)) : PO X (some a) (rd G B W relO (evO (.some ea))) := by
  refine PO.imp (po_some ha) fun σ H Q hq => ?_
  obtain ⟨F, s, sr, p⟩ := hq
  simp only [evO] at p
  refine ⟨F, s, sr, (Pst.bind p).mono ?_⟩
  rintro x H1 ⟨tx, F1, s1, e1, sr1, rx, p1⟩
  cases tx with
  | int i =>
    simp only [relE, Rep] at rx
    exact ⟨i, rx, p1 _ F1 H1 (.refl _) sr1 rfl⟩
  | _ => exact p1.elim
/-- a slice of a value -/
theorem rd_sl {α : Type} {rel : Sls → Hp → Hp → V → α → Prop} {el eh : Oe} {f : T → Option Int → Option Int → Sls → Rs α} {r : V → Option Int → Option Int → Hp → VK → Prop} {σ : L2.St} {H : Hp} {Q : VK}
    (hr : ∀ (F H : Hp) (s : Sls) (x : V) (tx : T) (l h : Option Int), SR G B F H σ s → Rep G F x tx → Pst G B W F σ rel (f tx l h s) Q → r x l h H Q)
    (hq : rd G B W rel (fun s => (evE ea s).bind fun x s => (evO el s).bind fun l s => (evO eh s).bind fun h s => f x l h s) σ H Q) :
    tSl r (rdE G B W ea) (rd G B W relO (evO el)) (rd G B W relO (evO eh)) σ H Q := by
  obtain ⟨F, s, sr, p⟩ := hq
  refine ⟨F, s, sr, (Pst.bind p).mono ?_⟩
  rintro x H1 ⟨tx, F1, s1, e1, sr1, rx, p1⟩
  refine ⟨F1, s1, sr1, (Pst.bind p1).mono ?_⟩
  rintro l H2 ⟨l', F2, s2, e2, sr2, rfl, p2⟩
  refine ⟨F2, s2, sr2, (Pst.bind p2).mono ?_⟩
  rintro h H3 ⟨h', F3, s3, e3, sr3, rfl, p3⟩
  exact hr _ _ _ _ _ _ _ sr3 (Rep.mono e3 _ _ (Rep.mono e2 _ _ rx)) p3
theorem q_slc (hG : X.K = G.K) {lo hi : Option Expr} {el eh : Oe} {p2 : Pos} (ha : PE X a (rdE G B W ea)) (hl : PO X lo (rd G B W relO (evO el))) (hh : PO X hi (rd G B W relO (evO eh))) : PE X (.Subscript a (.Slice lo hi none p2) pos) (rdE G B W (.slc ea el eh)) := by
  refine PE.imp (pe_slice (sl_tup.or sl_str) ha hl hh) fun σ H Q hq => ?_
  refine rd_sl (f := fun x l h s => match x with
    | .tup ts => if HT.sIx ts.length 0 l = 0 ∧ HT.sIx ts.length ts.length h = ts.length then .bad else .ok (.tup (cutT ts l h)) s
    | .str z => if z.length ≤ big then .ok (.str (cutS z l h)) s else .bad
    | _ => .bad) (rel := relE G) ?_ ?_
  · intro F H s x tx l h sr rx p
    cases tx with
    | tup ts =>
      simp only [Rep] at rx
      obtain ⟨a, vs, rfl, h2, h3⟩ := rx
      simp only at p
      split at p
      · exact p.elim
      · rename_i hc
        refine .inl ⟨a, vs, rfl, by rw [hG]; exact sameSqT sr.sub h2, by rw [h3.length]; exact hc, fun q hn => ?_⟩
        have gr := Grow.laid (o := .tup (cutV vs l h)) sr.sub hn
        refine p _ _ _ gr.ff (sr.grow gr) ?_
        simp only [relE, Rep]
        exact ⟨q, _, rfl, .inl (.inl upd_same), Reps.mono gr.ff _ _ (cut_reps h3 l h)⟩
    | str z =>
      simp only [Rep] at rx
      simp only at p
      split at p
      · rename_i hz
        exact .inr ⟨z, rx, by rw [← big_eq]; exact hz, p _ F H (.refl _) sr (by simp only [relE, Rep])⟩
      · exact p.elim
    | _ => exact p.elim
  · obtain ⟨F, s, sr, p⟩ := hq
    simp only [evE] at p
    exact ⟨F, s, sr, p⟩
/-- a new list -/
theorem relM_new {F H : Hp} {σ : L2.St} {s : Sls} {q : Addr} {vs : List V} {ts : List T} (sr : SR G B F H σ s) (hn : H q = none) (r : Reps G F vs ts) : Grow F H F (upd H q (.lst vs)) ∧ relM G B σ s F (upd H q (.lst vs)) (.ref q) ts := by
  have hpa : ∀ a, B.pa = some a → H a ≠ none := fun a e z => by
    obtain ⟨ws, h⟩ := sr.pl a e
    rw [z] at h
    cases h
  have gr := Grow.put (o := .lst vs) sr.sub hn
  refine ⟨gr, q, rfl, ⟨⟨vs, upd_same, r⟩, sr.sub.free hn⟩, ?_, fun e => hpa q e hn, fun j x e o h => ?_⟩
  · cases h0 : B.H0 q with
    | none => rfl
    | some o =>
      by_cases hb : B.pa = some q
      · exact (hpa q hb hn).elim
      · rw [sr.fr q o h0 hb] at hn
        cases hn
  · cases ho : x.own with
    | none => rw [ho] at o; cases o
    | some us =>
      obtain ⟨a, h1, ⟨⟨ws, h2, _⟩, _⟩, _⟩ := sr.own e ho
      rw [h] at h1
      cases h1
      rw [hn] at h2
      cases h2
end
end FL

/-! FL8: built-ins, isinstance, fields, new lists. -/
namespace FL
open PySem PySem.Spec L2
section
variable {X : Cx} {G : Gx} {B : Fr0} {W : WX} {k : Option Nat} {N : List Str} {sc : Scope} {pos : Pos}
variable {a b c : Expr} {ea eb ec : E} {es : List Expr}

/-! ### built-ins -/
def rBi (G : Gx) (b : Bi) : List V → Hp → VK → Prop := fun vs H Q => ∃ F ts z, Same F H ∧ Reps G F vs ts ∧ biF b ts = some z ∧ ∀ v F' H', Grow F H F' H' → Rep G F' v z → Q v H'
theorem reps1 {F : Hp} {vs : List V} {t : T} (h : Reps G F vs [t]) : ∃ v, vs = [v] ∧ Rep G F v t := by
  simp only [Reps] at h
  obtain ⟨v, r, rfl, h2, rfl⟩ := h
  exact ⟨v, rfl, h2⟩
theorem reps2 {F : Hp} {vs : List V} {t u : T} (h : Reps G F vs [t, u]) : ∃ v w, vs = [v, w] ∧ Rep G F v t ∧ Rep G F w u := by
  simp only [Reps] at h
  obtain ⟨v, r, rfl, h2, w, r', rfl, h3, rfl⟩ := h
  exact ⟨v, w, rfl, h2, h3⟩
theorem rd_bi {bb : Bi} {fs : Es} {σ : L2.St} {H : Hp} {Q : VK} (hq : rdE G B W (.bi bb fs) σ H Q) : tCB (rBi G bb) (rd G B W (relEs G) (evEs fs)) σ H Q := by
  obtain ⟨F, s, sr, p⟩ := hq
  simp only [evE] at p
  refine ⟨F, s, sr, (Pst.bind p).mono ?_⟩
  rintro xs H1 ⟨ts, F1, s1, e1, sr1, rx, p1⟩
  cases h : biF bb ts with
  | none => rw [h] at p1; exact p1.elim
  | some z =>
    rw [h] at p1
    exact ⟨F1, ts, z, sr1.sub, rx, h, fun v F' H' g r => p1 v F' H' g.ff (sr1.grow g) r⟩
theorem cr_len (hG : X.K = G.K) : CallR X (.builtin "len") (rBi G .len) := by
  intro pins s σ H vs us Q I r h
  obtain ⟨F, ts, z, sub, rv, e, k⟩ := h
  have k0 : ∀ v, Rep G F v z → Q v H := fun v r => k v F H (.refl sub) r
  simp only [biF] at e
  split at e <;> try cases e
  · split at e
    · rename_i hl
      cases e
      obtain ⟨v, rfl, r1⟩ := reps1 rv
      simp only [Rep] at r1
      subst r1
      exact call_len pins s σ H _ us Q I r ⟨_, _, rfl, ⟨by rw [← big_eq]; exact hl, rfl⟩, k0 _ (by simp only [Rep])⟩
    · cases e
  · obtain ⟨v, rfl, r1⟩ := reps1 rv
    simp only [Rep] at r1
    obtain ⟨a, vs, rfl, h2, h3⟩ := r1
    exact call_len pins s σ H _ us Q I r ⟨_, _, rfl, .inr ⟨vs, by rw [hG]; exact sameSqT sub h2, rfl⟩, k0 _ (by simp only [Rep, h3.length])⟩
  · obtain ⟨v, rfl, r1⟩ := reps1 rv
    simp only [Rep] at r1
    obtain ⟨a, vs, rfl, h2, h3⟩ := r1
    exact call_len pins s σ H _ us Q I r ⟨_, _, rfl, .inl ⟨vs, .inl (.inl (sub _ _ h2)), rfl⟩, k0 _ (by simp only [Rep, h3.length])⟩
  · obtain ⟨v, rfl, r1⟩ := reps1 rv
    simp only [Rep] at r1
    obtain ⟨a, vs, rfl, h2, h3⟩ := r1
    exact call_len pins s σ H _ us Q I r ⟨_, _, rfl, .inl ⟨vs, by rw [hG]; exact sub.seq h2, rfl⟩, k0 _ (by simp only [Rep, h3.length])⟩
theorem cr_abs : CallR X (.builtin "abs") (rBi G .abs) := by
  intro pins s σ H vs us Q I r h
  obtain ⟨F, ts, z, sub, rv, e, k⟩ := h
  have k0 : ∀ v, Rep G F v z → Q v H := fun v r => k v F H (.refl sub) r
  simp only [biF] at e
  split at e <;> try cases e
  · obtain ⟨v, rfl, r1⟩ := reps1 rv
    simp only [Rep] at r1
    subst r1
    exact call_abs pins s σ H _ us Q I r ⟨_, rfl, k0 _ (by simp only [Rep])⟩
theorem cr_int : CallR X (.type "int") (rBi G .int) := by
  intro pins s σ H vs us Q I r h
  obtain ⟨F, ts, z, sub, rv, e, k⟩ := h
  have k0 : ∀ v, Rep G F v z → Q v H := fun v r => k v F H (.refl sub) r
  simp only [biF] at e
  split at e <;> try cases e
  · obtain ⟨v, rfl, r1⟩ := reps1 rv
    simp only [Rep] at r1
    subst r1
    exact call_int1 pins s σ H _ us Q I r (.inl ⟨_, rfl, k0 _ (by simp only [Rep])⟩)
  · obtain ⟨v, rfl, r1⟩ := reps1 rv
    simp only [Rep] at r1
    subst r1
    exact call_int1 pins s σ H _ us Q I r (.inr ⟨_, rfl, k0 _ (by simp only [Rep])⟩)
  · split at e
    · rename_i a hl
      obtain ⟨v, rfl, r1⟩ := reps1 rv
      simp only [Rep] at r1
      subst r1
      cases h : PySem.intText? a with
      | none => rw [h] at e; cases e
      | some n =>
        rw [h] at e
        cases e
        exact call_int_str pins s σ H _ us Q I r ⟨_, _, rfl, h, hl, k0 _ (by simp only [Rep])⟩
    · cases e
theorem cr_str : CallR X (.type "str") (rBi G .str) := by
  intro pins s σ H vs us Q I r h
  obtain ⟨F, ts, z, sub, rv, e, k⟩ := h
  have k0 : ∀ v, Rep G F v z → Q v H := fun v r => k v F H (.refl sub) r
  simp only [biF] at e
  split at e <;> try cases e
  · split at e
    · rename_i hl
      cases e
      obtain ⟨v, rfl, r1⟩ := reps1 rv
      simp only [Rep] at r1
      subst r1
      exact call_str_int pins s σ H _ us Q I r ⟨_, rfl, hl, k0 _ (by simp only [Rep])⟩
    · cases e
theorem cr_max2 (hc : X.calm = true) : CallR X (.builtin "max") (rBi G .max2) := by
  intro pins s σ H vs us Q I r h
  obtain ⟨F, ts, z, sub, rv, e, k⟩ := h
  have k0 : ∀ v, Rep G F v z → Q v H := fun v r => k v F H (.refl sub) r
  simp only [biF] at e
  split at e <;> try cases e
  · obtain ⟨v, w, rfl, r1, r2⟩ := reps2 rv
    simp only [Rep] at r1 r2
    subst r1 r2
    exact call_max2 hc pins s σ H _ us Q I r ⟨_, _, rfl, k0 _ (by simp only [Rep])⟩
theorem cr_min2 (hc : X.calm = true) : CallR X (.builtin "min") (rBi G .min2) := by
  intro pins s σ H vs us Q I r h
  obtain ⟨F, ts, z, sub, rv, e, k⟩ := h
  have k0 : ∀ v, Rep G F v z → Q v H := fun v r => k v F H (.refl sub) r
  simp only [biF] at e
  split at e <;> try cases e
  · obtain ⟨v, w, rfl, r1, r2⟩ := reps2 rv
    simp only [Rep] at r1 r2
    subst r1 r2
    exact call_min2 hc pins s σ H _ us Q I r ⟨_, _, rfl, k0 _ (by simp only [Rep])⟩
theorem cr_gcdT : CallR X (.builtin "math.gcd") (rBi G .gcd) := by
  intro pins s σ H vs us Q I r h
  obtain ⟨F, ts, z, sub, rv, e, k⟩ := h
  have k0 : ∀ v, Rep G F v z → Q v H := fun v r => k v F H (.refl sub) r
  simp only [biF] at e
  split at e <;> try cases e
  · obtain ⟨v, w, rfl, r1, r2⟩ := reps2 rv
    simp only [Rep] at r1 r2
    subst r1 r2
    exact cr_gcd pins s σ H _ us Q I r ⟨_, _, rfl, k0 _ (by simp only [Rep])⟩
theorem cr_tuple (hG : X.K = G.K) : CallR X (.type "tuple") (rBi G .tuple) := by
  intro pins s σ H vs us Q I r h
  obtain ⟨F, ts, z, sub, rv, e, k⟩ := h
  have k0 : ∀ v, Rep G F v z → Q v H := fun v r => k v F H (.refl sub) r
  simp only [biF] at e
  split at e <;> try cases e
  · obtain ⟨v, rfl, r1⟩ := reps1 rv
    simp only [Rep] at r1
    obtain ⟨a, vs, rfl, h2, h3⟩ := r1
    refine call_tuple_of pins s σ H _ us Q I r ⟨a, vs, rfl, .inl ⟨.inl (.inl (sub _ _ h2)), fun q hn => ?_⟩⟩
    have gr := Grow.laid (o := .tup vs) sub hn
    refine k _ _ _ gr ?_
    simp only [Rep]
    exact ⟨q, vs, rfl, .inl (.inl upd_same), Reps.mono gr.ff _ _ h3⟩
  · obtain ⟨v, rfl, r1⟩ := reps1 rv
    have r2 := r1
    simp only [Rep] at r1
    obtain ⟨a, vs, rfl, h2, h3⟩ := r1
    exact call_tuple_of pins s σ H _ us Q I r ⟨a, vs, rfl, .inr ⟨by rw [hG]; exact sameSqT sub h2, k0 _ r2⟩⟩
/-- which name calls it -/
def biName : Bi → Str
  | .len => "len" | .abs => "abs" | .int => "int" | .str => "str" | .max2 => "max" | .min2 => "min" | .gcd => "gcd" | .tuple => "tuple"
/-- what the module's names must say of it -/
def BiOk (G : Gx) : Bi → Prop
  | .gcd => G.mg "gcd" = some (.builtin "math.gcd")
  | b => G.mg (biName b) = none
theorem q_bi {bb : Bi} (g : Good X G k N sc W) (hc : (bb = .max2 ∨ bb = .min2) → k.isSome = true) {fs : Es} {p : Pos} {x : Str} (hx : biName bb = x) (hk : BiOk G bb) (hl : sc.names.lookup x = some .globalImplicit) (h : PA X (a :: es) (rd G B W (relEs G) (evEs fs)))
    (he : starEach (a :: es) X.env = (false, eval a X.env) :: starEach es X.env) (hpl : (backTo pos (starEach es X.env)).any (·.1) = false) : PE X (.Call (.Name x p) (a :: es) [] pos) (rdE G B W (.bi bb fs)) := by
  subst hx
  have hg : Gl X (biName bb) := show X.env.scope.names.lookup (biName bb) = some .globalImplicit by rw [g.hsc]; exact hl
  cases bb with
  | len => exact PE.imp (pe_callB (cr_len g.hK) hg (by rw [g.hmg]; exact hk) (by decide +kernel) h (he := he) (hpl := hpl)) fun σ H Q hq => rd_bi hq
  | abs => exact PE.imp (pe_callB cr_abs hg (by rw [g.hmg]; exact hk) (by decide +kernel) h (he := he) (hpl := hpl)) fun σ H Q hq => rd_bi hq
  | int => exact PE.imp (pe_callTy cr_int hg (by rw [g.hmg]; exact hk) (by decide +kernel) h (he := he) (hpl := hpl)) fun σ H Q hq => rd_bi hq
  | str => exact PE.imp (pe_callTy cr_str hg (by rw [g.hmg]; exact hk) (by decide +kernel) h (he := he) (hpl := hpl)) fun σ H Q hq => rd_bi hq
  | max2 => exact PE.imp (pe_callB (cr_max2 (g.calm (hc (.inl rfl)))) hg (by rw [g.hmg]; exact hk) (by decide +kernel) h (he := he) (hpl := hpl)) fun σ H Q hq => rd_bi hq
  | min2 => exact PE.imp (pe_callB (cr_min2 (g.calm (hc (.inr rfl)))) hg (by rw [g.hmg]; exact hk) (by decide +kernel) h (he := he) (hpl := hpl)) fun σ H Q hq => rd_bi hq
  | gcd => exact PE.imp (pe_callBfun cr_gcdT hg (by rw [g.hmg]; exact hk) h (he := he) (hpl := hpl)) fun σ H Q hq => rd_bi hq
  | tuple => exact PE.imp (pe_callTy (cr_tuple g.hK) hg (by rw [g.hmg]; exact hk) (by decide +kernel) h (he := he) (hpl := hpl)) fun σ H Q hq => rd_bi hq

/-! ### len and tuple of a slot's own list -/
variable {i : Nat} {x : Str} {px : Pos}
theorem q_lenB (g : Good X G k N sc W) {p : Pos} (hk : G.mg "len" = none) (hl : sc.names.lookup ("len" : Str) = some .globalImplicit) (hi : N[i]? = some x) (hv : Vis sc x) (hd : (x == ("__debug__" : Str)) = false) (hcd : (x == ("__classdict__" : Str)) = false) :
    PE X (.Call (.Name "len" p) [.Name x px] [] pos) (rdE G B W (.lenB i)) := by
  have hg : Gl X "len" := show X.env.scope.names.lookup ("len" : Str) = some .globalImplicit by rw [g.hsc]; exact hl
  refine PE.imp (pe_callB call_len hg (by rw [g.hmg]; exact hk) (by decide +kernel) (pa_cons (pe_var (i := i) (by rw [g.hN]; exact hi) (by rw [g.hsc]; exact hv) hd hcd) pa_nil)) fun σ H Q hq => ?_
  obtain ⟨F, s, sr, p⟩ := hq
  simp only [evE] at p
  split at p
  · rename_i ts ho
    obtain ⟨a, y, h1, h2, h3, ⟨⟨vs, h4, h5⟩, h6⟩⟩ := own_at sr ho
    exact ⟨.ref a, h3, .ref a, vs.length, rfl, .inl ⟨vs, .inl (.inl h4), rfl⟩, p _ F H (.refl _) sr (by simp only [relE, Rep, h5.length])⟩
  · exact p.elim
theorem q_tupB (g : Good X G k N sc W) {p : Pos} (hk : G.mg "tuple" = none) (hl : sc.names.lookup ("tuple" : Str) = some .globalImplicit) (hi : N[i]? = some x) (hv : Vis sc x) (hd : (x == ("__debug__" : Str)) = false) (hcd : (x == ("__classdict__" : Str)) = false) :
    PE X (.Call (.Name "tuple" p) [.Name x px] [] pos) (rdE G B W (.tupB i)) := by
  have hg : Gl X "tuple" := show X.env.scope.names.lookup ("tuple" : Str) = some .globalImplicit by rw [g.hsc]; exact hl
  refine PE.imp (pe_callTy call_tuple_of hg (by rw [g.hmg]; exact hk) (by decide +kernel) (pa_cons (pe_var (i := i) (by rw [g.hN]; exact hi) (by rw [g.hsc]; exact hv) hd hcd) pa_nil)) fun σ H Q hq => ?_
  obtain ⟨F, s, sr, p⟩ := hq
  simp only [evE] at p
  split at p
  · rename_i ts ho
    obtain ⟨a, y, h1, h2, h3, ⟨⟨vs, h4, h5⟩, h6⟩⟩ := own_at sr ho
    refine ⟨.ref a, h3, a, vs, rfl, .inl ⟨.inl (.inl h4), fun q hn => ?_⟩⟩
    have gr := Grow.laid (o := .tup vs) sr.sub hn
    refine p _ _ _ gr.ff (sr.grow gr) ?_
    simp only [relE, Rep]
    exact ⟨q, vs, rfl, .inl (.inl upd_same), Reps.mono gr.ff _ _ h5⟩
  · exact p.elim

/-! ### isinstance with built-in classes -/
def tyName : Ty → Option String
  | .int => some "int" | .bool => some "bool" | .str => some "str" | .tuple => some "tuple" | .list => some "list" | .own _ => none
def tyOfT : T → Option String
  | .non => some "NoneType" | .bl _ => some "bool" | .int _ => some "int" | .str _ => some "str" | .tup _ => some "tuple" | .lst _ => some "list"
  | _ => none
theorem tyx_of {F H : Hp} {v : V} {t : T} {n : String} (sub : Same F H) (r : Rep G F v t) (h : tyOfT t = some n) : TyX G.K H v (.type n) := by
  cases t with
  | non => simp only [Rep] at r; subst r; cases h; exact .base .non
  | bl _ => simp only [Rep] at r; subst r; cases h; exact .base (.bl _)
  | int _ => simp only [Rep] at r; subst r; cases h; exact .base (.int _)
  | str _ => simp only [Rep] at r; subst r; cases h; exact .base (.str _)
  | tup ts =>
    simp only [Rep] at r
    obtain ⟨a, vs, rfl, h2, h3⟩ := r
    cases h
    rcases h2 with (h2 | ⟨o, h2⟩) | ⟨o, its, m, q1, q2, _⟩
    · exact .base (.tup (sub _ _ h2))
    · exact .fTuple (sub _ _ h2)
    · exact .kTuple q1 q2
  | lst ts =>
    simp only [Rep] at r
    obtain ⟨a, vs, rfl, h2, h3⟩ := r
    cases h
    exact .base (.lst (sub _ _ h2))
  | obj _ _ _ => cases h
  | scr _ => cases h
theorem kit_of_ty {K : PySem.W.Frag} {t : T} {n : String} {y : Ty} {m : String} (h : tyOfT t = some n) (hy : tyName y = some m) : PySem.W.kitOne K (.type n) (.type m) = some (isTy t y) := by
  refine kit_ty ?_
  cases t <;> cases h <;> cases y <;> cases hy <;> first | (show kitB _ _ = some true; decide +kernel) | (show kitB _ _ = some false; decide +kernel)
/-- the class that a name of the tuple or the argument tells -/
inductive TyE (X : Cx) : Expr → Ty → Prop
  | blt {y : Ty} {m : String} {p : Pos} : tyName y = some m → Gl X (Str.ofString m) → X.mg (Str.ofString m) = none → TyE X (.Name (Str.ofString m) p) y
theorem TyE.pe {y : Ty} {e : Expr} (h : TyE X e y) : ∃ m, tyName y = some m ∧ PE X e (tC (.ty m)) := by
  cases h with
  | blt h1 h2 h3 =>
    refine ⟨_, h1, ?_⟩
    cases y <;> cases h1 <;> exact pe_bltn h2 h3 (by decide +kernel) rfl (by decide +kernel) (by decide +kernel)
theorem rd_isi {one : Bool} {ks : List Ty} {σ : L2.St} {H : Hp} {Q : VK} (hq : rdE G B W (.isi ea one ks) σ H Q) :
    rdE G B W ea σ H fun x H1 => ∃ tx F1 s1, SR G B F1 H1 σ s1 ∧ Rep G F1 x tx ∧ (∀ ts, tx ≠ .scr ts) ∧ ∀ F2 H2, Grow F1 H1 F2 H2 → Q (.bl (ks.any (isTy tx))) H2 := by
  obtain ⟨F, s, sr, p⟩ := hq
  simp only [evE] at p
  refine ⟨F, s, sr, (Pst.bind p).mono ?_⟩
  rintro x H1 ⟨tx, F1, s1, e1, sr1, rx, p1⟩
  refine ⟨tx, F1, s1, sr1, rx, fun ts z => ?_, fun F2 H2 gr => ?_⟩
  · subst z; exact p1.elim
  · cases tx <;> first | exact p1.elim | exact p1 _ F2 H2 gr.ff (sr1.grow gr) (by simp only [relE, Rep])
/-- what is asked of the own classes for isinstance -/
def IsiOk (G : Gx) : Prop := ∀ (F H : Hp) (x : V) (c : Str) (ns : List Str) (ts : List T), Same F H → Rep G F x (.obj c ns ts) → ∃ t, TyX G.K H x t ∧ ∀ y u, tyName y = some u → PySem.W.kitOne G.K t (.type u) = some (isTy (.obj c ns ts) y)
theorem kit_any {K : PySem.W.Frag} {t : Value} {tx : T} (h : ∀ y u, tyName y = some u → PySem.W.kitOne K t (.type u) = some (isTy tx y)) : ∀ (ks : List Ty) (ms : List String), ks.map tyName = ms.map some → PySem.W.kitAny K t (ms.map Value.type) = some (ks.any (isTy tx))
  | [], [], _ => kitAny_nil
  | [], _ :: _, e => by simp at e
  | _ :: _, [], e => by simp at e
  | y :: ks, m :: ms, e => by
    simp only [List.map_cons, List.cons.injEq] at e
    refine kitAny_cons (h y m e.1) (fun hb => ?_) (fun hb => ?_)
    · rw [kit_any h ks ms e.2, List.any_cons, hb, Bool.false_or]
    · rw [List.any_cons, hb, Bool.true_or]
/-- the type of a tree's value, its answers -/
theorem ty_any (ho : IsiOk G) {F H : Hp} {x : V} {tx : T} (sub : Same F H) (r : Rep G F x tx) (ns : ∀ ts, tx ≠ .scr ts) : ∃ t, TyX G.K H x t ∧ ∀ y u, tyName y = some u → PySem.W.kitOne G.K t (.type u) = some (isTy tx y) := by
  cases ht : tyOfT tx with
  | some n => exact ⟨.type n, tyx_of sub r ht, fun y u hy => kit_of_ty ht hy⟩
  | none =>
    cases tx <;> first | (cases ht; done) | skip
    · exact (ns _ rfl).elim
    · exact ho _ _ _ _ _ _ sub r
theorem q_isi1 (g : Good X G k N sc W) (ho : IsiOk G) {p : Pos} {y : Ty} {e2 : Expr} (hk : G.mg "isinstance" = none) (hl : sc.names.lookup ("isinstance" : Str) = some .globalImplicit) (ha : PE X a (rdE G B W ea)) (h2 : TyE X e2 y)
    (hs : starEach [a, e2] X.env = (false, eval a X.env) :: starEach [e2] X.env) (hs2 : starEach [e2] X.env = (false, eval e2 X.env) :: starEach [] X.env) (hpl : (backTo pos (starEach [e2] X.env)).any (·.1) = false) :
    PE X (.Call (.Name "isinstance" p) [a, e2] [] pos) (rdE G B W (.isi ea true [y])) := by
  have hg : Gl X "isinstance" := show X.env.scope.names.lookup ("isinstance" : Str) = some .globalImplicit by rw [g.hsc]; exact hl
  obtain ⟨m, hm, pe2⟩ := h2.pe
  refine PE.imp (pe_callB call_isi hg (by rw [g.hmg]; exact hk) (by decide +kernel) (pa_cons ha (pa_cons pe2 pa_nil hs2) hs) (he := hs) (hpl := hpl)) fun σ H Q hq => ?_
  obtain ⟨F, s, sr, p⟩ := rd_isi hq
  refine ⟨F, s, sr, p.mono ?_⟩
  rintro x H1 ⟨tx, F1, s1, sr1, rx, ns, k⟩
  have k1 := k F1 H1 (Grow.refl sr1.sub)
  have he : [y].any (isTy tx) = isTy tx y := by simp
  rw [he] at k1
  obtain ⟨t, h1, h2⟩ := ty_any ho sr1.sub rx ns
  exact ⟨x, .ty m, t, .type m, _, rfl, .ty m, by rw [g.hK]; exact h1, by rw [g.hK]; exact h2 _ _ hm, k1⟩
/-- a row of classes -/
inductive TyEs (X : Cx) : List Expr → List Ty → Prop
  | nil : TyEs X [] []
  | cons {e : Expr} {es : List Expr} {y : Ty} {ys : List Ty} : TyE X e y → TyEs X es ys → starEach (e :: es) X.env = (false, eval e X.env) :: starEach es X.env → TyEs X (e :: es) (y :: ys)
theorem TyEs.pa {es : List Expr} {ys : List Ty} (h : TyEs X es ys) : ∃ ms : List String, ys.map tyName = ms.map some ∧ PA X es fun _ H Q => Q (ms.map V.ty) H := by
  induction h with
  | nil => exact ⟨[], rfl, PA.imp pa_nil fun _ _ _ h => h⟩
  | cons h1 h2 h3 ih =>
    obtain ⟨m, e1, p1⟩ := h1.pe
    obtain ⟨ms, e2, p2⟩ := ih
    exact ⟨m :: ms, by simp [e1, e2], PA.imp (pa_cons p1 p2 h3) fun _ _ _ h => h⟩
theorem paired_cls : ∀ ms : List String, Paired ClsV (ms.map V.ty) (ms.map Value.type)
  | [] => .nil
  | m :: ms => .cons (.ty m) (paired_cls ms)
theorem q_isiT (g : Good X G k N sc W) (ho : IsiOk G) {p p2 : Pos} {ys : List Ty} {x1 : Nat} (hk : G.mg "isinstance" = none) (hl : sc.names.lookup ("isinstance" : Str) = some .globalImplicit) (ha : PE X a (rdE G B W ea)) (h2 : TyEs X es ys) (hlen : ys.length ≤ 100)
    (hs : starEach [a, .Tuple es x1 p2] X.env = (false, eval a X.env) :: starEach [.Tuple es x1 p2] X.env) (hs2 : starEach [.Tuple es x1 p2] X.env = (false, eval (.Tuple es x1 p2) X.env) :: starEach [] X.env) (hpl : (backTo pos (starEach [.Tuple es x1 p2] X.env)).any (·.1) = false) :
    PE X (.Call (.Name "isinstance" p) [a, .Tuple es x1 p2] [] pos) (rdE G B W (.isi ea false ys)) := by
  have hg : Gl X "isinstance" := show X.env.scope.names.lookup ("isinstance" : Str) = some .globalImplicit by rw [g.hsc]; exact hl
  obtain ⟨ms, hm, pa⟩ := h2.pa
  refine PE.imp (pe_callB call_isiT hg (by rw [g.hmg]; exact hk) (by decide +kernel) (pa_cons ha (pa_cons (pe_tup pa) pa_nil hs2) hs) (he := hs) (hpl := hpl)) fun σ H Q hq => ?_
  obtain ⟨F, s, sr, p⟩ := rd_isi hq
  refine ⟨F, s, sr, p.mono ?_⟩
  rintro x H1 ⟨tx, F1, s1, sr1, rx, ns, k⟩
  have el : ms.length = ys.length := by simpa using (congrArg List.length hm).symm
  refine ⟨by rw [List.length_map, el]; exact Nat.le_trans hlen (by decide), fun q hn => ?_⟩
  have gr := Grow.put (o := .tup (ms.map V.ty)) sr1.sub hn
  obtain ⟨t, h1, h2⟩ := ty_any ho gr.sub rx ns
  exact ⟨x, q, ms.map V.ty, t, ms.map Value.type, _, rfl, upd_same, paired_cls ms, by rw [g.hK]; exact h1, by rw [g.hK]; exact kit_any h2 ys ms hm, k F1 _ gr⟩

/-! ### new lists -/
abbrev rdM (G : Gx) (B : Fr0) (W : WX) (m : M) : TE := fun σ H Q => rd G B W (relM G B σ) (evM m) σ H Q
theorem relM_grow {F H : Hp} {σ : L2.St} {s : Sls} {vs : List V} {ts : List T} {Q : VK} (sr : SR G B F H σ s) (r : Reps G F vs ts) (p : ∀ b F' H', Same F F' → SR G B F' H' σ s → relM G B σ s F' H' b ts → Q b H') : ∀ q, H q = none → Q (.ref q) (upd H q (.lst vs)) := fun q hn => by
  obtain ⟨gr, rm⟩ := relM_new sr hn r
  exact p _ F _ (.refl _) (sr.grow gr) rm
theorem q_disp {fs : Es} (h : PA X es (rd G B W (relEs G) (evEs fs))) : PE X (.List es pos) (rdM G B W (.disp fs)) := by
  refine PE.imp (pe_lst h) fun σ H Q hq => ?_
  obtain ⟨F, s, sr, p⟩ := hq
  simp only [evM] at p
  refine ⟨F, s, sr, (Pst.bind p).mono ?_⟩
  rintro xs H1 ⟨ts, F1, s1, e1, sr1, rx, p1⟩
  simp only [relEs] at rx
  split at p1
  · rename_i hl
    exact ⟨by rw [rx.length, ← big_eq]; exact hl, relM_grow sr1 rx p1⟩
  · exact p1.elim
/-- a new list is given up at once -/
theorem q_frz {m : M} {e : Expr} (h : PE X e (rdM G B W m)) : PE X e (rdE G B W (.frz m)) := by
  refine PE.imp h fun σ H Q hq => ?_
  obtain ⟨F, s, sr, p⟩ := hq
  simp only [evE] at p
  refine ⟨F, s, sr, ?_⟩
  cases hm : evM m s with
  | bad => rw [hm] at p; exact p.elim
  | ex _ _ _ _ => rw [hm] at p; exact p
  | ok ts s1 =>
    rw [hm] at p
    rintro v F1 H1 e1 sr1 ⟨a, rfl, ⟨⟨vs, h1, h2⟩, h3⟩, h4, h5, h6⟩
    have sF : Same F1 (upd F1 a (.lst vs)) := fun b u q => by
      by_cases z : b = a
      · subst z; rw [h3] at q; cases q
      · rw [upd_ne z]; exact q
    have own : ∀ {b : Addr} {us : List T}, b ≠ a → LstAt G F1 H1 b us → LstAt G (upd F1 a (.lst vs)) H1 b us := fun {b us} nb l => by
      obtain ⟨⟨ws, k1, k2⟩, k3⟩ := l
      exact ⟨⟨ws, k1, Reps.mono sF us ws k2⟩, by rw [upd_ne nb]; exact k3⟩
    have sr2 : SR G B (upd F1 a (.lst vs)) H1 σ s1 := by
      refine ⟨fun b u q => ?_, sr1.len, fun j t q => ?_, fun j us q => ?_, fun j us q => ?_, sr1.ne, sr1.fr, sr1.pl, sr1.ph, sr1.f0.trans sF, fun b e' n => ?_, fun i c ns ts e => let ⟨a, cls, d, h1, h2, h3⟩ := sr1.xc i c ns ts e; ⟨a, cls, d, h1, h2, h3.imp id fun z => z.mono sF⟩⟩
      · by_cases z : b = a
        · subst z; rw [upd_same] at q; cases q; exact h1
        · rw [upd_ne z] at q; exact sr1.sub _ _ q
      · obtain ⟨v, k1, k2⟩ := sr1.im j t q
        exact ⟨v, k1, Rep.mono sF t v k2⟩
      · obtain ⟨b, k1, k2, k3⟩ := sr1.mu j us q
        exact ⟨b, k1, own (fun z => by subst z; exact h6 j _ q rfl k1) k2, k3⟩
      · obtain ⟨b, k1, k2, k3⟩ := sr1.mp j us q
        exact ⟨b, k1, own (fun z => by subst z; exact h6 j _ q rfl k1) k2, k3⟩
      · by_cases z : b = a
        · subst z; exact h4
        · rw [upd_ne z] at n; exact sr1.nw b e' n
    refine p _ _ H1 (e1.trans sF) sr2 ?_
    simp only [relE, Rep]
    exact ⟨a, vs, rfl, upd_same, Reps.mono sF ts vs h2⟩
/-- list(e) -/
theorem q_lst (g : Good X G k N sc W) {p : Pos} (hk : G.mg "list" = none) (hl : sc.names.lookup ("list" : Str) = some .globalImplicit) (ha : PE X a (rdE G B W ea)) (hs : starEach [a] X.env = (false, eval a X.env) :: starEach [] X.env) :
    PE X (.Call (.Name "list" p) [a] [] pos) (rdM G B W (.lst ea)) := by
  have hg : Gl X "list" := show X.env.scope.names.lookup ("list" : Str) = some .globalImplicit by rw [g.hsc]; exact hl
  refine PE.imp (pe_callTy call_list_of hg (by rw [g.hmg]; exact hk) (by decide +kernel) (pa_cons ha pa_nil hs) (he := hs)) fun σ H Q hq => ?_
  obtain ⟨F, s, sr, p⟩ := hq
  simp only [evM] at p
  refine ⟨F, s, sr, (Pst.bind p).mono ?_⟩
  rintro x H1 ⟨tx, F1, s1, e1, sr1, rx, p1⟩
  cases hi : items tx with
  | none => rw [hi] at p1; exact p1.elim
  | some ts =>
    rw [hi] at p1
    simp only [relE] at rx
    rcases items_cases hi with rfl | rfl | rfl
    · simp only [Rep] at rx
      obtain ⟨a, vs, rfl, h2, h3⟩ := rx
      exact ⟨a, vs, rfl, .inl (.inl (.inl (sr1.sub _ _ h2))), relM_grow sr1 h3 p1⟩
    · simp only [Rep] at rx
      obtain ⟨a, vs, rfl, h2, h3⟩ := rx
      exact ⟨a, vs, rfl, .inr (by rw [g.hK]; exact sameSqT sr1.sub h2), relM_grow sr1 h3 p1⟩
    · simp only [Rep] at rx
      obtain ⟨a, vs, rfl, h2, h3⟩ := rx
      exact ⟨a, vs, rfl, .inl (by rw [g.hK]; exact sr1.sub.seq h2), relM_grow sr1 h3 p1⟩
theorem q_lstB (g : Good X G k N sc W) {p : Pos} (hk : G.mg "list" = none) (hl : sc.names.lookup ("list" : Str) = some .globalImplicit) (hi : N[i]? = some x) (hv : Vis sc x) (hd : (x == ("__debug__" : Str)) = false) (hcd : (x == ("__classdict__" : Str)) = false) :
    PE X (.Call (.Name "list" p) [.Name x px] [] pos) (rdM G B W (.lstB i)) := by
  have hg : Gl X "list" := show X.env.scope.names.lookup ("list" : Str) = some .globalImplicit by rw [g.hsc]; exact hl
  refine PE.imp (pe_callTy call_list_of hg (by rw [g.hmg]; exact hk) (by decide +kernel) (pa_cons (pe_var (i := i) (by rw [g.hN]; exact hi) (by rw [g.hsc]; exact hv) hd hcd) pa_nil)) fun σ H Q hq => ?_
  obtain ⟨F, s, sr, p⟩ := hq
  simp only [evM] at p
  cases ho : ownAt s i with
  | none => rw [ho] at p; exact p.elim
  | some ts =>
    rw [ho] at p
    obtain ⟨a, y, h1, h2, h3, ⟨⟨vs, h4, h5⟩, h6⟩⟩ := own_at sr ho
    exact ⟨.ref a, h3, a, vs, rfl, .inl (.inl (.inl h4)), relM_grow sr h5 p⟩
theorem q_cat (ha : PE X a (rdE G B W ea)) (hb : PE X b (rdE G B W eb)) : PE X (.BinOp a .Add b pos) (rdM G B W (.cat ea eb)) := by
  refine PE.imp (pe_op op_cat ha hb) fun σ H Q hq => ?_
  obtain ⟨F, s, sr, p⟩ := hq
  simp only [evM] at p
  refine ⟨F, s, sr, (Pst.bind p).mono ?_⟩
  rintro x H1 ⟨tx, F1, s1, e1, sr1, rx, p1⟩
  refine ⟨F1, s1, sr1, (Pst.bind p1).mono ?_⟩
  rintro y H2 ⟨ty, F2, s2, e2, sr2, ry, p2⟩
  split at p2
  · simp only [relE, Rep] at rx ry
    obtain ⟨a, vs, rfl, h2, h3⟩ := rx
    obtain ⟨b, ws, rfl, k2, k3⟩ := ry
    split at p2
    · rename_i hl
      exact ⟨a, b, vs, ws, rfl, rfl, sr2.sub _ _ (e2 _ _ h2), sr2.sub _ _ k2, by rw [h3.length, k3.length, ← big_eq]; exact hl, relM_grow sr2 (Reps.append (Reps.mono e2 _ _ h3) k3) p2⟩
    · exact p2.elim
  · exact p2.elim
theorem reps_rep {F : Hp} {vs : List V} {ts : List T} (h : Reps G F vs ts) : ∀ n : Nat, Reps G F (List.replicate n vs).flatten (List.replicate n ts).flatten
  | 0 => by simp [Reps]
  | n + 1 => by
    simp only [List.replicate_succ, List.flatten_cons]
    exact Reps.append h (reps_rep h n)
theorem q_rep (ha : PE X a (rdE G B W ea)) (hb : PE X b (rdE G B W eb)) : PE X (.BinOp a .Mult b pos) (rdM G B W (.rep ea eb)) := by
  refine PE.imp (pe_op op_rep ha hb) fun σ H Q hq => ?_
  obtain ⟨F, s, sr, p⟩ := hq
  simp only [evM] at p
  refine ⟨F, s, sr, (Pst.bind p).mono ?_⟩
  rintro x H1 ⟨tx, F1, s1, e1, sr1, rx, p1⟩
  refine ⟨F1, s1, sr1, (Pst.bind p1).mono ?_⟩
  rintro y H2 ⟨ty, F2, s2, e2, sr2, ry, p2⟩
  split at p2
  · simp only [relE, Rep] at rx ry
    obtain ⟨a, vs, rfl, h2, h3⟩ := rx
    subst ry
    split at p2
    · rename_i hl
      exact ⟨a, _, vs, rfl, rfl, sr2.sub _ _ (e2 _ _ h2), hl.1, hl.2.1, by rw [h3.length, ← big_eq]; exact hl.2.2, relM_grow sr2 (reps_rep (Reps.mono e2 _ _ h3) _) p2⟩
    · exact p2.elim
  · exact p2.elim
theorem q_slcM {lo hi : Option Expr} {el eh : Oe} {p2 : Pos} (ha : PE X a (rdE G B W ea)) (hl : PO X lo (rd G B W relO (evO el))) (hh : PO X hi (rd G B W relO (evO eh))) : PE X (.Subscript a (.Slice lo hi none p2) pos) (rdM G B W (.slc ea el eh)) := by
  refine PE.imp (pe_slice sl_list ha hl hh) fun σ H Q hq => ?_
  refine rd_sl (f := fun x l h s => match x with
    | .lst ts => .ok (cutT ts l h) s
    | _ => .bad) (rel := relM G B σ) ?_ ?_
  · intro F H s x tx l h sr rx p
    cases tx with
    | lst ts =>
      simp only [Rep] at rx
      obtain ⟨a, vs, rfl, h2, h3⟩ := rx
      exact ⟨a, vs, rfl, .inl (.inl (sr.sub _ _ h2)), relM_grow sr (cut_reps h3 l h) p⟩
    | _ => exact p.elim
  · obtain ⟨F, s, sr, p⟩ := hq
    simp only [evM] at p
    exact ⟨F, s, sr, p⟩
end
end FL

/-! FL9: calls of the program's own defs. -/
namespace FL
open PySem PySem.Spec L2

/-- what a call leaves: o is the list that it changes -/
structure CallPost (G : Gx) (H : Hp) (pa : Option Addr) (F F' H' : Hp) (o : List T) : Prop where
  ff : Same F F'
  sub : Same F' H'
  fr : ∀ b u, H b = some u → pa ≠ some b → H' b = some u
  new : ∀ b, F b = none → F' b ≠ none → H b = none
  mp : ∀ a, pa = some a → LstAt G F' H' a o
def RetR (G : Gx) (fresh : Bool) (H : Hp) (pa : Option Addr) (F' H' : Hp) (v : V) (t : T) : Prop :=
  if fresh = true then ∃ a us, v = .ref a ∧ t = .lst us ∧ LstAt G F' H' a us ∧ H a = none ∧ pa ≠ some a else Rep G F' v t
/-- a def's promise by its meaning -/
def spF (G : Gx) (g : FS) : Sp := fun vs H Q E => ∃ F ts s0 pa, startS g.mu ts 0 = some s0 ∧ SR G ⟨H, pa, F, none⟩ F H (vs.map some) s0 ∧ (g.mu = none → pa = none) ∧
  (match g.sem ts with
  | .ok t o => ∀ v F' H', CallPost G H pa F F' H' o → RetR G g.fresh H pa F' H' v t → Q v H'
  | .ex c ns es o => ∀ cls d F' H', CallPost G H pa F F' H' o → ExR G F' cls d c ns es → E cls d H'
  | .bad => False)
/-- the def keeps it -/
structure HasFn (G : Gx) (k : Nat) (g : FS) (ds : List T) : Prop where
  ex : ∃ (f : Addr) (fd : FuncData) (ps : List Str) (dvs : List V) (dsv : List Value), G.mg g.name = some (.ref f) ∧ FnOk G.P G.w G.K G.mg G.base (L2.CX G.P G.w) k f fd ps (spF G g) ∧ PySem.W.keepIn G.K (.ref f) = true ∧
    Binds G.K fd ps dsv ∧ Vals dvs dsv ∧ ∀ F : Hp, Reps G F dvs ds

/-! ### arguments -/
def RelA (G : Gx) (F : Hp) (σ : L2.St) : List V → List AV → Prop
  | vs, [] => vs = []
  | vs, .v t :: r => ∃ v vr, vs = v :: vr ∧ Rep G F v t ∧ RelA G F σ vr r
  | vs, .r i :: r => ∃ v vr, vs = v :: vr ∧ σ[i]? = some (some v) ∧ RelA G F σ vr r
theorem RelA.mono {G : Gx} {F F' : Hp} {σ : L2.St} (e : Same F F') : ∀ {avs : List AV} {vs : List V}, RelA G F σ vs avs → RelA G F' σ vs avs
  | [], vs, h => h
  | .v t :: r, vs, h => by
    obtain ⟨v, vr, h1, h2, h3⟩ := h
    exact ⟨v, vr, h1, Rep.mono e _ _ h2, RelA.mono e h3⟩
  | .r i :: r, vs, h => by
    obtain ⟨v, vr, h1, h2, h3⟩ := h
    exact ⟨v, vr, h1, h2, RelA.mono e h3⟩
section
variable {X : Cx} {G : Gx} {B : Fr0} {W : WX} {k : Option Nat} {N : List Str} {sc : Scope} {pos : Pos}
variable {a b c : Expr} {ea eb ec : E} {es : List Expr}
def relA (G : Gx) (σ : L2.St) : Sls → Hp → Hp → List V → List AV → Prop := fun _ F _ vs avs => RelA G F σ vs avs
abbrev rdA (G : Gx) (B : Fr0) (W : WX) (as : As) : TA := fun σ H Q => rd G B W (relA G σ) (evAs as) σ H Q
theorem q_an : PA X [] (rdA G B W .nil) := by
  refine PA.imp pa_nil fun σ H Q hq => ?_
  obtain ⟨F, s, sr, p⟩ := hq
  simp only [evAs] at p
  exact p [] F H (.refl _) sr rfl
theorem q_ae {as : As} (ha : PE X a (rdE G B W ea)) (hr : PA X es (rdA G B W as)) (hs : starEach (a :: es) X.env = (false, eval a X.env) :: starEach es X.env) : PA X (a :: es) (rdA G B W (.e ea as)) := by
  refine PA.imp (pa_cons ha hr hs) fun σ H Q hq => ?_
  obtain ⟨F, s, sr, p⟩ := hq
  simp only [evAs] at p
  refine ⟨F, s, sr, (Pst.bind p).mono ?_⟩
  rintro x H1 ⟨tx, F1, s1, e1, sr1, rx, p1⟩
  refine ⟨F1, s1, sr1, (Pst.bind p1).mono ?_⟩
  rintro xs H2 ⟨txs, F2, s2, e2, sr2, rxs, p2⟩
  exact p2 (x :: xs) F2 H2 (.refl _) sr2 ⟨x, xs, rfl, Rep.mono e2 _ _ rx, rxs⟩
theorem q_ab (g : Good X G k N sc W) {as : As} {i : Nat} {x : Str} {px : Pos} (hi : N[i]? = some x) (hv : Vis sc x) (hd : (x == ("__debug__" : Str)) = false) (hcd : (x == ("__classdict__" : Str)) = false) (hr : PA X es (rdA G B W as))
    (hs : starEach (.Name x px :: es) X.env = (false, eval (.Name x px) X.env) :: starEach es X.env) : PA X (.Name x px :: es) (rdA G B W (.b i as)) := by
  refine PA.imp (pa_cons (pe_var (i := i) (by rw [g.hN]; exact hi) (by rw [g.hsc]; exact hv) hd hcd) hr hs) fun σ H Q hq => ?_
  obtain ⟨F, s, sr, p⟩ := hq
  simp only [evAs] at p
  split at p
  · rename_i ts ho
    obtain ⟨ad, y, h1, h2, h3, _⟩ := own_at sr ho
    refine ⟨.ref ad, h3, F, s, sr, (Pst.bind p).mono ?_⟩
    rintro xs H2 ⟨txs, F2, s2, e2, sr2, rxs, p2⟩
    exact p2 (.ref ad :: xs) F2 H2 (.refl _) sr2 ⟨_, xs, rfl, h3, rxs⟩
  · exact p.elim

/-! ### the callee's slots, from the caller's -/
/-- which addresses are lent -/
def LentAt (σ : L2.St) (l : List Nat) (a : Addr) : Prop := ∃ i ∈ l, σ[i]? = some (some (.ref a))
theorem lent_own {F H : Hp} {σ : L2.St} {s : Sls} (sr : SR G B F H σ s) : ∀ {avs : List AV} {vs : List V} {ts : List T} {n : Nat} {m : Option Nat}, RelA G F σ vs avs → fill avs s = some ts → ∀ i ∈ lent avs n m, ∃ us a, ownAt s i = some us ∧ σ[i]? = some (some (.ref a)) ∧ LstAt G F H a us
  | [], _, _, _, _, _, _, i, hi => by simp [lent] at hi
  | .v t :: r, vs, ts, n, m, h, f, i, hi => by
    obtain ⟨v, vr, h1, h2, h3⟩ := h
    unfold fill at f
    cases e : fill r s with
    | none => rw [e] at f; cases f
    | some us => exact lent_own sr h3 e i (by simpa only [lent] using hi)
  | .r j :: r, vs, ts, n, m, h, f, i, hi => by
    obtain ⟨v, vr, h1, h2, h3⟩ := h
    unfold fill at f
    cases o : ownAt s j with
    | none => rw [o] at f; cases f
    | some ws =>
      rw [o] at f
      cases e : fill r s with
      | none => simp only [e] at f; cases f
      | some us =>
        unfold lent at hi
        split at hi
        · exact lent_own sr h3 e i hi
        · rcases List.mem_cons.mp hi with rfl | hi
          · obtain ⟨a, y, k1, k2, k3, k4⟩ := own_at sr o
            exact ⟨ws, a, o, k3, k4⟩
          · exact lent_own sr h3 e i hi
/-- the slot that is changed -/
theorem mu_own {F H : Hp} {σ : L2.St} {s : Sls} (sr : SR G B F H σ s) : ∀ {avs : List AV} {vs : List V} {ts : List T} {p : Nat} {i : Nat}, RelA G F σ vs avs → fill avs s = some ts → avs[p]? = some (.r i) → ∃ us a, ownAt s i = some us ∧ σ[i]? = some (some (.ref a)) ∧ LstAt G F H a us ∧ vs[p]? = some (.ref a) ∧ ts[p]? = some (.lst us)
  | [], _, _, _, _, _, _, e => by simp at e
  | .v t :: r, vs, ts, 0, i, h, f, e => by simp at e
  | .v t :: r, vs, ts, p + 1, i, h, f, e => by
    obtain ⟨v, vr, rfl, h2, h3⟩ := h
    unfold fill at f
    cases ef : fill r s with
    | none => rw [ef] at f; cases f
    | some us =>
      rw [ef] at f
      cases f
      obtain ⟨ws, a, k1, k2, k3, k4, k5⟩ := mu_own sr (p := p) (i := i) h3 ef (by simpa using e)
      exact ⟨ws, a, k1, k2, k3, by simpa using k4, by simpa using k5⟩
  | .r j :: r, vs, ts, 0, i, h, f, e => by
    obtain ⟨v, vr, rfl, h2, h3⟩ := h
    simp at e
    subst e
    unfold fill at f
    cases o : ownAt s j with
    | none => rw [o] at f; cases f
    | some ws =>
      rw [o] at f
      cases ef : fill r s with
      | none => simp only [ef] at f; cases f
      | some us =>
        simp only [ef] at f
        cases f
        obtain ⟨a, y, k1, k2, k3, k4⟩ := own_at sr o
        rw [h2] at k3
        cases k3
        exact ⟨ws, a, rfl, h2, k4, rfl, rfl⟩
  | .r j :: r, vs, ts, p + 1, i, h, f, e => by
    obtain ⟨v, vr, rfl, h2, h3⟩ := h
    unfold fill at f
    cases o : ownAt s j with
    | none => rw [o] at f; cases f
    | some ws =>
      rw [o] at f
      cases ef : fill r s with
      | none => simp only [ef] at f; cases f
      | some us =>
        simp only [ef] at f
        cases f
        obtain ⟨ws', a, k1, k2, k3, k4, k5⟩ := mu_own sr (p := p) (i := i) h3 ef (by simpa using e)
        exact ⟨ws', a, k1, k2, k3, by simpa using k4, by simpa using k5⟩
/-- the slots at the callee's entry: the values' trees stand, the changed list is there -/
structure ArgR (G : Gx) (F H : Hp) (m : Option Nat) (pa : Option Addr) (n : Nat) (vs : List V) (ts : List T) : Prop where
  len : vs.length = ts.length
  im : ∀ (i : Nat) (t : T), ts[i]? = some t → m ≠ some (n + i) → ∃ v, vs[i]? = some v ∧ Rep G F v t
  mp : ∀ (i : Nat) (t : T), ts[i]? = some t → m = some (n + i) → ∃ a us, vs[i]? = some (.ref a) ∧ t = .lst us ∧ LstAt G F H a us ∧ pa = some a
end
theorem RelA.len {F : Hp} {σ : L2.St} : ∀ {avs : List AV} {vs : List V}, RelA G F σ vs avs → vs.length = avs.length
  | [], vs, h => by have h : vs = [] := h; subst h; rfl
  | .v t :: r, vs, h => by
    obtain ⟨v, vr, rfl, h2, h3⟩ := h
    simp [RelA.len h3]
  | .r i :: r, vs, h => by
    obtain ⟨v, vr, rfl, h2, h3⟩ := h
    simp [RelA.len h3]
theorem RelA.get {F : Hp} {σ : L2.St} : ∀ {avs : List AV} {vs : List V} {i : Nat} {av : AV}, RelA G F σ vs avs → avs[i]? = some av → ∃ v, vs[i]? = some v ∧ (match av with | .v t => Rep G F v t | .r j => σ[j]? = some (some v))
  | [], vs, i, av, h, e => by simp at e
  | .v t :: r, vs, 0, av, h, e => by
    obtain ⟨v, vr, rfl, h2, h3⟩ := h
    simp at e
    subst e
    exact ⟨v, rfl, h2⟩
  | .v t :: r, vs, i + 1, av, h, e => by
    obtain ⟨v, vr, rfl, h2, h3⟩ := h
    obtain ⟨w, k1, k2⟩ := RelA.get (i := i) h3 (by simpa using e)
    exact ⟨w, by simpa using k1, k2⟩
  | .r j :: r, vs, 0, av, h, e => by
    obtain ⟨v, vr, rfl, h2, h3⟩ := h
    simp at e
    subst e
    exact ⟨v, rfl, h2⟩
  | .r j :: r, vs, i + 1, av, h, e => by
    obtain ⟨v, vr, rfl, h2, h3⟩ := h
    obtain ⟨w, k1, k2⟩ := RelA.get (i := i) h3 (by simpa using e)
    exact ⟨w, by simpa using k1, k2⟩
theorem fill_get {s : Sls} : ∀ {avs : List AV} {ts : List T}, fill avs s = some ts → ts.length = avs.length ∧ ∀ (i : Nat) (t : T), ts[i]? = some t → ∃ av, avs[i]? = some av ∧ (av = .v t ∨ ∃ j us, av = .r j ∧ ownAt s j = some us ∧ t = .lst us)
  | [], ts, h => by
    simp only [fill, Option.some.injEq] at h
    subst h
    exact ⟨rfl, fun i t e => by simp at e⟩
  | .v t :: r, ts, h => by
    unfold fill at h
    cases e : fill r s with
    | none => rw [e] at h; cases h
    | some us =>
      rw [e] at h
      cases h
      obtain ⟨k1, k2⟩ := fill_get e
      refine ⟨by simp [k1], fun i u q => ?_⟩
      cases i with
      | zero =>
        simp at q
        subst q
        exact ⟨_, rfl, .inl rfl⟩
      | succ i =>
        obtain ⟨av, a1, a2⟩ := k2 i u (by simpa using q)
        exact ⟨av, by simpa using a1, a2⟩
  | .r j :: r, ts, h => by
    unfold fill at h
    cases o : ownAt s j with
    | none => rw [o] at h; cases h
    | some ws =>
      rw [o] at h
      cases e : fill r s with
      | none => simp only [e] at h; cases h
      | some us =>
        simp only [e] at h
        cases h
        obtain ⟨k1, k2⟩ := fill_get e
        refine ⟨by simp [k1], fun i u q => ?_⟩
        cases i with
        | zero =>
          simp at q
          subst q
          exact ⟨_, rfl, .inr ⟨j, ws, rfl, o, rfl⟩⟩
        | succ i =>
          obtain ⟨av, a1, a2⟩ := k2 i u (by simpa using q)
          exact ⟨av, by simpa using a1, a2⟩
theorem lent_mem : ∀ {avs : List AV} {n : Nat} {m : Option Nat} {i j : Nat}, avs[i]? = some (.r j) → m ≠ some (n + i) → j ∈ lent avs n m
  | [], _, _, _, _, e, _ => by simp at e
  | .v t :: r, n, m, 0, j, e, _ => by simp at e
  | .v t :: r, n, m, i + 1, j, e, h => by
    unfold lent
    exact lent_mem (i := i) (by simpa using e) (by rw [show n + 1 + i = n + (i + 1) by omega]; exact h)
  | .r q :: r, n, m, 0, j, e, h => by
    simp at e
    subst e
    unfold lent
    rw [if_neg (by simpa using h)]
    exact List.mem_cons_self
  | .r q :: r, n, m, i + 1, j, e, h => by
    unfold lent
    have z := lent_mem (avs := r) (n := n + 1) (m := m) (i := i) (j := j) (by simpa using e) (by rw [show n + 1 + i = n + (i + 1) by omega]; exact h)
    split
    · exact z
    · exact List.mem_cons_of_mem _ z
/-- the callee's slots -/
theorem start_slots {m : Option Nat} : ∀ {ts : List T} {n : Nat}, (∀ (i : Nat) (t : T), ts[i]? = some t → m = some (n + i) → ∃ us, t = .lst us) → ∃ s0, startS m ts n = some s0 ∧ s0.length = ts.length ∧
    ∀ (i : Nat) (x : Sl), s0[i]? = some x → (m ≠ some (n + i) ∧ ∃ t, x = .im t ∧ ts[i]? = some t) ∨ (m = some (n + i) ∧ ∃ us, x = .mp us ∧ ts[i]? = some (.lst us))
  | [], n, h => ⟨[], rfl, rfl, fun i x e => by simp at e⟩
  | t :: ts, n, h => by
    obtain ⟨s1, h1, h2, h3⟩ := start_slots (m := m) (ts := ts) (n := n + 1) fun i u e q => h (i + 1) u (by simpa using e) (by rw [q, show n + 1 + i = n + (i + 1) by omega])
    unfold startS
    by_cases hm : m = some n
    · obtain ⟨us, rfl⟩ := h 0 t rfl hm
      rw [if_pos hm, h1]
      refine ⟨.mp us :: s1, rfl, by simp [h2], fun i x e => ?_⟩
      cases i with
      | zero =>
        simp at e
        subst e
        exact .inr ⟨hm, us, rfl, rfl⟩
      | succ i =>
        rcases h3 i x (by simpa using e) with ⟨k1, u, k2, k3⟩ | ⟨k1, u, k2, k3⟩
        · exact .inl ⟨by rw [show n + (i + 1) = n + 1 + i by omega]; exact k1, u, k2, by simpa using k3⟩
        · exact .inr ⟨by rw [show n + (i + 1) = n + 1 + i by omega]; exact k1, u, k2, by simpa using k3⟩
    · rw [if_neg hm, h1]
      refine ⟨.im t :: s1, rfl, by simp [h2], fun i x e => ?_⟩
      cases i with
      | zero =>
        simp at e
        subst e
        exact .inl ⟨hm, t, rfl, rfl⟩
      | succ i =>
        rcases h3 i x (by simpa using e) with ⟨k1, u, k2, k3⟩ | ⟨k1, u, k2, k3⟩
        · exact .inl ⟨by rw [show n + (i + 1) = n + 1 + i by omega]; exact k1, u, k2, by simpa using k3⟩
        · exact .inr ⟨by rw [show n + (i + 1) = n + 1 + i by omega]; exact k1, u, k2, by simpa using k3⟩
theorem ArgR.start {F H : Hp} {m : Option Nat} {pa : Option Addr} {vs : List V} {ts : List T} (h : ArgR G F H m pa 0 vs ts) (sub : Same F H) (hpa : ∀ a, pa = some a → ∃ ws, H a = some (.lst ws)) :
    ∃ s0, startS m ts 0 = some s0 ∧ SR G ⟨H, pa, F, none⟩ F H (vs.map some) s0 := by
  obtain ⟨s0, h1, h2, h3⟩ := start_slots (m := m) (ts := ts) (n := 0) fun i t e q => by
    obtain ⟨a, us, _, k2, _⟩ := h.mp i t e q
    exact ⟨us, k2⟩
  have hv : ∀ (i : Nat) (v : V), vs[i]? = some v → (vs.map some)[i]? = some (some v) := fun i v e => by
    rw [List.getElem?_map, e]
    rfl
  refine ⟨s0, h1, sub, by rw [h2, List.length_map, h.len], fun i t e => ?_, fun i us e => ?_, fun i us e => ?_, fun i j x y a b ne ei ej ox oy ha hb => ?_, fun b o e _ => e, hpa, fun a e => ?_, .refl _, fun b e n => (n e).elim, fun i c ns ts e => by
    rcases h3 i _ e with ⟨_, u, k2, _⟩ | ⟨_, u, k2, _⟩ <;> cases k2⟩
  · rcases h3 i _ e with ⟨k1, u, k2, k3⟩ | ⟨_, u, k2, _⟩
    · cases k2
      obtain ⟨v, q1, q2⟩ := h.im i t k3 k1
      exact ⟨v, hv i v q1, q2⟩
    · cases k2
  · rcases h3 i _ e with ⟨_, u, k2, _⟩ | ⟨_, u, k2, _⟩ <;> cases k2
  · rcases h3 i _ e with ⟨_, u, k2, _⟩ | ⟨k1, u, k2, k3⟩
    · cases k2
    · cases k2
      obtain ⟨a, us', q1, q2, q3, q4⟩ := h.mp i _ k3 k1
      cases q2
      exact ⟨a, hv i _ q1, q3, q4⟩
  · rcases h3 i _ ei with ⟨_, u, k2, _⟩ | ⟨k1, _⟩
    · subst k2; cases ox
    · rcases h3 j _ ej with ⟨_, u, k2, _⟩ | ⟨k1', _⟩
      · subst k2; cases oy
      · rw [k1] at k1'
        simp at k1'
        exact (ne k1').elim
  · obtain ⟨ws, q⟩ := hpa a e
    show H a ≠ none
    rw [q]
    exact fun z => by cases z
/-- the arguments, as the callee sees them -/
theorem argR_of {F H : Hp} {σ : L2.St} {s : Sls} {avs : List AV} {vs dvs : List V} {ts ds : List T} {m : Option Nat} {mi : Option Nat} (sr : SR G B F H σ s) (ra : RelA G F σ vs avs) (hf : fill avs s = some ts) (hm : muAt avs m = some mi) (hc : ∀ i, mi = some i → i ∉ lent avs 0 m) (hd : ∀ F : Hp, Reps G F dvs ds) :
    ∃ pa : Option Addr, ArgR G (lend F H (LentAt σ (lent avs 0 m))) H m pa 0 (vs ++ dvs) (ts ++ ds) ∧ (mi = none → pa = none) ∧ (∀ i, mi = some i → ∃ us a, ownAt s i = some us ∧ σ[i]? = some (some (.ref a)) ∧ LstAt G F H a us ∧ pa = some a) := by
  have hp : ∀ a, LentAt σ (lent avs 0 m) a → F a = none ∧ ∃ ws, H a = some (.lst ws) := fun a ⟨i, hi, e⟩ => by
    obtain ⟨us, a', k1, k2, ⟨⟨ws, k3, _⟩, k4⟩⟩ := lent_own sr ra hf i hi
    rw [e] at k2
    cases k2
    exact ⟨k4, ws, k3⟩
  obtain ⟨fl, fg⟩ := fill_get hf
  have vl := ra.len
  have hdl : dvs.length = ds.length := (hd F).length
  -- the values that are not the changed list
  have im : ∀ (i : Nat) (t : T), (ts ++ ds)[i]? = some t → m ≠ some (0 + i) → ∃ v, (vs ++ dvs)[i]? = some v ∧ Rep G (lend F H (LentAt σ (lent avs 0 m))) v t := fun i t e nm => by
    by_cases hi : i < ts.length
    · rw [List.getElem?_append_left hi] at e
      obtain ⟨av, a1, a2⟩ := fg i t e
      obtain ⟨v, b1, b2⟩ := ra.get a1
      refine ⟨v, by rw [List.getElem?_append_left (by omega)]; exact b1, ?_⟩
      rcases a2 with rfl | ⟨j, us, rfl, o, rfl⟩
      · exact Rep.mono (lend_sub hp) _ _ b2
      · have hj := lent_mem (n := 0) (m := m) a1 nm
        obtain ⟨us', a, k1, k2, ⟨⟨ws, k3, k4⟩, k5⟩⟩ := lent_own sr ra hf j hj
        rw [o] at k1
        cases k1
        have b2 : σ[j]? = some (some v) := b2
        rw [b2] at k2
        cases k2
        simp only [Rep]
        exact ⟨a, ws, rfl, lend_at ⟨j, hj, b2⟩ k3, Reps.mono (lend_sub hp) _ _ k4⟩
    · have e' : ds[i - ts.length]? = some t := by rw [List.getElem?_append_right (by omega)] at e; exact e
      obtain ⟨v, b1, b2⟩ := (hd (lend F H (LentAt σ (lent avs 0 m)))).get e'
      exact ⟨v, by rw [List.getElem?_append_right (by omega), show i - vs.length = i - ts.length by omega]; exact b1, b2⟩
  have len : (vs ++ dvs).length = (ts ++ ds).length := by
    rw [List.length_append, List.length_append]
    omega
  unfold muAt at hm
  cases m with
  | none =>
    cases hm
    exact ⟨none, ⟨len, im, fun i t _ q => by cases q⟩, fun _ => rfl, fun i q => by cases q⟩
  | some p =>
    simp only at hm
    split at hm
    · rename_i i e
      cases hm
      obtain ⟨us, a, k1, k2, k3, k4, k5⟩ := mu_own sr ra hf e
      refine ⟨some a, ⟨len, im, fun j t q z => ?_⟩, ⟨(fun z => nomatch z), fun j z => ?_⟩⟩
      case refine_2 =>
        cases z
        exact ⟨us, a, k1, k2, k3, rfl⟩
      simp at z
      subst z
      have hpl : p < ts.length := (List.getElem?_eq_some_iff.mp k5).1
      rw [List.getElem?_append_left hpl, k5] at q
      cases q
      refine ⟨a, us, by rw [List.getElem?_append_left (by omega)]; exact k4, rfl, ?_, rfl⟩
      obtain ⟨⟨ws, q1, q2⟩, q3⟩ := k3
      refine ⟨⟨ws, q1, Reps.mono (lend_sub hp) _ _ q2⟩, ?_⟩
      unfold lend
      rw [if_neg]
      · exact q3
      · rintro ⟨j, hj, ej⟩
        obtain ⟨us', a', r1, r2, _⟩ := lent_own sr ra hf j hj
        have nij : i ≠ j := fun z => by subst z; exact hc i rfl hj
        obtain ⟨_, x1, u1, u2, _⟩ := own_at sr k1
        obtain ⟨_, x2, w1, w2, _⟩ := own_at sr r1
        exact sr.ne i j x1 x2 a a nij u1 w1 (by rw [u2]; rfl) (by rw [w2]; rfl) k2 ej rfl
    · cases hm

section
variable {X : Cx} {G : Gx} {B : Fr0} {W : WX} {k : Option Nat} {N : List Str} {sc : Scope} {pos : Pos} {F H F' H' : Hp} {σ : L2.St} {s : Sls} {l : List Nat}
theorem unlend_nil {p : Addr → Prop} (h : ∀ a, ¬ p a) : Same F' (unlend F' p) := fun b u q => by
  unfold FL.unlend FL.less
  rw [if_neg (h b)]
  exact q
theorem reps_un {ts : List T} {vs : List V} (hk : ∀ a, LentAt σ l a → ∃ vs, F' a = some (.lst vs)) (h : l = [] ∨ noLs ts = true) (r : Reps G F' vs ts) : Reps G (unlend F' (LentAt σ l)) vs ts := by
  rcases h with rfl | h
  · exact Reps.mono (unlend_nil fun a ⟨i, hi, _⟩ => by simp at hi) _ _ r
  · exact Reps.unlend hk h r
theorem rep_un {t : T} {v : V} (hk : ∀ a, LentAt σ l a → ∃ vs, F' a = some (.lst vs)) (h : l = [] ∨ noL t = true) (r : Rep G F' v t) : Rep G (unlend F' (LentAt σ l)) v t := by
  rcases h with rfl | h
  · exact Rep.mono (unlend_nil fun a ⟨i, hi, _⟩ => by simp at hi) _ _ r
  · exact Rep.unlend hk h r
theorem unlend_none {p : Addr → Prop} {b : Addr} (h : p b ∨ F' b = none) : unlend F' p b = none := by
  unfold FL.unlend FL.less
  by_cases z : p b
  · rw [if_pos z]
  · rw [if_neg z]
    rcases h with h | h
    · exact (z h).elim
    · exact h
theorem unlend_some {p : Addr → Prop} {b : Addr} {u : HO} (h : unlend F' p b = some u) : ¬ p b ∧ F' b = some u := by
  unfold FL.unlend FL.less at h
  by_cases z : p b
  · rw [if_pos z] at h; cases h
  · rw [if_neg z] at h; exact ⟨z, h⟩
theorem SR.called {pa : Option Addr} {o : List T} {mi : Option Nat} (sr : SR G B F H σ s) (hp : ∀ a, LentAt σ l a → F a = none ∧ ∃ ws, H a = some (.lst ws)) (cp : CallPost G H pa (lend F H (LentAt σ l)) F' H' o)
    (hm0 : mi = none → pa = none) (hm1 : ∀ i, mi = some i → ∃ us a, ownAt s i = some us ∧ σ[i]? = some (some (.ref a)) ∧ LstAt G F H a us ∧ pa = some a) (ho : l = [] ∨ noLs o = true) :
    Same F (unlend F' (LentAt σ l)) ∧ SR G B (unlend F' (LentAt σ l)) H' σ (putMi s o mi) := by
  have hk : ∀ a, LentAt σ l a → ∃ vs, F' a = some (.lst vs) := fun a z => by
    obtain ⟨_, ws, h⟩ := hp a z
    exact ⟨ws, cp.ff _ _ (lend_at z h)⟩
  have nl : ∀ {b : Addr}, ¬ LentAt σ l b → lend F H (LentAt σ l) b = F b := fun {b} z => by unfold lend; rw [if_neg z]
  have sF : Same F (unlend F' (LentAt σ l)) := fun b u q => by
    have z : ¬ LentAt σ l b := fun z => by rw [(hp b z).1] at q; cases q
    unfold FL.unlend FL.less
    rw [if_neg z]
    exact cp.ff _ _ (by rw [nl z]; exact q)
  have sH : Same (unlend F' (LentAt σ l)) H' := fun b u q => cp.sub _ _ (unlend_some q).2
  -- a free place of F that is taken now was free
  have nw : ∀ b, F b = none → unlend F' (LentAt σ l) b ≠ none → H b = none := fun b e n => by
    cases q : unlend F' (LentAt σ l) b with
    | none => exact (n q).elim
    | some u =>
      obtain ⟨z, q'⟩ := unlend_some q
      exact cp.new b (by rw [nl z]; exact e) (by rw [q']; exact fun z => by cases z)
  have out : ∀ {b : Addr} {us : List V}, F b = none → H b = some (.lst us) → unlend F' (LentAt σ l) b = none := fun {b us} e h => by
    cases q : unlend F' (LentAt σ l) b with
    | none => rfl
    | some u =>
      have z := nw b e (by rw [q]; exact fun z => by cases z)
      rw [h] at z
      cases z
  have own : ∀ {b : Addr} {us : List T}, pa ≠ some b → LstAt G F H b us → LstAt G (unlend F' (LentAt σ l)) H' b us := fun {b us} nb h => by
    obtain ⟨⟨ws, k1, k2⟩, k3⟩ := h
    exact ⟨⟨ws, cp.fr _ _ k1 nb, Reps.mono sF _ _ k2⟩, out k3 k1⟩
  have frame : ∀ b u, B.H0 b = some u → B.pa ≠ some b → H' b = some u := fun b u q n => by
    refine cp.fr _ _ (sr.fr b u q n) fun z => ?_
    cases mi with
    | none => rw [hm0 rfl] at z; cases z
    | some i =>
      obtain ⟨us, a, k1, k2, _, k4⟩ := hm1 i rfl
      rw [k4] at z
      cases z
      obtain ⟨_, x, u1, u2, u3, _⟩ := own_at sr k1
      obtain ⟨a', w1, _, w3⟩ := sr.own u1 u2
      rw [k2] at w1
      cases w1
      rcases w3 with w3 | w3
      · rw [w3] at q; cases q
      · exact n w3
  refine ⟨sF, ?_⟩
  -- the slots that stay
  have stay : (∀ i, mi = some i → False) → SR G B (unlend F' (LentAt σ l)) H' σ s := fun hn => by
    have pn : pa = none := by
      cases mi with
      | none => exact hm0 rfl
      | some i => exact (hn i rfl).elim
    subst pn
    refine ⟨sH, sr.len, fun i t e => ?_, fun i us e => ?_, fun i us e => ?_, sr.ne, frame, fun a e => ?_, sr.ph, sr.f0.trans sF, fun b e n => ?_, fun i c ns ts e => let ⟨a, cls, d, h1, h2, h3⟩ := sr.xc i c ns ts e; ⟨a, cls, d, h1, h2, h3.imp id fun z => z.mono sF⟩⟩
    · obtain ⟨v, k1, k2⟩ := sr.im i t e
      exact ⟨v, k1, Rep.mono sF _ _ k2⟩
    · obtain ⟨a, k1, k2, k3⟩ := sr.mu i us e
      exact ⟨a, k1, own (fun z => by cases z) k2, k3⟩
    · obtain ⟨a, k1, k2, k3⟩ := sr.mp i us e
      exact ⟨a, k1, own (fun z => by cases z) k2, k3⟩
    · obtain ⟨ws, q⟩ := sr.pl a e
      exact ⟨ws, cp.fr _ _ q fun z => by cases z⟩
    · by_cases q : F b = none
      · exact sr.free0 (nw b q n)
      · exact sr.nw b e q
  cases mi with
  | none => exact stay fun i z => by cases z
  | some i =>
    obtain ⟨us, a, k1, k2, k3, rfl⟩ := hm1 i rfl
    obtain ⟨⟨ws, c1, c2⟩, c3⟩ := cp.mp a rfl
    -- first the heap with the old list in its place, then the write
    obtain ⟨_, x, u1, u2, _, _⟩ := own_at sr k1
    have self : LstAt G (unlend F' (LentAt σ l)) H' a o := ⟨⟨ws, c1, reps_un hk ho c2⟩, unlend_none (.inr c3)⟩
    have hi : i < s.length := (List.getElem?_eq_some_iff.mp u1).1
    have isome : x.own.isSome = true := by rw [u2]; rfl
    have old : ∀ {j : Nat} {y : Sl}, (putOwn s i o)[j]? = some y → (j = i ∧ ((∃ z, x = .mu z ∧ y = .mu o) ∨ (∃ z, x = .mp z ∧ y = .mp o))) ∨ (j ≠ i ∧ s[j]? = some y) := fun {j y} q => by
      unfold putOwn at q
      rw [u1] at q
      by_cases z : j = i
      · subst z
        cases x with
        | un => cases u2
        | im t => cases u2
        | xc _ _ _ => cases u2
        | mu w =>
          have q : (s.set j (.mu o))[j]? = some y := q
          rw [List.getElem?_set_self hi] at q
          exact .inl ⟨rfl, .inl ⟨w, rfl, (Option.some.inj q).symm⟩⟩
        | mp w =>
          have q : (s.set j (.mp o))[j]? = some y := q
          rw [List.getElem?_set_self hi] at q
          exact .inl ⟨rfl, .inr ⟨w, rfl, (Option.some.inj q).symm⟩⟩
      · refine .inr ⟨z, ?_⟩
        cases x with
        | un => exact q
        | im t => exact q
        | xc _ _ _ => exact q
        | mu w =>
          have q : (s.set i (.mu o))[j]? = some y := q
          rw [List.getElem?_set_ne (Ne.symm z)] at q
          exact q
        | mp w =>
          have q : (s.set i (.mp o))[j]? = some y := q
          rw [List.getElem?_set_ne (Ne.symm z)] at q
          exact q
    have lenp : (putOwn s i o).length = s.length := by
      unfold putOwn
      rw [u1]
      cases x <;> simp
    have nb : ∀ {j : Nat} {y : Sl} {b : Addr}, j ≠ i → s[j]? = some y → y.own.isSome = true → σ[j]? = some (some (.ref b)) → (some a : Option Addr) ≠ some b := fun {j y b} nj e oy h z => by
      cases z
      exact sr.ne j i y x a a nj e u1 oy isome h k2 rfl
    show SR G B (unlend F' (LentAt σ l)) H' σ (putOwn s i o)
    refine ⟨sH, by rw [lenp]; exact sr.len, fun j t q => ?_, fun j zs q => ?_, fun j zs q => ?_, fun j k y z b c ne q r ox oy sj sk => ?_, frame, fun b e => ?_, sr.ph, sr.f0.trans sF, fun b e n => ?_, fun j c ns ts q => by
      rcases old q with ⟨_, ⟨_, _, q'⟩ | ⟨_, _, q'⟩⟩ | ⟨_, q'⟩
      · cases q'
      · cases q'
      · obtain ⟨a, cls, d, h1, h2, h3⟩ := sr.xc j c ns ts q'; exact ⟨a, cls, d, h1, h2, h3.imp id fun z => z.mono sF⟩⟩
    · rcases old q with ⟨rfl, ⟨z, _, q'⟩ | ⟨z, _, q'⟩⟩ | ⟨nj, q'⟩
      · cases q'
      · cases q'
      · obtain ⟨v, r1, r2⟩ := sr.im j t q'
        exact ⟨v, r1, Rep.mono sF _ _ r2⟩
    · rcases old q with ⟨rfl, ⟨z, ex, q'⟩ | ⟨z, _, q'⟩⟩ | ⟨nj, q'⟩
      · cases q'
        subst ex
        obtain ⟨b, r1, _, r3⟩ := sr.mu j z u1
        rw [k2] at r1; cases r1
        exact ⟨a, k2, self, r3⟩
      · cases q'
      · obtain ⟨b, r1, r2, r3⟩ := sr.mu j zs q'
        exact ⟨b, r1, own (nb nj q' rfl r1) r2, r3⟩
    · rcases old q with ⟨rfl, ⟨z, _, q'⟩ | ⟨z, ex, q'⟩⟩ | ⟨nj, q'⟩
      · cases q'
      · cases q'
        subst ex
        obtain ⟨b, r1, _, r3⟩ := sr.mp j z u1
        rw [k2] at r1; cases r1
        exact ⟨a, k2, self, r3⟩
      · obtain ⟨b, r1, r2, r3⟩ := sr.mp j zs q'
        exact ⟨b, r1, own (nb nj q' rfl r1) r2, r3⟩
    · have back : ∀ {j : Nat} {y : Sl}, (putOwn s i o)[j]? = some y → y.own.isSome = true → ∃ y', s[j]? = some y' ∧ y'.own.isSome = true := fun {j y} q oy => by
        rcases old q with ⟨rfl, _⟩ | ⟨nj, q'⟩
        · exact ⟨x, u1, isome⟩
        · exact ⟨y, q', oy⟩
      obtain ⟨y', q1, q2⟩ := back q ox
      obtain ⟨z', r1, r2⟩ := back r oy
      exact sr.ne j k y' z' b c ne q1 r1 q2 r2 sj sk
    · by_cases z : a = b
      · subst z
        exact ⟨ws, c1⟩
      · obtain ⟨vs', q'⟩ := sr.pl b e
        exact ⟨vs', cp.fr _ _ q' fun y => z (Option.some.inj y)⟩
    · by_cases q : F b = none
      · exact sr.free0 (nw b q n)
      · exact sr.nw b e q
end
end FL

/-! FL10: the rule of a call. -/
namespace FL
open PySem PySem.Spec L2
section
variable {X : Cx} {G : Gx} {B : Fr0} {W : WX} {k : Option Nat} {N : List Str} {sc : Scope} {pos : Pos} {F H F' H' : Hp} {σ : L2.St} {s : Sls} {l : List Nat}
variable {a b c : Expr} {ea eb ec : E} {es : List Expr}
/-- what a result of 'after' may be -/
theorem after_cases {g : FS} {avs : List AV} {ds : List T} {fin : Bool} (h : after g avs ds s fin ≠ .bad) : ∃ ts mi, fill avs s = some ts ∧ muAt avs g.mu = some mi ∧ (∀ i, mi = some i → i ∉ lent avs 0 g.mu) ∧
    ((∃ t o, g.sem (ts ++ ds) = .ok t o ∧ after g avs ds s fin = .ok t (putMi s o mi) ∧ (lent avs 0 g.mu = [] ∨ (noLs o = true ∧ (if fin = true then (∃ us, t = .lst us ∧ noLs us = true) else noL t = true)))) ∨
    (∃ c ns es o, g.sem (ts ++ ds) = .ex c ns es o ∧ after g avs ds s fin = .ex c ns es (putMi s o mi) ∧ (lent avs 0 g.mu = [] ∨ (noLs o = true ∧ noLs es = true)))) := by
  unfold after at h ⊢
  cases hf : fill avs s with
  | none => rw [hf] at h; exact (h rfl).elim
  | some ts =>
    cases hm : muAt avs g.mu with
    | none => rw [hf, hm] at h; exact (h rfl).elim
    | some mi =>
      rw [hf, hm] at h
      dsimp only at h ⊢
      split at h
      · exact (h rfl).elim
      · rename_i hc
        refine ⟨ts, mi, rfl, rfl, fun i e => ?_, ?_⟩
        · subst e
          simpa [hasMi] using hc
        · rw [if_neg hc]
          cases hs : g.sem (ts ++ ds) with
          | bad => rw [hs] at h; exact (h rfl).elim
          | ok t o =>
            rw [hs] at h
            dsimp only at h ⊢
            split at h
            · rename_i ok
              refine .inl ⟨t, o, rfl, by rw [if_pos ok], ?_⟩
              simp only [retOk, excOk] at ok
              rw [Bool.or_eq_true, Bool.and_eq_true] at ok
              rcases ok with ok | ⟨ok1, ok2⟩
              · exact .inl (List.isEmpty_iff.mp ok)
              · refine .inr ⟨ok1, ?_⟩
                cases fin with
                | false => simpa using ok2
                | true =>
                  simp only [if_true] at ok2 ⊢
                  split at ok2
                  · exact ⟨_, rfl, ok2⟩
                  · cases ok2
            · exact (h rfl).elim
          | ex c ns es o =>
            rw [hs] at h
            dsimp only at h ⊢
            split at h
            · rename_i ok
              refine .inr ⟨c, ns, es, o, rfl, by rw [if_pos ok], ?_⟩
              simp only [retOk, excOk] at ok
              rw [Bool.or_eq_true, Bool.and_eq_true] at ok
              rcases ok with ok | ok
              · exact .inl (List.isEmpty_iff.mp ok)
              · exact .inr ok
            · exact (h rfl).elim
/-- the callee's promise, from the caller's reading -/
theorem call_sp {g : FS} {avs : List AV} {ds : List T} {fin : Bool} {vs dvs : List V} {Q : VK} (sr : SR G B F H σ s) (ra : RelA G F σ vs avs) (hd : ∀ F : Hp, Reps G F dvs ds)
    (hb : after g avs ds s fin ≠ .bad)
    (hok : ∀ t s' v F' H', after g avs ds s fin = .ok t s' → Same F F' → SR G B F' H' σ s' → (if fin = true then (∃ us, t = .lst us ∧ relM G B σ s' F' H' v us) else Rep G F' v t) → Q v H')
    (hex : ∀ c ns es s' cls d F' H', after g avs ds s fin = .ex c ns es s' → Same F F' → SR G B F' H' σ s' → ExR G F' cls d c ns es → W cls d σ H')
    (hfr : g.fresh = fin) : spF G g (vs ++ dvs) H Q (WE W σ) := by
  obtain ⟨ts, mi, hf, hm, hc, hres⟩ := after_cases hb
  obtain ⟨pa, ar, hm0, hm1⟩ := argR_of sr ra hf hm hc hd
  have hp : ∀ a, LentAt σ (lent avs 0 g.mu) a → F a = none ∧ ∃ ws, H a = some (.lst ws) := fun a ⟨i, hi, e⟩ => by
    obtain ⟨us, a', k1, k2, ⟨⟨ws, k3, _⟩, k4⟩⟩ := lent_own sr ra hf i hi
    rw [e] at k2
    cases k2
    exact ⟨k4, ws, k3⟩
  have hpa : ∀ a, pa = some a → ∃ ws, H a = some (.lst ws) := fun a e => by
    cases mi with
    | none => rw [hm0 rfl] at e; cases e
    | some i =>
      obtain ⟨us, a', _, _, ⟨⟨ws, k1, _⟩, _⟩, k4⟩ := hm1 i rfl
      rw [e] at k4
      cases k4
      exact ⟨ws, k1⟩
  obtain ⟨s0, h1, h2⟩ := ar.start (lend_top sr.sub) hpa
  refine ⟨_, ts ++ ds, s0, pa, h1, h2, fun z => hm0 (by rw [z] at hm; simpa [muAt] using hm.symm), ?_⟩
  rcases hres with ⟨t, o, e1, e2, e3⟩ | ⟨c, ns, es, o, e1, e2, e3⟩
  · rw [e1]
    intro v F' H' cp r
    have ho : lent avs 0 g.mu = [] ∨ noLs o = true := e3.imp id fun z => z.1
    obtain ⟨sF, sr'⟩ := sr.called hp cp hm0 hm1 ho
    have hk : ∀ a, LentAt σ (lent avs 0 g.mu) a → ∃ vs, F' a = some (.lst vs) := fun a z => by
      obtain ⟨_, ws, h⟩ := hp a z
      exact ⟨ws, cp.ff _ _ (lend_at z h)⟩
    refine hok t _ v _ H' e2 sF sr' ?_
    unfold RetR at r
    rw [hfr] at r
    cases fin with
    | false =>
      simp only [Bool.false_eq_true, if_false] at r e3 ⊢
      exact rep_un hk (e3.imp id fun z => z.2) r
    | true =>
      simp only [if_true] at r e3 ⊢
      obtain ⟨a, us, rfl, rfl, ⟨⟨ws, c1, c2⟩, c3⟩, c4, c5⟩ := r
      have hu : lent avs 0 g.mu = [] ∨ noLs us = true := e3.imp id fun ⟨_, us', z1, z2⟩ => by cases z1; exact z2
      refine ⟨us, rfl, a, rfl, ⟨⟨ws, c1, reps_un hk hu c2⟩, unlend_none (.inr c3)⟩, sr.free0 c4, fun z => ?_, fun j x e o' h => ?_⟩
      · obtain ⟨ws', q⟩ := sr.pl a z
        rw [c4] at q
        cases q
      · -- an own slot's list stood ahead of the call
        have back : ∃ y, s[j]? = some y ∧ y.own.isSome = true := by
          cases mi with
          | none => exact ⟨x, e, o'⟩
          | some i =>
            by_cases z : j = i
            · subst z
              obtain ⟨us', a', k1, _⟩ := hm1 j rfl
              obtain ⟨_, y, u1, u2, _⟩ := own_at sr k1
              exact ⟨y, u1, by rw [u2]; rfl⟩
            · refine ⟨x, ?_, o'⟩
              have e : (putOwn s i o)[j]? = some x := e
              unfold putOwn at e
              split at e
              · rw [List.getElem?_set_ne (Ne.symm z)] at e; exact e
              · rw [List.getElem?_set_ne (Ne.symm z)] at e; exact e
              · exact e
        obtain ⟨y, y1, y2⟩ := back
        cases hy : y.own with
        | none => rw [hy] at y2; cases y2
        | some zs =>
          obtain ⟨a', k1, ⟨⟨ws', k2, _⟩, _⟩, _⟩ := sr.own y1 hy
          rw [h] at k1
          cases k1
          rw [c4] at k2
          cases k2
  · rw [e1]
    intro cls d F' H' cp r
    have ho : lent avs 0 g.mu = [] ∨ noLs o = true := e3.imp id fun z => z.1
    obtain ⟨sF, sr'⟩ := sr.called hp cp hm0 hm1 ho
    have hk : ∀ a, LentAt σ (lent avs 0 g.mu) a → ∃ vs, F' a = some (.lst vs) := fun a z => by
      obtain ⟨_, ws, h⟩ := hp a z
      exact ⟨ws, cp.ff _ _ (lend_at z h)⟩
    refine hex c ns es _ cls d _ H' e2 sF sr' ?_
    obtain ⟨C, r1, r2, r3⟩ := r
    refine ⟨C, r1, r2, r3.imp id fun ⟨dx, ws, q1, q2, q3, q4⟩ => ⟨dx, ws, q1, ?_, q3, reps_un hk (e3.imp id fun z => z.2) q4⟩⟩
    unfold FL.unlend FL.less
    rw [if_neg]
    · exact q2
    · intro z
      obtain ⟨ws', q⟩ := hk dx z
      rw [q2] at q
      cases q
end
end FL

/-! FL11: calls as expressions, targets. -/
namespace FL
open PySem PySem.Spec L2
section
variable {X : Cx} {G : Gx} {B : Fr0} {W : WX} {k : Option Nat} {N : List Str} {sc : Scope} {pos : Pos}
variable {a b c : Expr} {ea eb ec : E} {es : List Expr}

theorem passAt' (g : Good X G k N sc W) (hk : k.isSome = true) (σ : L2.St) : PassesAt (L2.CX X.prog X.w) X σ (WE W σ) := passAt (g.tk hk) σ
theorem rd_call {g : FS} {as : As} {ds : List T} {dvs : List V} (hd : ∀ F : Hp, Reps G F dvs ds) {σ : L2.St} {H : Hp} {Q : VK} (hq : rdE G B W (.call g as ds) σ H Q) : tCallSD (spF G g) dvs (WE W) (rdA G B W as) σ H Q := by
  obtain ⟨F, s, sr, p⟩ := hq
  simp only [evE] at p
  by_cases hf : g.fresh = true
  · rw [if_pos hf] at p; exact p.elim
  · rw [if_neg hf] at p
    refine ⟨F, s, sr, (Pst.bind p).mono ?_⟩
    rintro vs H1 ⟨avs, F1, s1, e1, sr1, ra, p1⟩
    refine call_sp (fin := false) sr1 ra hd (fun z => by rw [z] at p1; exact p1) (fun t s' v F' H' e sF sr' r => ?_) (fun c ns es s' cls d F' H' e sF sr' r => ?_) (by simpa using hf)
    · rw [e] at p1
      exact p1 v F' H' sF sr' (by simpa [relE] using r)
    · rw [e] at p1
      exact p1 cls d F' H' sF sr' r
theorem rd_callM {g : FS} {as : As} {ds : List T} {dvs : List V} (hd : ∀ F : Hp, Reps G F dvs ds) {σ : L2.St} {H : Hp} {Q : VK} (hq : rdM G B W (.call g as ds) σ H Q) : tCallSD (spF G g) dvs (WE W) (rdA G B W as) σ H Q := by
  obtain ⟨F, s, sr, p⟩ := hq
  simp only [evM] at p
  by_cases hf : g.fresh = true
  · rw [if_pos hf] at p
    refine ⟨F, s, sr, (Pst.bind p).mono ?_⟩
    rintro vs H1 ⟨avs, F1, s1, e1, sr1, ra, p1⟩
    refine call_sp (fin := true) sr1 ra hd (fun z => by rw [z] at p1; exact p1) (fun t s' v F' H' e sF sr' r => ?_) (fun c ns es s' cls d F' H' e sF sr' r => ?_) hf
    · rw [e] at p1
      simp only [if_true] at r
      obtain ⟨us, rfl, r⟩ := r
      exact p1 v F' H' sF sr' r
    · rw [e] at p1
      exact p1 cls d F' H' sF sr' r
  · rw [if_neg hf] at p; exact p.elim
theorem q_call {n : Nat} (g : Good X G (some n) N sc W) {f : FS} {as : As} {ds : List T} {x : Str} {p : Pos} (hx : f.name = x) (hf : HasFn G n f ds) (hl : sc.names.lookup x = some .globalImplicit) (hd : (x == ("__debug__" : Str)) = false) (h : PA X (a :: es) (rdA G B W as))
    (he : starEach (a :: es) X.env = (false, eval a X.env) :: starEach es X.env) (hpl : (backTo pos (starEach es X.env)).any (·.1) = false) : PE X (.Call (.Name x p) (a :: es) [] pos) (rdE G B W (.call f as ds)) := by
  subst hx
  obtain ⟨fa, fd, ps, dvs, dsv, h1, h2, h3, h4, h5, h6⟩ := hf.ex
  have hg : Gl X f.name := show X.env.scope.names.lookup f.name = some .globalImplicit by rw [g.hsc]; exact hl
  refine PE.imp (pe_callSD (CX := L2.CX X.prog X.w) (k := n) (fd := fd) (ps := ps) (ds := dsv) (by rw [g.hP, g.hw, g.hK, g.hmg, g.hb]; exact h2) (g.room n rfl) hg (by rw [g.hmg]; exact h1) (by rw [g.hK]; exact h3) (by rw [g.hK]; exact h4) h5 (passAt' g rfl) h hd he hpl) fun σ H Q hq => rd_call h6 hq
theorem q_callM {n : Nat} (g : Good X G (some n) N sc W) {f : FS} {as : As} {ds : List T} {x : Str} {p : Pos} (hx : f.name = x) (hf : HasFn G n f ds) (hl : sc.names.lookup x = some .globalImplicit) (hd : (x == ("__debug__" : Str)) = false) (h : PA X (a :: es) (rdA G B W as))
    (he : starEach (a :: es) X.env = (false, eval a X.env) :: starEach es X.env) (hpl : (backTo pos (starEach es X.env)).any (·.1) = false) : PE X (.Call (.Name x p) (a :: es) [] pos) (rdM G B W (.call f as ds)) := by
  subst hx
  obtain ⟨fa, fd, ps, dvs, dsv, h1, h2, h3, h4, h5, h6⟩ := hf.ex
  have hg : Gl X f.name := show X.env.scope.names.lookup f.name = some .globalImplicit by rw [g.hsc]; exact hl
  refine PE.imp (pe_callSD (CX := L2.CX X.prog X.w) (k := n) (fd := fd) (ps := ps) (ds := dsv) (by rw [g.hP, g.hw, g.hK, g.hmg, g.hb]; exact h2) (g.room n rfl) hg (by rw [g.hmg]; exact h1) (by rw [g.hK]; exact h3) (by rw [g.hK]; exact h4) h5 (passAt' g rfl) h hd he hpl) fun σ H Q hq => rd_callM h6 hq

/-! ### targets -/
mutual
def tgS : Tg → List Nat
  | .nm i => [i]
  | .tp gs => tgsS gs
def tgsS : List Tg → List Nat
  | [] => []
  | g :: gs => tgS g ++ tgsS gs
end
/-- but for these slots it is as it was -/
def Off (l : List Nat) (σ σ' : L2.St) : Prop := σ'.length = σ.length ∧ ∀ i, i ∉ l → σ'[i]? = σ[i]?
def rdG (G : Gx) (B : Fr0) (g : Tg) : TG := fun v σ H Q => ∃ F s t s', SR G B F H σ s ∧ Rep G F v t ∧ setTg g t s = some s' ∧ ∀ σ', SR G B F H σ' s' → Off (tgS g) σ σ' → Q σ' H
def rdGs (G : Gx) (B : Fr0) (gs : List Tg) : TGs := fun vs σ H Q => ∃ F s ts s', SR G B F H σ s ∧ Reps G F vs ts ∧ setTgs gs ts s = some s' ∧ ∀ σ', SR G B F H σ' s' → Off (tgsS gs) σ σ' → Q σ' H
theorem PG.imp {e : Expr} {t t' : TG} (h : PG X e t) (k : ∀ v σ H Q, t' v σ H Q → t v σ H Q) : PG X e t' := ⟨fun pins s σ H v u Q I r hw => h.run pins s σ H v u Q I r (k v σ H Q hw)⟩
theorem PGs.imp {e : List Expr} {t t' : TGs} (h : PGs X e t) (k : ∀ v σ H Q, t' v σ H Q → t v σ H Q) : PGs X e t' := ⟨fun pins s σ H v u Q I r hw => h.run pins s σ H v u Q I r (k v σ H Q hw)⟩
theorem g_nm (hN : X.N = N) (nd : N.Nodup) {i : Nat} {x : Str} (hi : N[i]? = some x) (hl : Loc X.env.scope x) (hf : X.fn x = true ∨ X.env.scope.names.lookup x = some .local) : PG X (.Name x pos) (rdG G B (.nm i)) := by
  refine PG.imp (pg_name (i := i) (by rw [hN]; exact nd) (by rw [hN]; exact hi) hl hf) ?_
  rintro v σ H Q ⟨F, s, t, s', sr, r, e, k⟩
  simp only [setTg] at e
  split at e
  · cases e
  · rename_i hm
    cases e
    have hi : i < s.length := by
      unfold isMp at hm
      cases q : s[i]? with
      | none => rw [q] at hm; exact (hm rfl).elim
      | some x => exact (List.getElem?_eq_some_iff.mp q).1
    refine k _ (sr.setIm hi r) ⟨List.length_set, fun j hj => ?_⟩
    simp only [tgS, List.mem_singleton] at hj
    exact List.getElem?_set_ne (Ne.symm hj)
theorem g_nil : PGs X [] (rdGs G B []) := by
  refine PGs.imp pgs_nil ?_
  rintro vs σ H Q ⟨F, s, ts, s', sr, r, e, k⟩
  cases ts with
  | nil =>
    simp only [setTgs] at e
    cases e
    simp only [Reps] at r
    exact ⟨r, k σ sr ⟨rfl, fun _ _ => rfl⟩⟩
  | cons _ _ => simp [setTgs] at e
theorem g_cons {e : Expr} {es : List Expr} {g : Tg} {gs : List Tg} (h1 : PG X e (rdG G B g)) (h2 : PGs X es (rdGs G B gs)) (hs : (assignEach (e :: es) X.env).map (·.2) = assign e X.env :: (assignEach es X.env).map (·.2)) : PGs X (e :: es) (rdGs G B (g :: gs)) := by
  refine PGs.imp (pgs_cons h1 h2 hs) ?_
  rintro vs σ H Q ⟨F, s, ts, s', sr, r, e, k⟩
  cases ts with
  | nil => simp [setTgs] at e
  | cons t ts =>
    simp only [setTgs] at e
    split at e
    · rename_i s1 e1
      simp only [Reps] at r
      obtain ⟨v, vr, rfl, r1, r2⟩ := r
      exact ⟨v, vr, rfl, F, s, t, s1, sr, r1, e1, fun σ' sr' o => ⟨F, s1, ts, s', sr', r2, e, fun σ2 sr2 o2 => k σ2 sr2 ⟨o2.1.trans o.1, fun i hi => by
        simp only [tgsS, List.mem_append, not_or] at hi
        exact (o2.2 i hi.2).trans (o.2 i hi.1)⟩⟩⟩
    · cases e
theorem g_tp {es : List Expr} {kk : Nat} {gs : List Tg} (hG : X.K = G.K) (hc : X.calm = true) (h : PGs X es (rdGs G B gs)) (hn : (assignEach es X.env).length = gs.length) (hst : (assignEach es X.env).findIdx? (·.1) = none) : PG X (.Tuple es kk pos) (rdG G B (.tp gs)) := by
  have hln : ∀ (gs : List Tg) (ts : List T) (s s' : Sls), setTgs gs ts s = some s' → gs.length = ts.length := by
    intro gs
    induction gs with
    | nil => intro ts s s' e; cases ts with
      | nil => rfl
      | cons _ _ => simp [setTgs] at e
    | cons g gs ih => intro ts s s' e; cases ts with
      | nil => simp [setTgs] at e
      | cons t ts =>
        simp only [setTgs] at e
        split at e
        · simp [ih _ _ _ e]
        · cases e
  refine ⟨fun pins sh σ H v u Q I rv hw => ?_⟩
  obtain ⟨F, s, t, s', sr, r, e, k⟩ := hw
  cases t with
  | tup ts =>
    simp only [setTg] at e
    simp only [Rep] at r
    obtain ⟨a, vs, rfl, h2, h3⟩ := r
    have hl := hln _ _ _ _ e
    exact (pg_tup (n := gs.length) hc h hn hst).run pins sh σ H _ u Q I rv ⟨a, vs, rfl, by rw [hG]; exact sameSqT sr.sub h2, by rw [h3.length, hl], F, s, ts, s', sr, h3, e, fun σ' sr' o => k σ' sr' (by simp only [tgS]; exact o)⟩
  | lst ts =>
    simp only [setTg] at e
    simp only [Rep] at r
    obtain ⟨a, vs, rfl, h2, h3⟩ := r
    have hl := hln _ _ _ _ e
    exact (pg_lst (n := gs.length) hc h hn hst).run pins sh σ H _ u Q I rv ⟨a, vs, rfl, .inl (.inl (sr.sub _ _ h2)), by rw [h3.length, hl], F, s, ts, s', sr, h3, e, fun σ' sr' o => k σ' sr' (by simp only [tgS]; exact o)⟩
  | _ => simp [setTg] at e
end
end FL

/-! FL12: what is walked; comprehensions. -/
namespace FL
open PySem PySem.Spec L2

/-- the walk J yields the trees ts, one after another, while F stands -/
structure ItT (G : Gx) (J : L2.It) (ts : List T) (F : Hp) : Prop where
  go : ∀ (i : Nat) (F1 H1 : Hp), Same F F1 → Same F1 H1 → i < ts.length → J.go i H1
  stop : ∀ (F1 H1 : Hp), Same F F1 → Same F1 H1 → J.stop ts.length H1
  yld : ∀ (i : Nat) (F1 H1 : Hp) (x : V) (H' : Hp), Same F F1 → Same F1 H1 → i < ts.length → J.yld i H1 x H' → ∃ F' t, Grow F1 H1 F' H' ∧ ts[i]? = some t ∧ Rep G F' x t
def relI (G : Gx) : Sls → Hp → Hp → L2.It → List T → Prop := fun _ F _ J ts => ItT G J ts F
section
variable {X : Cx} {G : Gx} {B : Fr0} {W : WX} {k : Option Nat} {N : List Str} {sc : Scope} {pos : Pos} {F : Hp} {tg : Expr}
variable {a b c : Expr} {ea eb ec : E} {es : List Expr}
theorem itt_list {a : Addr} {vs : List V} {ts : List T} (h : SqL G.K F a vs) (r : Reps G F vs ts) : ItT G (Itl G.K a) ts F where
  go := fun i F1 H1 e e1 hi => by
    have hl : i < vs.length := by rw [r.length]; exact hi
    exact ⟨vs, vs[i], e1.seq (e.seq h), by simp [hl]⟩
  stop := fun F1 H1 e e1 => ⟨vs, e1.seq (e.seq h), by rw [r.length]; exact Nat.le_refl _⟩
  yld := fun i F1 H1 x H' e e1 hi y => by
    obtain ⟨rfl, y⟩ := y
    have q := y vs (e1.seq (e.seq h))
    obtain ⟨t, h1, h2⟩ := r.got q
    exact ⟨F1, t, .refl e1, h1, Rep.mono e _ _ h2⟩
theorem itt_tup {a : Addr} {vs : List V} {ts : List T} (h : SqT G.K F a vs) (r : Reps G F vs ts) : ItT G (Itt G.K a) ts F where
  go := fun i F1 H1 e e1 hi => by
    have hl : i < vs.length := by rw [r.length]; exact hi
    exact ⟨vs, vs[i], sameSqT e1 (sameSqT e h), by simp [hl]⟩
  stop := fun F1 H1 e e1 => ⟨vs, sameSqT e1 (sameSqT e h), by rw [r.length]; exact Nat.le_refl _⟩
  yld := fun i F1 H1 x H' e e1 hi y => by
    obtain ⟨rfl, y⟩ := y
    have q := y vs (sameSqT e1 (sameSqT e h))
    obtain ⟨t, h1, h2⟩ := r.got q
    exact ⟨F1, t, .refl e1, h1, Rep.mono e _ _ h2⟩
theorem itt_range {lo : Int} {n : Nat} : ItT G (Itr lo n) ((List.range n).map fun k => T.int (lo + (k : Nat))) F where
  go := fun i F1 H1 e e1 hi => by
    rw [List.length_map, List.length_range] at hi
    exact hi
  stop := fun F1 H1 e e1 => by
    rw [List.length_map, List.length_range]
    exact Nat.le_refl _
  yld := fun i F1 H1 x H' e e1 hi y => by
    obtain ⟨rfl, rfl⟩ := y
    rw [List.length_map, List.length_range] at hi
    exact ⟨F1, .int (lo + (i : Nat)), .refl e1, by simp [hi], by simp only [Rep]⟩
theorem itt_str {z : Str} : ItT G (Its z) (signs z) F where
  go := fun i F1 H1 e e1 hi => by
    unfold signs at hi
    show i < z.cps.size
    simpa using hi
  stop := fun F1 H1 e e1 => by
    unfold signs
    show z.cps.size ≤ _
    simp
  yld := fun i F1 H1 x H' e e1 hi y => by
    obtain ⟨rfl, c, h1, rfl⟩ := y
    exact ⟨F1, .str ⟨#[c]⟩, .refl e1, by unfold signs; simp [h1], by simp only [Rep]⟩
theorem itt_enum {a : Addr} {vs : List V} {ts : List T} (h : SqL G.K F a vs) (r : Reps G F vs ts) : ItT G (Ite G.K a) (ts.zipIdx.map fun p => T.tup [.int (p.2 : Nat), p.1]) F where
  go := fun i F1 H1 e e1 hi => by
    rw [List.length_map, List.length_zipIdx] at hi
    have hl : i < vs.length := by rw [r.length]; exact hi
    exact ⟨vs, vs[i], e1.seq (e.seq h), by simp [hl]⟩
  stop := fun F1 H1 e e1 => ⟨vs, e1.seq (e.seq h), by rw [List.length_map, List.length_zipIdx, r.length]; exact Nat.le_refl _⟩
  yld := fun i F1 H1 x H' e e1 hi y => by
    rw [List.length_map, List.length_zipIdx] at hi
    obtain ⟨q, w, rfl, hn, rfl, y⟩ := y
    have q1 := y vs (e1.seq (e.seq h))
    obtain ⟨t, h1, h2⟩ := r.got q1
    have gr := Grow.laid (o := .tup [V.int (i : Nat), w]) e1 hn
    refine ⟨_, .tup [.int (i : Nat), t], gr, ?_, ?_⟩
    · rw [List.getElem?_map, List.getElem?_zipIdx, h1]
      simp
    · simp only [Rep]
      exact ⟨q, _, rfl, .inl (.inl upd_same), Reps.cons (by simp only [Rep]) (Reps.one (Rep.mono gr.ff _ _ (Rep.mono e _ _ h2)))⟩
theorem itt_zip {a b : Addr} {vs ws : List V} {ts us : List T} (h : SqL G.K F a vs) (r : Reps G F vs ts) (h' : SqL G.K F b ws) (r' : Reps G F ws us) : ItT G (Itz G.K a b) ((ts.zip us).map fun p => T.tup [p.1, p.2]) F where
  go := fun i F1 H1 e e1 hi => by
    rw [List.length_map, List.length_zip] at hi
    have hl : i < vs.length := by rw [r.length]; omega
    have hl' : i < ws.length := by rw [r'.length]; omega
    exact ⟨vs, ws, vs[i], ws[i], e1.seq (e.seq h), e1.seq (e.seq h'), by simp [hl], by simp [hl']⟩
  stop := fun F1 H1 e e1 => ⟨vs, ws, e1.seq (e.seq h), e1.seq (e.seq h'), by
    rw [List.length_map, List.length_zip, r.length, r'.length]
    omega⟩
  yld := fun i F1 H1 x H' e e1 hi y => by
    rw [List.length_map, List.length_zip] at hi
    obtain ⟨q, w, w', rfl, hn, rfl, y, y'⟩ := y
    have q1 := y vs (e1.seq (e.seq h))
    have q2 := y' ws (e1.seq (e.seq h'))
    obtain ⟨t, h1, h2⟩ := r.got q1
    obtain ⟨u, h3, h4⟩ := r'.got q2
    have gr := Grow.laid (o := .tup [w, w']) e1 hn
    refine ⟨_, .tup [t, u], gr, ?_, ?_⟩
    · rw [List.getElem?_map, List.getElem?_zip_eq_some (z := (t, u)) |>.mpr ⟨h1, h3⟩]
      rfl
    · simp only [Rep]
      exact ⟨q, _, rfl, .inl (.inl upd_same), Reps.cons (Rep.mono gr.ff _ _ (Rep.mono e _ _ h2)) (Reps.one (Rep.mono gr.ff _ _ (Rep.mono e _ _ h4)))⟩

/-! ### walked things -/
theorem PI.imp {tg e : Expr} {t t' : TI} (h : PI X tg e t) (k : ∀ σ H R, t' σ H R → t σ H R) : PI X tg e t' := ⟨fun pins s σ H R I hw => h.run pins s σ H R I (k σ H R hw)⟩
/-- a list, a tuple, a text -/
def iSeq (K : PySem.W.Frag) (te : TE) : TI := fun σ H R => te σ H fun x H1 => (∃ a, x = .ref a ∧ (∃ xs, SqL K H1 a xs) ∧ R (Itl K a) H1) ∨ (∃ a, x = .ref a ∧ (∃ xs, SqT K H1 a xs) ∧ R (Itt K a) H1) ∨ (∃ z, x = .str z ∧ R (Its z) H1)
theorem pi_seq {l : Expr} {tl : TE} (hl : PE X l tl) : PI X tg l (iSeq X.K tl) := by
  refine ⟨fun pins s σ H R I h => ?_⟩
  refine thn (hl.run pins s σ H _ I h) fun v s1 ⟨x, H1, I1, r1, q1⟩ => ?_
  rcases q1 with ⟨a, e, ⟨xs, hq⟩, q⟩ | ⟨a, e, ⟨xs, hq⟩, q⟩ | ⟨z, e, q⟩
  · subst e
    cases r1
    obtain ⟨its, rv, p, hz⟩ := I1.list hq
    refine PySem.wpAny_pyIter_list p.isList ?_
    refine ⟨s1.heap.objs.size, [s1.heap.objs.size], _, _, H1, rfl, I1.kept (t' := s1.toks) fun b o e => Heap.get?_push_of_some _ e, turn_list a _, ⟨_, Heap.get?_push_size _ rfl, rfl, rfl⟩, fun b hb => ?_, q⟩
    have e : b = s1.heap.objs.size := by simpa using hb
    subst e
    exact I1.fpOk (Nat.le_refl _) (I1.hok.fresh (Nat.le_refl _))
  · subst e
    cases r1
    obtain ⟨its, rv, p, hz⟩ := I1.tuple hq
    refine PySem.wpAny_pyIter_tuple (show s1.heap.IsTuple a its.toArray from p) ?_
    refine ⟨s1.heap.objs.size, [s1.heap.objs.size], _, _, H1, rfl, I1.kept (t' := s1.toks) fun b o e => Heap.get?_push_of_some _ e, turn_tuple a _, ⟨_, Heap.get?_push_size _ rfl, rfl, rfl⟩, fun b hb => ?_, q⟩
    have e : b = s1.heap.objs.size := by simpa using hb
    subst e
    exact I1.fpOk (Nat.le_refl _) (I1.hok.fresh (Nat.le_refl _))
  · subst e
    obtain ⟨t, rfl⟩ := r1
    cases ha : z.cps.all (· < 128)
    · exact PySem.wpAny_pyIter_wide ha (pi_one (tk := s1.toks) I1 _ (turn_str _ z t "str_iterator" (.inr rfl)) ⟨_, Heap.get?_push_size _ rfl, rfl, rfl⟩ q)
    · exact PySem.wpAny_pyIter_ascii ha (pi_one (tk := s1.toks) I1 _ (turn_str _ z t "str_ascii_iterator" (.inl rfl)) ⟨_, Heap.get?_push_size _ rfl, rfl, rfl⟩ q)
abbrev rdI (G : Gx) (B : Fr0) (W : WX) (it : It) : TI := rd G B W (relI G) (evIt it)
theorem i_seq (hG : X.K = G.K) (ha : PE X a (rdE G B W ea)) : PI X tg a (rdI G B W (.seq ea)) := by
  refine PI.imp (pi_seq ha) fun σ H R hq => ?_
  obtain ⟨F, s, sr, p⟩ := hq
  simp only [evIt] at p
  refine ⟨F, s, sr, (Pst.bind p).mono ?_⟩
  rintro x H1 ⟨tx, F1, s1, e1, sr1, rx, p1⟩
  cases tx with
  | str z =>
    simp only [relE, Rep] at rx
    exact .inr (.inr ⟨z, rx, p1 _ F1 H1 (.refl _) sr1 itt_str⟩)
  | tup ts =>
    simp only [relE, Rep] at rx
    obtain ⟨a, vs, rfl, h2, h3⟩ := rx
    rw [hG]
    exact .inr (.inl ⟨a, rfl, ⟨vs, sameSqT sr1.sub h2⟩, p1 _ F1 H1 (.refl _) sr1 (itt_tup h2 h3)⟩)
  | lst ts =>
    simp only [relE, Rep] at rx
    obtain ⟨a, vs, rfl, h2, h3⟩ := rx
    rw [hG]
    exact .inl ⟨a, rfl, ⟨vs, .inl (.inl (sr1.sub _ _ h2))⟩, p1 _ F1 H1 (.refl _) sr1 (itt_list (.inl (.inl h2)) h3)⟩
  | scr ts =>
    simp only [relE, Rep] at rx
    obtain ⟨a, vs, rfl, h2, h3⟩ := rx
    rw [hG]
    exact .inl ⟨a, rfl, ⟨vs, sr1.sub.seq h2⟩, p1 _ F1 H1 (.refl _) sr1 (itt_list h2 h3)⟩
  | _ => exact p1.elim
theorem i_rng1 (g : Good X G k N sc W) {p : Pos} (hk : G.mg "range" = none) (hl : sc.names.lookup ("range" : Str) = some .globalImplicit) (ha : PE X a (rdE G B W ea)) (hs : starEach [a] X.env = [(false, eval a X.env)]) : PI X tg (.Call (.Name "range" p) [a] [] pos) (rdI G B W (.rng1 ea)) := by
  have hg : Gl X "range" := show X.env.scope.names.lookup ("range" : Str) = some .globalImplicit by rw [g.hsc]; exact hl
  refine PI.imp (pi_range1 hg (by rw [g.hmg]; exact hk) (pa_cons ha pa_nil hs) hs) fun σ H R hq => ?_
  obtain ⟨F, s, sr, p⟩ := hq
  simp only [evIt] at p
  refine ⟨F, s, sr, (Pst.bind p).mono ?_⟩
  rintro x H1 ⟨tx, F1, s1, e1, sr1, rx, p1⟩
  cases tx with
  | int j =>
    simp only [relE, Rep] at rx
    subst rx
    simp only at p1
    split at p1
    · rename_i hj
      refine ⟨j, rfl, hj.1, hj.2, p1 _ F1 H1 (.refl _) sr1 ?_⟩
      have z := itt_range (G := G) (F := F1) (lo := 0) (n := j.toNat)
      simpa only [relI, Int.zero_add] using z
    · exact p1.elim
  | _ => exact p1.elim
theorem i_rng2 (g : Good X G k N sc W) {p : Pos} (hk : G.mg "range" = none) (hl : sc.names.lookup ("range" : Str) = some .globalImplicit) (ha : PE X a (rdE G B W ea)) (hb : PE X b (rdE G B W eb)) (hs : starEach [a, b] X.env = [(false, eval a X.env), (false, eval b X.env)]) (hs2 : starEach [b] X.env = [(false, eval b X.env)]) :
    PI X tg (.Call (.Name "range" p) [a, b] [] pos) (rdI G B W (.rng2 ea eb)) := by
  have hg : Gl X "range" := show X.env.scope.names.lookup ("range" : Str) = some .globalImplicit by rw [g.hsc]; exact hl
  refine PI.imp (pi_range2 hg (by rw [g.hmg]; exact hk) (pa_cons ha (pa_cons hb pa_nil hs2) (by rw [hs, hs2])) hs hs2) fun σ H R hq => ?_
  obtain ⟨F, s, sr, p⟩ := hq
  simp only [evIt] at p
  refine ⟨F, s, sr, (Pst.bind p).mono ?_⟩
  rintro x H1 ⟨tx, F1, s1, e1, sr1, rx, p1⟩
  refine ⟨F1, s1, sr1, (Pst.bind p1).mono ?_⟩
  rintro y H2 ⟨ty, F2, s2, e2, sr2, ry, p2⟩
  split at p2
  · simp only [relE, Rep] at rx ry
    subst rx ry
    split at p2
    · rename_i hj
      exact ⟨_, _, rfl, hj, p2 _ F2 H2 (.refl _) sr2 itt_range⟩
    · exact p2.elim
  · exact p2.elim
theorem i_enm (g : Good X G k N sc W) {p tpos : Pos} {elts : List Expr} {kk : Nat} (hk : G.mg "enumerate" = none) (hl : sc.names.lookup ("enumerate" : Str) = some .globalImplicit) (ha : PE X a (rdE G B W ea)) (hs : starEach [a] X.env = [(false, eval a X.env)]) :
    PI X (.Tuple elts kk tpos) (.Call (.Name "enumerate" p) [a] [] pos) (rdI G B W (.enm ea)) := by
  have hg : Gl X "enumerate" := show X.env.scope.names.lookup ("enumerate" : Str) = some .globalImplicit by rw [g.hsc]; exact hl
  refine PI.imp (pi_enum hg (by rw [g.hmg]; exact hk) (pa_cons ha pa_nil hs) hs) fun σ H R hq => ?_
  obtain ⟨F, s, sr, p⟩ := hq
  simp only [evIt] at p
  refine ⟨F, s, sr, (Pst.bind p).mono ?_⟩
  rintro x H1 ⟨tx, F1, s1, e1, sr1, rx, p1⟩
  cases tx with
  | lst ts =>
    simp only [relE, Rep] at rx
    obtain ⟨a, vs, rfl, h2, h3⟩ := rx
    rw [g.hK]
    exact ⟨a, vs, rfl, .inl (.inl (sr1.sub _ _ h2)), p1 _ F1 H1 (.refl _) sr1 (itt_enum (.inl (.inl h2)) h3)⟩
  | _ => exact p1.elim
theorem i_zip (g : Good X G k N sc W) {p tpos : Pos} {elts : List Expr} {kk : Nat} (hk : G.mg "zip" = none) (hl : sc.names.lookup ("zip" : Str) = some .globalImplicit) (ha : PE X a (rdE G B W ea)) (hb : PE X b (rdE G B W eb)) (hs : starEach [a, b] X.env = (false, eval a X.env) :: starEach [b] X.env) (hs2 : starEach [b] X.env = [(false, eval b X.env)]) (hpl : (backTo pos (starEach [b] X.env)).any (·.1) = false) :
    PI X (.Tuple elts kk tpos) (.Call (.Name "zip" p) [a, b] [] pos) (rdI G B W (.zip ea eb)) := by
  have hg : Gl X "zip" := show X.env.scope.names.lookup ("zip" : Str) = some .globalImplicit by rw [g.hsc]; exact hl
  refine PI.imp (pi_zip hg (by rw [g.hmg]; exact hk) (pa_cons ha (pa_cons hb pa_nil hs2) hs) hs hpl) fun σ H R hq => ?_
  obtain ⟨F, s, sr, p⟩ := hq
  simp only [evIt] at p
  refine ⟨F, s, sr, (Pst.bind p).mono ?_⟩
  rintro x H1 ⟨tx, F1, s1, e1, sr1, rx, p1⟩
  refine ⟨F1, s1, sr1, (Pst.bind p1).mono ?_⟩
  rintro y H2 ⟨ty, F2, s2, e2, sr2, ry, p2⟩
  split at p2
  · simp only [relE, Rep] at rx ry
    obtain ⟨a, vs, rfl, h2, h3⟩ := rx
    obtain ⟨b, ws, rfl, k2, k3⟩ := ry
    rw [g.hK]
    exact ⟨a, b, vs, ws, rfl, .inl (.inl (sr2.sub _ _ (e2 _ _ h2))), .inl (.inl (sr2.sub _ _ k2)), p2 _ F2 H2 (.refl _) sr2 (itt_zip (.inl (.inl (e2 _ _ h2))) (Reps.mono e2 _ _ h3) (.inl (.inl k2)) k3)⟩
  · exact p2.elim
end
end FL

/-! FL13: comprehensions. -/
namespace FL
open PySem PySem.Spec L2
section
variable {X : Cx} {G : Gx} {B : Fr0} {W : WX} {k : Option Nat} {N : List Str} {sc : Scope} {pos : Pos} {F H : Hp} {σ : L2.St} {s : Sls}
/-- nothing is let out -/
abbrev W0 : WX := fun _ _ _ _ => False
theorem SR.wipe (h : SR G B F H σ s) : ∀ l : List Nat, SR G B F H (L2.wipe σ l) (wipeS s l)
  | [] => h
  | v :: vs => by
    show SR G B F H ((L2.wipe σ vs).set v none) ((wipeS s vs).set v .un)
    exact (SR.wipe h vs).setUn v none
theorem wipe_get : ∀ (l : List Nat) (σ : L2.St) (i : Nat), i ∉ l → (L2.wipe σ l)[i]? = σ[i]?
  | [], σ, i, _ => rfl
  | v :: vs, σ, i, h => by
    show ((L2.wipe σ vs).set v none)[i]? = σ[i]?
    rw [List.getElem?_set_ne (fun e => h (by rw [e]; exact List.mem_cons_self))]
    exact wipe_get vs σ i fun z => h (List.mem_cons_of_mem _ z)
theorem wipe_in : ∀ (l : List Nat) (σ : L2.St) (i : Nat), i ∈ l → i < σ.length → (L2.wipe σ l)[i]? = some none
  | [], σ, i, h, _ => by simp at h
  | v :: vs, σ, i, h, hl => by
    show ((L2.wipe σ vs).set v none)[i]? = some none
    by_cases e : v = i
    · subst e
      rw [List.getElem?_set_self (by rw [wipe_length]; exact hl)]
    · rw [List.getElem?_set_ne e]
      rcases List.mem_cons.mp h with z | z
      · exact (e z.symm).elim
      · exact wipe_in vs σ i z hl
/-- what is set within the wiped slots is wiped again -/
theorem wipe_off {l m : List Nat} {σ σ' : L2.St} (h : Off m (L2.wipe σ l) σ') (hm : ∀ i ∈ m, i ∈ l) : L2.wipe σ' l = L2.wipe σ l := by
  apply List.ext_getElem?
  intro i
  by_cases hi : i ∈ l
  · by_cases hl : i < σ.length
    · rw [wipe_in l σ i hi hl, wipe_in l σ' i hi (by rw [h.1, wipe_length]; exact hl)]
    · rw [List.getElem?_eq_none (by rw [wipe_length, h.1, wipe_length]; omega), List.getElem?_eq_none (by rw [wipe_length]; omega)]
  · rw [wipe_get l σ' i hi, h.2 i (fun z => hi (hm i z)), wipe_get l σ i hi]
theorem wipeS_get : ∀ (l : List Nat) (s : Sls) (i : Nat), i ∉ l → (wipeS s l)[i]? = s[i]?
  | [], s, i, _ => rfl
  | v :: vs, s, i, h => by
    show ((wipeS s vs).set v .un)[i]? = s[i]?
    rw [List.getElem?_set_ne (fun e => h (by rw [e]; exact List.mem_cons_self))]
    exact wipeS_get vs s i fun z => h (List.mem_cons_of_mem _ z)
theorem backS_len (s0 : Sls) : ∀ (l : List Nat) (s : Sls), (backS s0 s l).length = s.length
  | [], s => rfl
  | v :: vs, s => by
    show ((backS s0 s vs).set v _).length = s.length
    rw [List.length_set]
    exact backS_len s0 vs s
theorem backS_out (s0 : Sls) : ∀ (l : List Nat) (s : Sls) (i : Nat), i ∉ l → (backS s0 s l)[i]? = s[i]?
  | [], s, i, _ => rfl
  | v :: vs, s, i, h => by
    show ((backS s0 s vs).set v _)[i]? = s[i]?
    rw [List.getElem?_set_ne (fun e => h (by rw [e]; exact List.mem_cons_self))]
    exact backS_out s0 vs s i fun z => h (List.mem_cons_of_mem _ z)
theorem backS_in (s0 : Sls) : ∀ (l : List Nat) (s : Sls) (i : Nat) (x : Sl), i ∈ l → (backS s0 s l)[i]? = some x → s0[i]? = some x ∨ x = .un
  | [], s, i, x, h, _ => by simp at h
  | v :: vs, s, i, x, h, e => by
    have e : ((backS s0 s vs).set v (match s0[v]? with | some x => x | none => .un))[i]? = some x := e
    by_cases z : v = i
    · subst z
      by_cases hl : v < (backS s0 s vs).length
      · rw [List.getElem?_set_self hl] at e
        split at e
        · rename_i y hy
          cases e
          exact .inl hy
        · cases e
          exact .inr rfl
      · rw [List.getElem?_eq_none (by simpa using hl)] at e
        cases e
    · rw [List.getElem?_set_ne z] at e
      rcases List.mem_cons.mp h with q | q
      · exact (z q.symm).elim
      · exact backS_in s0 vs s i x q e
theorem noOwn_get {s : Sls} : ∀ {l : List Nat} {i : Nat} {x : Sl}, noOwn s l = true → i ∈ l → s[i]? = some x → x.own = none
  | [], i, x, _, h, _ => by simp at h
  | v :: vs, i, x, n, h, e => by
    unfold noOwn at n
    rw [Bool.and_eq_true] at n
    rcases List.mem_cons.mp h with rfl | h
    · have n1 := n.1
      unfold ownAt at n1
      rw [e] at n1
      simpa using n1
    · exact noOwn_get n.2 h e
/-- the own slots as they stood ahead -/
theorem SR.back {F1 H1 : Hp} {s1 s2 : Sls} {l : List Nat} (h1 : SR G B F1 H1 σ s1) (h2 : SR G B F H (L2.wipe σ l) s2) (e : Same F1 F) (n : noOwn s1 l = true) : SR G B F H σ (backS s1 s2 l) := by
  have cs : ∀ {i : Nat} {x : Sl}, (backS s1 s2 l)[i]? = some x → (i ∈ l ∧ ((s1[i]? = some x ∧ x.own = none) ∨ x = .un)) ∨ (i ∉ l ∧ s2[i]? = some x ∧ (L2.wipe σ l)[i]? = σ[i]?) := fun {i x} q => by
    by_cases hi : i ∈ l
    · refine .inl ⟨hi, ?_⟩
      rcases backS_in s1 l s2 i x hi q with z | z
      · exact .inl ⟨z, noOwn_get n hi z⟩
      · exact .inr z
    · rw [backS_out s1 l s2 i hi] at q
      exact .inr ⟨hi, q, wipe_get l σ i hi⟩
  have own : ∀ {i : Nat} {x : Sl}, (backS s1 s2 l)[i]? = some x → x.own.isSome = true → s2[i]? = some x ∧ (L2.wipe σ l)[i]? = σ[i]? := fun {i x} q o => by
    rcases cs q with ⟨_, ⟨_, z⟩ | z⟩ | ⟨_, z1, z2⟩
    · rw [z] at o; cases o
    · subst z; cases o
    · exact ⟨z1, z2⟩
  refine ⟨h2.sub, by rw [backS_len, h2.len, wipe_length], fun i t q => ?_, fun i ts q => ?_, fun i ts q => ?_, fun i j x y a b ne q r ox oy sj sk => ?_, h2.fr, h2.pl, h2.ph, h2.f0, h2.nw, fun i c ns ts q => by
    rcases cs q with ⟨_, ⟨z, _⟩ | z⟩ | ⟨_, z1, z2⟩
    · obtain ⟨a, cls, d, k1, k2, k3⟩ := h1.xc i c ns ts z; exact ⟨a, cls, d, k1, k2, k3.imp id fun z => z.mono e⟩
    · cases z
    · rw [← z2]; exact h2.xc i c ns ts z1⟩
  · rcases cs q with ⟨_, ⟨z, _⟩ | z⟩ | ⟨_, z1, z2⟩
    · obtain ⟨v, k1, k2⟩ := h1.im i t z
      exact ⟨v, k1, Rep.mono e _ _ k2⟩
    · cases z
    · obtain ⟨v, k1, k2⟩ := h2.im i t z1
      exact ⟨v, by rw [← z2]; exact k1, k2⟩
  · obtain ⟨z1, z2⟩ := own q rfl
    obtain ⟨a, k1, k2, k3⟩ := h2.mu i ts z1
    exact ⟨a, by rw [← z2]; exact k1, k2, k3⟩
  · obtain ⟨z1, z2⟩ := own q rfl
    obtain ⟨a, k1, k2, k3⟩ := h2.mp i ts z1
    exact ⟨a, by rw [← z2]; exact k1, k2, k3⟩
  · obtain ⟨z1, z2⟩ := own q ox
    obtain ⟨z3, z4⟩ := own r oy
    exact h2.ne i j x y a b ne z1 z3 ox oy (by rw [z2]; exact sj) (by rw [z4]; exact sk)
/-- a new object is to stand -/
def Fr0.prot (B : Fr0) (D : Addr) (o : HO) : Fr0 := { B with H0 := upd B.H0 D o }
theorem SR.prot {D : Addr} {o : HO} (h : SR G B F H σ s) (n : H D = none) : SR G (B.prot D o) F (upd H D o) σ s := by
  have hF : F D = none := h.sub.free n
  have h0 : B.H0 D = none := h.free0 n
  have npa : ∀ a, B.pa = some a → a ≠ D := fun a e z => by
    obtain ⟨vs, q⟩ := h.pl a e
    rw [z, n] at q
    cases q
  have gr := Grow.put (o := o) h.sub n
  have g := h.grow gr
  have nown : ∀ {i : Nat} {a : Addr} {ts : List T}, LstAt G F H a ts → a ≠ D := fun {i a ts} ⟨⟨vs, q, _⟩, _⟩ z => by rw [z, n] at q; cases q
  refine ⟨g.sub, g.len, g.im, fun i ts e => ?_, g.mp, g.ne, fun b u e np => ?_, g.pl, fun a e => ?_, g.f0, fun b e q => ?_, g.xc⟩
  · obtain ⟨a, k1, k2, k3⟩ := h.mu i ts e
    obtain ⟨a', k1', k2', _⟩ := g.mu i ts e
    rw [k1] at k1'
    cases k1'
    exact ⟨a, k1, k2', by show upd B.H0 D o a = none; rw [upd_ne (nown (i := i) k2)]; exact k3⟩
  · have e : upd B.H0 D o b = some u := e
    by_cases z : b = D
    · subst z; rw [upd_same] at e ⊢; exact e
    · rw [upd_ne z] at e; exact g.fr b u e np
  · show upd B.H0 D o a ≠ none
    rw [upd_ne (npa a e)]
    exact h.ph a e
  · show upd B.H0 D o b = none
    have z : b ≠ D := fun z => by subst z; exact q hF
    rw [upd_ne z]
    exact h.nw b e q
theorem SR.unprot {D : Addr} {o : HO} (h : SR G (B.prot D o) F H σ s) (h0 : B.H0 D = none) (npa : B.pa ≠ some D) : SR G B F H σ s := by
  have out : ∀ {b : Addr}, upd B.H0 D o b = none → B.H0 b = none := fun {b} e => by
    by_cases z : b = D
    · subst z; exact h0
    · rw [upd_ne z] at e; exact e
  refine ⟨h.sub, h.len, h.im, fun i ts e => ?_, h.mp, h.ne, fun b u e np => ?_, h.pl, fun a e => ?_, h.f0, fun b e q => out (h.nw b e q), h.xc⟩
  · obtain ⟨a, k1, k2, k3⟩ := h.mu i ts e
    exact ⟨a, k1, k2, out k3⟩
  · refine h.fr b u ?_ np
    show upd B.H0 D o b = some u
    have z : b ≠ D := fun z => by subst z; rw [h0] at e; cases e
    rw [upd_ne z]
    exact e
  · have q : upd B.H0 D o a ≠ none := h.ph a e
    have z : a ≠ D := fun z => by subst z; exact npa e
    rw [upd_ne z] at q
    exact q
/-- the new list has grown -/
theorem SR.reprot {D : Addr} {o o' : HO} (h : SR G (B.prot D o) F H σ s) (h0 : B.H0 D = none) (f0 : B.F0 D = none) (npa : B.pa ≠ some D) : SR G (B.prot D o') F (upd H D o') σ s := by
  have hD : F D = none := by
    cases q : F D with
    | none => rfl
    | some u =>
      have z : upd B.H0 D o D = none := h.nw D f0 (by rw [q]; exact fun z => by cases z)
      rw [upd_same] at z
      cases z
  have ne : ∀ {a : Addr} {ts : List T}, (upd B.H0 D o a = none ∨ B.pa = some a) → a ≠ D := fun {a ts} e z => by
    subst z
    rcases e with e | e
    · rw [upd_same] at e; cases e
    · exact npa e
  have own : ∀ {a : Addr} {ts : List T}, a ≠ D → LstAt G F H a ts → LstAt G F (upd H D o') a ts := fun {a ts} n ⟨⟨vs, k1, k2⟩, k3⟩ => ⟨⟨vs, by rw [upd_ne n]; exact k1, k2⟩, k3⟩
  refine ⟨fun b u e => ?_, h.len, h.im, fun i ts e => ?_, fun i ts e => ?_, h.ne, fun b u e np => ?_, fun a e => ?_, fun a e => ?_, h.f0, fun b e q => ?_, h.xc⟩
  · have z : b ≠ D := fun z => by subst z; rw [hD] at e; cases e
    rw [upd_ne z]
    exact h.sub _ _ e
  · obtain ⟨a, k1, k2, k3⟩ := h.mu i ts e
    have z : a ≠ D := ne (ts := ts) (.inl k3)
    refine ⟨a, k1, own z k2, ?_⟩
    have k3 : upd B.H0 D o a = none := k3
    show upd B.H0 D o' a = none
    rw [upd_ne z] at k3 ⊢
    exact k3
  · obtain ⟨a, k1, k2, k3⟩ := h.mp i ts e
    exact ⟨a, k1, own (ne (ts := ts) (.inr k3)) k2, k3⟩
  · have e : upd B.H0 D o' b = some u := e
    by_cases z : b = D
    · subst z; rw [upd_same] at e ⊢; exact e
    · rw [upd_ne z] at e ⊢
      exact h.fr b u (by show upd B.H0 D o b = some u; rw [upd_ne z]; exact e) np
  · obtain ⟨vs, q⟩ := h.pl a e
    exact ⟨vs, by rw [upd_ne (ne (ts := []) (.inr e))]; exact q⟩
  · have q : upd B.H0 D o a ≠ none := h.ph a e
    have z : a ≠ D := ne (ts := []) (.inr e)
    show upd B.H0 D o' a ≠ none
    rw [upd_ne z] at q ⊢
    exact q
  · have z : b ≠ D := fun z => by subst z; exact q hD
    have k : upd B.H0 D o b = none := h.nw b e q
    show upd B.H0 D o' b = none
    rw [upd_ne z] at k ⊢
    exact k

/-! ### the turns -/
/-- readings for any ground -/
def anyB {β : Type} (t : Fr0 → L2.St → Hp → (β → Hp → Prop) → Prop) : L2.St → Hp → (β → Hp → Prop) → Prop := fun σ H Q => ∃ B, t B σ H Q
def gAny (G : Gx) (g : Tg) : TG := fun v σ H Q => ∃ B, rdG G B g v σ H Q
theorem compL_cons {own : List Nat} {s0 : Sls} {g : Tg} {tst : Sls → Rs Bool} {elt : Sls → Rs T} {x : T} {xs acc ts : List T} {s s2 : Sls} (h : compL own s0 g tst elt (x :: xs) acc s = .ok ts s2) :
    ∃ s1, setTg g x s = some s1 ∧ ((∃ s3 y s4, tst s1 = .ok true s3 ∧ elt s3 = .ok y s4 ∧ acc.length < big ∧ compL own s0 g tst elt xs (acc ++ [y]) (wipeS s4 own) = .ok ts s2) ∨
      (∃ s3, tst s1 = .ok false s3 ∧ compL own s0 g tst elt xs acc (wipeS s3 own) = .ok ts s2)) := by
  unfold compL at h
  split at h
  · rename_i s1 e1
    refine ⟨s1, e1, ?_⟩
    split at h
    · rename_i s3 e3
      split at h
      · rename_i y s4 e4
        split at h
        · rename_i hl
          exact .inl ⟨s3, y, s4, e3, e4, hl, h⟩
        · cases h
      · cases h
    · rename_i s3 e3
      exact .inr ⟨s3, e3, h⟩
    · cases h
  · cases h
theorem rd_comp {own : List Nat} {g : Tg} {it : It} {cs : Cs} {elt : E} (hg : ∀ i ∈ tgS g, i ∈ own) {Q : VK} (hq : rdM G B W (.comp own g it cs elt) σ H Q) :
    tLc (rdI G B W it) (gAny G g) (anyB fun B => rd G B W0 relC (evTs cs)) (anyB fun B => rdE G B W0 elt) own σ H Q := by
  obtain ⟨F, s, sr, p⟩ := hq
  simp only [evM] at p
  refine ⟨F, s, sr, (Pst.bind p).mono ?_⟩
  rintro J H1 ⟨xs, F1, s1, e1, sr1, it, p1⟩
  have it : ItT G J xs F1 := it
  split at p1
  · rename_i hno
    intro D hD
    have h0 : B.H0 D = none := sr1.free0 hD
    have hF1 : F1 D = none := sr1.sub.free hD
    have f0 : B.F0 D = none := sr1.f0.free hF1
    have npa : B.pa ≠ some D := fun z => by
      obtain ⟨vs, q⟩ := sr1.pl D z
      rw [hD] at q
      cases q
    -- the end
    cases hc : compL own s1 g (evTs cs) (evE elt) xs [] (wipeS s1 own) with
    | bad => rw [hc] at p1; exact p1.elim
    | ex c ns es s' =>
      -- a comprehension ends or is bad
      exfalso
      clear p1 p it
      have : ∀ (xs acc : List T) (s : Sls), compL own s1 g (evTs cs) (evE elt) xs acc s = .ex c ns es s' → False := by
        intro xs
        induction xs with
        | nil => intro acc s e; unfold compL at e; cases e
        | cons x xs ih =>
          intro acc s e
          unfold compL at e
          split at e
          · split at e
            · split at e
              · split at e
                · exact ih _ _ e
                · cases e
              · cases e
            · exact ih _ _ e
            · cases e
          · cases e
      exact this _ _ _ hc
    | ok ts s2 =>
      rw [hc] at p1
      -- the invariant
      let Inv : Nat → Hp → Prop := fun i H' => ∃ F' s' acc vacc, Same F1 F' ∧ SR G (B.prot D (.lst vacc)) F' H' (L2.wipe σ own) s' ∧ Reps G F' vacc acc ∧ compL own s1 g (evTs cs) (evE elt) (xs.drop i) acc s' = .ok ts s2
      refine ⟨fun i m H' => m = xs.length - i ∧ i ≤ xs.length ∧ Inv i H', ⟨xs.length, by simp, Nat.zero_le _, F1, wipeS s1 own, [], [], .refl _, (sr1.prot hD).wipe own, by simp [Reps], by simpa using hc⟩, ?_⟩
      rintro i m H' ⟨rfl, hi, F', s', acc, vacc, eF, sr', ra, hcl⟩
      have hDl : H' D = some (.lst vacc) := sr'.fr D _ (by show upd B.H0 D (.lst vacc) D = _; rw [upd_same]) npa
      by_cases hlt : i < xs.length
      · refine .inr ⟨it.go i F' H' eF sr'.sub hlt, Inv (i + 1), fun H2 q => ⟨xs.length - (i + 1), by omega, rfl, hlt, q⟩, fun x H2 y => ?_⟩
        obtain ⟨F2, t, gr, ht, rt⟩ := it.yld i F' H' x H2 eF sr'.sub hlt y
        rw [List.drop_eq_getElem_cons hlt] at hcl
        have ht' : xs[i] = t := by
          rw [List.getElem?_eq_getElem hlt] at ht
          exact Option.some.inj ht
        rw [ht'] at hcl
        obtain ⟨s3, h3, hcl⟩ := compL_cons hcl
        have sr2 := sr'.grow gr
        refine ⟨B.prot D (.lst vacc), F2, s', t, s3, sr2, rt, h3, fun σ3 sr3 off => ?_⟩
        have hw := wipe_off off hg
        refine ⟨hw, B.prot D (.lst vacc), F2, s3, sr3, ?_⟩
        -- behind the test
        rcases hcl with ⟨s4, y4, s5, t4, e5, hl, hcl⟩ | ⟨s4, t4, hcl⟩
        · rw [t4]
          rintro b F3 H3 eF3 sr4 rfl
          rw [if_pos rfl]
          refine ⟨B.prot D (.lst vacc), F3, s4, sr4, ?_⟩
          rw [e5]
          intro v F4 H4 eF4 sr5 r
          have hD4 : H4 D = some (.lst vacc) := sr5.fr D _ (by show upd B.H0 D (.lst vacc) D = _; rw [upd_same]) npa
          have eall : Same F' F4 := gr.ff.trans (eF3.trans eF4)
          refine ⟨vacc, hD4, by rw [ra.length, ← big_eq]; exact hl, F4, wipeS s5 own, acc ++ [y4], vacc ++ [v], eF.trans eall, ?_, Reps.append (Reps.mono eall _ _ ra) (Reps.one r), hcl⟩
          have z := (sr5.reprot (o' := .lst (vacc ++ [v])) h0 f0 npa).wipe own
          rw [hw] at z
          exact z
        · rw [t4]
          rintro b F3 H3 eF3 sr4 rfl
          rw [if_neg Bool.false_ne_true]
          have eall : Same F' F3 := gr.ff.trans eF3
          refine ⟨F3, wipeS s4 own, acc, vacc, eF.trans eall, ?_, Reps.mono eall _ _ ra, hcl⟩
          have z := sr4.wipe own
          rw [hw] at z
          exact z
      · have e : i = xs.length := by omega
        subst e
        refine .inl ⟨it.stop F' H' eF sr'.sub, ?_⟩
        rw [List.drop_length] at hcl
        unfold compL at hcl
        cases hcl
        have srB := SR.back sr1 (sr'.unprot h0 npa) eF hno
        have hFD : F' D = none := by
          cases q : F' D with
          | none => rfl
          | some u =>
            have z : upd B.H0 D (.lst vacc) D = none := sr'.nw D f0 (by rw [q]; exact fun z => by cases z)
            rw [upd_same] at z
            cases z
        refine p1 (.ref D) F' H' eF srB ⟨D, rfl, ⟨⟨vacc, hDl, ra⟩, hFD⟩, h0, npa, fun j x q o h => ?_⟩
        -- no slot's own list stands there
        by_cases hj : j ∈ own
        · rcases backS_in s1 own s2 j x hj q with z | z
          · rw [noOwn_get hno hj z] at o
            cases o
          · subst z; cases o
        · rw [backS_out s1 own s2 j hj] at q
          cases ho : x.own with
          | none => rw [ho] at o; cases o
          | some us =>
            obtain ⟨a, k1, _, k3⟩ := sr'.own q ho
            rw [wipe_get own σ j hj, h] at k1
            cases k1
            rcases k3 with k3 | k3
            · have k3 : upd B.H0 D (.lst vacc) D = none := k3
              rw [upd_same] at k3
              cases k3
            · exact npa k3
  · exact p1.elim
end
end FL

/-! FL14: statements. -/
namespace FL
open PySem PySem.Spec L2
/-- what is wanted behind a statement's result -/
def PostS (G : Gx) (B : Fr0) (W : WX) (F : Hp) (r : SO) (D : Ends) : Prop := match r with
  | .nx s' => ∀ σ' F' H', Same F F' → SR G B F' H' σ' s' → D.nx σ' H'
  | .brk s' => ∀ σ' F' H', Same F F' → SR G B F' H' σ' s' → D.bk σ' H'
  | .cnt s' => ∀ σ' F' H', Same F F' → SR G B F' H' σ' s' → D.ct σ' H'
  | .ret t s' => ∀ v σ' F' H', Same F F' → SR G B F' H' σ' s' → Rep G F' v t → D.rt v H'
  | .retF ts s' => ∀ v σ' F' H', Same F F' → SR G B F' H' σ' s' → relM G B σ' s' F' H' v ts → D.rt v H'
  | .ex c ns ts s' => ∀ cls d σ' F' H', Same F F' → SR G B F' H' σ' s' → ExR G F' cls d c ns ts → W cls d σ' H'
  | .bad => False
def rdS (G : Gx) (B : Fr0) (W : WX) (ev : Sls → SO) : TS := fun D σ H => ∃ F s, SR G B F H σ s ∧ PostS G B W F (ev s) D
section
variable {X : Cx} {G : Gx} {B : Fr0} {W : WX} {k : Option Nat} {N : List Str} {sc : Scope} {pos : Pos} {F F' H : Hp} {σ : L2.St} {s : Sls}
variable {a b c e : Expr} {ea eb ec : E} {es : List Expr} {D D' : Ends}
theorem PostS.up {r : SO} (h : PostS G B W F r D) (e : Same F F') : PostS G B W F' r D := by
  cases r with
  | nx s => exact fun σ' F2 H' e2 => h σ' F2 H' (e.trans e2)
  | brk s => exact fun σ' F2 H' e2 => h σ' F2 H' (e.trans e2)
  | cnt s => exact fun σ' F2 H' e2 => h σ' F2 H' (e.trans e2)
  | ret t s => exact fun v σ' F2 H' e2 => h v σ' F2 H' (e.trans e2)
  | retF t s => exact fun v σ' F2 H' e2 => h v σ' F2 H' (e.trans e2)
  | ex c ns ts s => exact fun cls d σ' F2 H' e2 => h cls d σ' F2 H' (e.trans e2)
  | bad => exact h
/-- from an expression's result to a statement's -/
theorem so_bind {α β : Type} {rel : Sls → Hp → Hp → β → α → Prop} {r : Rs α} {kk : α → Sls → SO} (h : PostS G B W F (r.so kk) D) :
    Pst G B W F σ rel r fun b H' => ∃ a F' s', Same F F' ∧ SR G B F' H' σ s' ∧ rel s' F' H' b a ∧ PostS G B W F' (kk a s') D := by
  cases r with
  | ok a s => exact fun b F' H' e sr rl => ⟨a, F', s, e, sr, rl, h.up e⟩
  | ex c ns ts s => exact fun cls d F' H' e sr r => h cls d σ F' H' e sr r
  | bad => exact h
/-- an expression, then what is done with it -/
theorem rd_so {α β : Type} {rel : Sls → Hp → Hp → β → α → Prop} {ev : Sls → Rs α} {kk : α → Sls → SO} (h : rdS G B W (fun s => (ev s).so kk) D σ H) :
    rd G B W rel ev σ H fun b H' => ∃ a F' s', SR G B F' H' σ s' ∧ rel s' F' H' b a ∧ PostS G B W F' (kk a s') D := by
  obtain ⟨F, s, sr, p⟩ := h
  refine ⟨F, s, sr, (so_bind p).mono ?_⟩
  rintro b H' ⟨a, F', s', _, sr', rl, q⟩
  exact ⟨a, F', s', sr', rl, q⟩
theorem isMp_lt {i : Nat} (h : isMp s i = false) : i < s.length := by
  unfold isMp at h
  cases q : s[i]? with
  | none => rw [q] at h; cases h
  | some x => exact (List.getElem?_eq_some_iff.mp q).1

/-! ### stores -/
variable {i : Nat} {x : Str} {px : Pos}
theorem asg_nm {t : T} {v : V} (sr : SR G B F H σ s) (r : Rep G F v t) (p : PostS G B W F (match setTg (.nm i) t s with | some s => .nx s | none => .bad) D) : D.nx (σ.set i (some v)) H := by
  simp only [setTg] at p
  split at p
  · rename_i s' e
    split at e
    · cases e
    · rename_i hm
      cases e
      exact p _ F H (.refl _) (sr.setIm (isMp_lt (by simpa using hm)) r)
  · exact p.elim
theorem s_asg (g : Good X G k N sc W) (hi : N[i]? = some x) (hl : Loc sc x) (hf : X.fn x = true ∨ sc.names.lookup x = some .local) (ha : PE X a (rdE G B W ea)) (hs : swapsWith a (some (.Name x px)) pos.line X.env = pure false) :
    PS X (.Assign [.Name x px] a pos) (rdS G B W (evS (.asg (.nm i) ea))) := by
  refine PS.imp (ps_set (i := i) (by rw [g.hN]; exact g.nd) (by rw [g.hN]; exact hi) (by rw [g.hsc]; exact hl) ha hs (by rw [g.hsc]; exact hf)) fun D σ H hq => ?_
  have hq : rdS G B W (fun s => (evE ea s).so fun t s => match setTg (.nm i) t s with | some s => .nx s | none => .bad) D σ H := by
    obtain ⟨F, s, sr, p⟩ := hq
    simp only [evS] at p
    exact ⟨F, s, sr, p⟩
  obtain ⟨F, s, sr, p⟩ := rd_so (rel := relE G) hq
  refine ⟨F, s, sr, p.mono ?_⟩
  rintro v H' ⟨t, F', s', sr', r, q⟩
  exact asg_nm sr' r q
theorem asg_M {ts : List T} {v : V} (sr : SR G B F H σ s) (r : relM G B σ s F H v ts) (p : PostS G B W F (if isMp s i then .bad else .nx (s.set i (.mu ts))) D) : D.nx (σ.set i (some v)) H := by
  split at p
  · exact p.elim
  · rename_i hm
    obtain ⟨a, rfl, h1, h2, h3, h4⟩ := r
    exact p _ F H (.refl _) (sr.setMu (isMp_lt (by simpa using hm)) h1 h2 h4)
theorem s_asgM (g : Good X G k N sc W) {m : M} (hi : N[i]? = some x) (hl : Loc sc x) (hf : X.fn x = true ∨ sc.names.lookup x = some .local) (ha : PE X a (rdM G B W m)) (hs : swapsWith a (some (.Name x px)) pos.line X.env = pure false) :
    PS X (.Assign [.Name x px] a pos) (rdS G B W (evS (.asgM i m))) := by
  refine PS.imp (ps_set (i := i) (by rw [g.hN]; exact g.nd) (by rw [g.hN]; exact hi) (by rw [g.hsc]; exact hl) ha hs (by rw [g.hsc]; exact hf)) fun D σ H hq => ?_
  have hq : rdS G B W (fun s => (evM m s).so fun ts s => if isMp s i then .bad else .nx (s.set i (.mu ts))) D σ H := by
    obtain ⟨F, s, sr, p⟩ := hq
    simp only [evS] at p
    exact ⟨F, s, sr, p⟩
  obtain ⟨F, s, sr, p⟩ := rd_so (rel := relM G B σ) hq
  refine ⟨F, s, sr, p.mono ?_⟩
  rintro v H' ⟨t, F', s', sr', r, q⟩
  exact asg_M sr' r q
/-- the store that a comprehension on its own line does -/
theorem s_asgMC (g : Good X G k N sc W) {m : M} {t : TE} {y : Expr} (ha : PS X (.Assign [.Name x px] y pos) (tAsg t (gName i))) (hm : ∀ σ H Q, rdM G B W m σ H Q → t σ H Q) :
    PS X (.Assign [.Name x px] y pos) (rdS G B W (evS (.asgM i m))) := by
  refine PS.imp ha fun D σ H hq => hm σ H _ ?_
  have hq : rdS G B W (fun s => (evM m s).so fun ts s => if isMp s i then .bad else .nx (s.set i (.mu ts))) D σ H := by
    obtain ⟨F, s, sr, p⟩ := hq
    simp only [evS] at p
    exact ⟨F, s, sr, p⟩
  obtain ⟨F, s, sr, p⟩ := rd_so (rel := relM G B σ) hq
  refine ⟨F, s, sr, p.mono ?_⟩
  rintro v H' ⟨t, F', s', sr', r, q⟩
  exact asg_M sr' r q
theorem s_asgC (g : Good X G k N sc W) {t : TE} {y : Expr} (ha : PS X (.Assign [.Name x px] y pos) (tAsg t (gName i))) (hm : ∀ σ H Q, rdE G B W ea σ H Q → t σ H Q) :
    PS X (.Assign [.Name x px] y pos) (rdS G B W (evS (.asg (.nm i) ea))) := by
  refine PS.imp ha fun D σ H hq => hm σ H _ ?_
  have hq : rdS G B W (fun s => (evE ea s).so fun t s => match setTg (.nm i) t s with | some s => .nx s | none => .bad) D σ H := by
    obtain ⟨F, s, sr, p⟩ := hq
    simp only [evS] at p
    exact ⟨F, s, sr, p⟩
  obtain ⟨F, s, sr, p⟩ := rd_so (rel := relE G) hq
  refine ⟨F, s, sr, p.mono ?_⟩
  rintro v H' ⟨t, F', s', sr', r, q⟩
  exact asg_nm sr' r q
/-- any target -/
theorem s_asgG {tg : Expr} {gt : Tg} (ha : PE X a (rdE G B W ea)) (hg : PG X tg (rdG G B gt)) (hs : swapsWithSole [tg] a pos.line X.env = pure false) (hw : swappedStores [tg] a X.env = pure none) (h1 : (assignEach [tg] X.env).map (·.2) = [assign tg X.env]) :
    PS X (.Assign [tg] a pos) (rdS G B W (evS (.asg gt ea))) := by
  refine PS.imp (ps_asg ha hg hs hw h1) fun D σ H hq => ?_
  have hq : rdS G B W (fun s => (evE ea s).so fun t s => match setTg gt t s with | some s => .nx s | none => .bad) D σ H := by
    obtain ⟨F, s, sr, p⟩ := hq
    simp only [evS] at p
    exact ⟨F, s, sr, p⟩
  obtain ⟨F, s, sr, p⟩ := rd_so (rel := relE G) hq
  refine ⟨F, s, sr, p.mono ?_⟩
  rintro v H' ⟨t, F', s', sr', r, q⟩
  split at q
  · rename_i s2 e
    exact ⟨F', s', t, s2, sr', r, e, fun σ' sr2 _ => q σ' F' H' (.refl _) sr2⟩
  · exact q.elim
/-- a, b = x, y -/
theorem s_par (hck : k.isSome = true) {j : Nat} {y : Str} {fa fb : Expr} {fs : Es} {py pt : Pos} {kt k2 pt2} (g : Good X G k N sc W) (hi : N[i]? = some x) (hj : N[j]? = some y) (hij : i ≠ j) (hx : sc.names.lookup x = some .local) (hy : sc.names.lookup y = some .local) (ha : PA X [fa, fb] (rd G B W (relEs G) (evEs fs)))
    (hw : swappedStores [.Tuple [.Name x px, .Name y py] kt pt] (.Tuple [fa, fb] k2 pt2) X.env = pure (some [x, y])) :
    PS X (.Assign [.Tuple [.Name x px, .Name y py] kt pt] (.Tuple [fa, fb] k2 pt2) pos) (rdS G B W (evS (.asg (.tp [.nm i, .nm j]) (.tup fs)))) := by
  refine PS.imp (ps_par (i := i) (j := j) (g.calm hck) (by rw [g.hN]; exact g.nd) (by rw [g.hN]; exact hi) (by rw [g.hN]; exact hj) hij (by rw [g.hsc]; exact hx) (by rw [g.hsc]; exact hy) ha hw) fun D σ H hq => ?_
  obtain ⟨F, s, sr, p⟩ := hq
  simp only [evS, evE] at p
  refine ⟨F, s, sr, ?_⟩
  cases h : evEs fs s with
  | bad => rw [h] at p; exact p.elim
  | ex c ns ts s1 => rw [h] at p; exact fun cls d F' H' e sr r => p cls d σ F' H' e sr r
  | ok ts s1 =>
    rw [h] at p
    simp only [Rs.bind] at p
    rintro vs F1 H1 e1 sr1 r
    simp only [relEs] at r
    split at p
    · simp only [Rs.so] at p
      split at p
      · rename_i s2 e
        simp only [setTg] at e
        -- two trees
        cases ts with
        | nil => simp [setTgs] at e
        | cons t ts => cases ts with
          | nil =>
            simp only [setTgs] at e
            split at e
            · cases e
            · cases e
          | cons u ts => cases ts with
            | cons _ _ =>
              simp only [setTgs] at e
              split at e
              · split at e
                · cases e
                · cases e
              · cases e
            | nil =>
              obtain ⟨v, w, rfl, r1, r2⟩ := reps2 r
              refine ⟨v, w, rfl, ?_⟩
              simp only [setTgs, setTg] at e
              split at e
              · rename_i s3 e3
                split at e3
                · cases e3
                · rename_i hm
                  cases e3
                  split at e
                  · rename_i s4 e4
                    split at e4
                    · cases e4
                    · rename_i hm2
                      cases e4
                      cases e
                      have z1 := sr1.setIm (isMp_lt (by simpa using hm)) r1
                      have z2 := z1.setIm (isMp_lt (by simpa using hm2)) r2
                      exact p _ F1 H1 e1 z2
                  · cases e
              · cases e
      · exact p.elim
    · exact p.elim
end
end FL

/-! FL15: further statements, blocks, loops. -/
namespace FL
open PySem PySem.Spec L2
section
variable {X : Cx} {G : Gx} {B : Fr0} {W : WX} {k : Option Nat} {N : List Str} {sc : Scope} {pos : Pos} {F F' H : Hp} {σ : L2.St} {s : Sls}
variable {a b c e : Expr} {ea eb ec : E} {es : List Expr} {D D' : Ends} {i : Nat} {x : Str} {px : Pos}
theorem reps3 {F : Hp} {vs : List V} {t u w : T} (h : Reps G F vs [t, u, w]) : ∃ v1 v2 v3, vs = [v1, v2, v3] ∧ Rep G F v1 t ∧ Rep G F v2 u ∧ Rep G F v3 w := by
  simp only [Reps] at h
  obtain ⟨v, r, rfl, h2, w', r', rfl, h3, w2, r2, rfl, h4, rfl⟩ := h
  exact ⟨v, w', w2, rfl, h2, h3, h4⟩
theorem s_par3 (hck : k.isSome = true) {j l : Nat} {y z : Str} {fa fb fc : Expr} {fs : Es} {py pz pt : Pos} {kt k2 pt2} (g : Good X G k N sc W) (hi : N[i]? = some x) (hj : N[j]? = some y) (hl : N[l]? = some z) (hij : i ≠ j) (hil : i ≠ l) (hjl : j ≠ l) (hx : sc.names.lookup x = some .local) (hy : sc.names.lookup y = some .local) (hz : sc.names.lookup z = some .local)
    (ha : PA X [fa, fb, fc] (rd G B W (relEs G) (evEs fs)))
    (hw : swappedStores [.Tuple [.Name x px, .Name y py, .Name z pz] kt pt] (.Tuple [fa, fb, fc] k2 pt2) X.env = pure (some [x, y, z])) :
    PS X (.Assign [.Tuple [.Name x px, .Name y py, .Name z pz] kt pt] (.Tuple [fa, fb, fc] k2 pt2) pos) (rdS G B W (evS (.asg (.tp [.nm i, .nm j, .nm l]) (.tup fs)))) := by
  refine PS.imp (ps_par3 (i := i) (j := j) (l := l) (g.calm hck) (by rw [g.hN]; exact g.nd) (by rw [g.hN]; exact hi) (by rw [g.hN]; exact hj) (by rw [g.hN]; exact hl) hij hil hjl (by rw [g.hsc]; exact hx) (by rw [g.hsc]; exact hy) (by rw [g.hsc]; exact hz) ha hw) fun D σ H hq => ?_
  obtain ⟨F, s, sr, p⟩ := hq
  simp only [evS, evE] at p
  refine ⟨F, s, sr, ?_⟩
  cases h : evEs fs s with
  | bad => rw [h] at p; exact p.elim
  | ex c ns ts s1 => rw [h] at p; exact fun cls d F' H' e sr r => p cls d σ F' H' e sr r
  | ok ts s1 =>
    rw [h] at p
    simp only [Rs.bind] at p
    rintro vs F1 H1 e1 sr1 r
    simp only [relEs] at r
    split at p
    · simp only [Rs.so] at p
      split at p
      · rename_i s2 e
        simp only [setTg] at e
        have len : ∃ t u w, ts = [t, u, w] := by
          match ts, e with
          | [], e => simp [setTgs] at e
          | [t], e => simp only [setTgs] at e; split at e <;> cases e
          | [t, u], e => simp only [setTgs] at e; split at e <;> first | cases e | (split at e <;> cases e)
          | [t, u, w], e => exact ⟨t, u, w, rfl⟩
          | t :: u :: w :: v :: r, e =>
            simp only [setTgs] at e
            split at e <;> first | cases e | (split at e <;> first | cases e | (split at e <;> cases e))
        obtain ⟨t, u, w, rfl⟩ := len
        obtain ⟨v1, v2, v3, rfl, r1, r2, r3⟩ := reps3 r
        refine ⟨v1, v2, v3, rfl, ?_⟩
        simp only [setTgs, setTg] at e
        split at e
        · rename_i s3 e3
          split at e3
          · cases e3
          · rename_i hm
            cases e3
            split at e
            · rename_i s4 e4
              split at e4
              · cases e4
              · rename_i hm2
                cases e4
                split at e
                · rename_i s5 e5
                  split at e5
                  · cases e5
                  · rename_i hm3
                    cases e5
                    cases e
                    have z1 := sr1.setIm (isMp_lt (by simpa using hm)) r1
                    have z2 := z1.setIm (isMp_lt (by simpa using hm2)) r2
                    have z3 := z2.setIm (isMp_lt (by simpa using hm3)) r3
                    exact p _ F1 H1 e1 z3
                · cases e
            · cases e
        · cases e
      · exact p.elim
    · exact p.elim
theorem pv' (g : Good X G k N sc W) (hi : N[i]? = some x) (hv : Vis sc x) (hd : (x == ("__debug__" : Str)) = false) (hcd : (x == ("__classdict__" : Str)) = false) : PE X (.Name x px) (tVar i) :=
  pe_var (i := i) (by rw [g.hN]; exact hi) (by rw [g.hsc]; exact hv) hd hcd
/-- x[k] = e -/
theorem s_setI (g : Good X G k N sc W) {p2 : Pos} (hi : N[i]? = some x) (hv : Vis sc x) (hd : (x == ("__debug__" : Str)) = false) (hcd : (x == ("__classdict__" : Str)) = false) (hb : PE X b (rdE G B W eb)) (ha : PE X a (rdE G B W ea))
    (hass : ∀ v, assign (.Subscript (.Name x px) b p2) X.env v = (do
      let ov ← holding [v] (eval (.Name x px) X.env)
      let iv ← holding [v, ov] (eval b X.env)
      standAt p2
      holding [v, ov, iv] (setItem ov iv v)
      release [v, ov, iv] []))
    (hs : swapsWithSole [.Subscript (.Name x px) b p2] a pos.line X.env = pure false) : PS X (.Assign [.Subscript (.Name x px) b p2] a pos) (rdS G B W (evS (.setI i eb ea))) := by
  refine PS.imp (ps_asg ha (pg_sub (pv' g hi hv hd hcd) hb set_list hass) hs rfl rfl) fun D σ H hq => ?_
  obtain ⟨F, s, sr, p⟩ := hq
  simp only [evS] at p
  refine ⟨F, s, sr, (so_bind (rel := relE G) p).mono ?_⟩
  rintro v H1 ⟨t, F1, s1, e1, sr1, r, p1⟩
  split at p1
  · rename_i ts0 ho
    obtain ⟨ad, y, h1, h2, h3, _⟩ := own_at sr1 ho
    refine ⟨.ref ad, h3, F1, s1, sr1, (so_bind (rel := relE G) p1).mono ?_⟩
    rintro w H2 ⟨u, F2, s2, e2, sr2, r2, p2⟩
    split at p2
    · rename_i ts j ho2
      obtain ⟨ad', h5, ⟨⟨vs, h6, h7⟩, h8⟩⟩ := sr1.same_own sr2 ho ho2 h3
      cases h5
      simp only [relE, Rep] at r2
      subst r2
      split at p2
      · rename_i n hn
        obtain ⟨_, y2, k1, k2, k3, _⟩ := own_at sr2 ho2
        refine ⟨ad, vs, j, n, rfl, rfl, h6, by rw [h7.length]; exact hn, ?_⟩
        exact p2 _ F2 _ (.refl _) (sr2.write k1 k2 h3 (Reps.set (Rep.mono e2 _ _ r) n h7))
      · exact p2.elim
    · exact p2.elim
  · exact p1.elim
/-- x.append(e) -/
theorem s_app (g : Good X G k N sc W) {apos cpos : Pos} (hi : N[i]? = some x) (hv : Vis sc x) (hd : (x == ("__debug__" : Str)) = false) (hcd : (x == ("__classdict__" : Str)) = false) (ha : PE X a (rdE G B W ea)) (hs : starEach [a] X.env = [(false, eval a X.env)])
    (hline : (apos.endLine == cpos.line) = true) : PS X (.Expr (.Call (.Attribute (.Name x px) "append" apos) [a] [] cpos) pos) (rdS G B W (evS (.app i ea))) := by
  refine PS.imp (ps_expr (pe_bm PySem.F.plainAttrs_list PySem.F.slot_list_append PySem.F.type_list_append mt_append (pv' g hi hv hd hcd) (pa_cons ha pa_nil hs) (hfew := by rw [hs]; rfl) (hline := hline) (hs := hs)) rfl) fun D σ H hq => ?_
  obtain ⟨F, s, sr, p⟩ := hq
  simp only [evS] at p
  split at p
  · rename_i ts0 ho
    obtain ⟨ad, y, h1, h2, h3, ⟨⟨vs0, h40, _⟩, _⟩⟩ := own_at sr ho
    refine ⟨.ref ad, h3, ?_, F, s, sr, (so_bind (rel := relE G) p).mono ?_⟩
    · exact .inl ⟨rfl, _, .inl (.inl h40)⟩
    · rintro v H1 ⟨t, F1, s1, e1, sr1, r, p1⟩
      split at p1
      · rename_i ts ho1
        obtain ⟨ad', h5, ⟨⟨vs, h6, h7⟩, h8⟩⟩ := sr.same_own sr1 ho ho1 h3
        cases h5
        split at p1
        · rename_i hl
          obtain ⟨_, y2, k1, k2, k3, _⟩ := own_at sr1 ho1
          exact ⟨ad, vs, v, rfl, rfl, h6, by rw [h7.length, ← big_eq]; exact hl, p1 _ F1 _ (.refl _) (sr1.write k1 k2 h3 (Reps.append h7 (Reps.one r)))⟩
        · exact p1.elim
      · exact p1.elim
  · exact p.elim

/-! ### small ones -/
theorem s_expr (ha : PE X a (rdE G B W ea)) (hs : swapsWith a none pos.line X.env = pure false) : PS X (.Expr a pos) (rdS G B W (evS (.expr ea))) := by
  refine PS.imp (ps_expr ha hs) fun D σ H hq => ?_
  obtain ⟨F, s, sr, p⟩ := hq
  simp only [evS] at p
  refine ⟨F, s, sr, (so_bind (rel := relE G) p).mono ?_⟩
  rintro v H1 ⟨t, F1, s1, e1, sr1, r, p1⟩
  exact p1 _ F1 H1 (.refl _) sr1
theorem s_doc {y : Str} {j : Nat} {p2 : Pos} : PS X (.Expr (.Constant (.str y) j p2) pos) (rdS G B W (evS .pass)) := by
  refine PS.imp ps_doc fun D σ H hq => ?_
  obtain ⟨F, s, sr, p⟩ := hq
  simp only [evS] at p
  exact p _ F H (.refl _) sr
theorem s_pass : PS X (.Pass pos) (rdS G B W (evS .pass)) := by
  refine PS.imp ps_pass fun D σ H hq => ?_
  obtain ⟨F, s, sr, p⟩ := hq
  simp only [evS] at p
  exact p _ F H (.refl _) sr
theorem s_brk : PS X (.Break pos) (rdS G B W (evS .brk)) := by
  refine PS.imp ps_break fun D σ H hq => ?_
  obtain ⟨F, s, sr, p⟩ := hq
  simp only [evS] at p
  exact p _ F H (.refl _) sr
theorem s_cnt : PS X (.Continue pos) (rdS G B W (evS .cnt)) := by
  refine PS.imp ps_continue fun D σ H hq => ?_
  obtain ⟨F, s, sr, p⟩ := hq
  simp only [evS] at p
  exact p _ F H (.refl _) sr
theorem s_ret (ha : PE X a (rdE G B W ea)) : PS X (.Return (some a) pos) (rdS G B W (evS (.ret ea))) := by
  refine PS.imp (ps_ret ha) fun D σ H hq => ?_
  obtain ⟨F, s, sr, p⟩ := hq
  simp only [evS] at p
  refine ⟨F, s, sr, (so_bind (rel := relE G) p).mono ?_⟩
  rintro v H1 ⟨t, F1, s1, e1, sr1, r, p1⟩
  exact p1 v σ F1 H1 (.refl _) sr1 r
theorem s_retN : PS X (.Return none pos) (rdS G B W (evS .retN)) := by
  refine PS.imp ps_retN fun D σ H hq => ?_
  obtain ⟨F, s, sr, p⟩ := hq
  simp only [evS] at p
  exact p .non σ F H (.refl _) sr (by simp only [Rep])
theorem s_retM {m : M} (ha : PE X a (rdM G B W m)) : PS X (.Return (some a) pos) (rdS G B W (evS (.retM m))) := by
  refine PS.imp (ps_ret ha) fun D σ H hq => ?_
  obtain ⟨F, s, sr, p⟩ := hq
  simp only [evS] at p
  refine ⟨F, s, sr, (so_bind (rel := relM G B σ) p).mono ?_⟩
  rintro v H1 ⟨t, F1, s1, e1, sr1, r, p1⟩
  exact p1 v σ F1 H1 (.refl _) sr1 r
theorem s_retB (g : Good X G k N sc W) {p2 : Pos} (hi : N[i]? = some x) (hv : Vis sc x) (hd : (x == ("__debug__" : Str)) = false) (hcd : (x == ("__classdict__" : Str)) = false) : PS X (.Return (some (.Name x px)) pos) (rdS G B W (evS (.retB i))) := by
  refine PS.imp (ps_ret (pv' g hi hv hd hcd)) fun D σ H hq => ?_
  obtain ⟨F, s, sr, p⟩ := hq
  simp only [evS] at p
  split at p
  · rename_i ts e
    obtain ⟨a, h1, h2, h3⟩ := sr.mu i ts e
    refine ⟨.ref a, h1, ?_⟩
    have hil : i < σ.length := (List.getElem?_eq_some_iff.mp h1).1
    have z := sr.setUn i (some (.ref a))
    refine p (.ref a) _ F H (.refl _) z ⟨a, rfl, h2, h3, fun q => sr.ph a q h3, fun j y q o h => ?_⟩
    by_cases hj : j = i
    · subst hj
      rw [List.getElem?_set_self (by rw [sr.len]; exact hil)] at q
      cases q
      cases o
    · rw [List.getElem?_set_ne (Ne.symm hj)] at q h
      exact sr.ne j i y _ a a hj q e o rfl h h1 rfl
  · exact p.elim
/-! ### blocks -/
variable {st : Stmt} {sts sts2 : List Stmt} {x1 x2 : Sls → SO}
theorem ss_nil : PSs X [] (rdS G B W (evSs [])) := by
  refine PSs.imp pss_nil fun D σ H hq => ?_
  obtain ⟨F, s, sr, p⟩ := hq
  simp only [evSs] at p
  exact p _ F H (.refl _) sr
theorem ss_cons {y : S} {ys : List S} (h1 : PS X st (rdS G B W (evS y))) (h2 : PSs X sts (rdS G B W (evSs ys))) : PSs X (st :: sts) (rdS G B W (evSs (y :: ys))) := by
  refine PSs.imp (pss_cons h1 h2) fun D σ H hq => ?_
  obtain ⟨F, s, sr, p⟩ := hq
  simp only [evSs] at p
  refine ⟨F, s, sr, ?_⟩
  cases h : evS y s with
  | nx s1 =>
    rw [h] at p
    exact fun σ' F' H' e sr' => ⟨F', s1, sr', PostS.up p e⟩
  | brk s1 => rw [h] at p; exact p
  | cnt s1 => rw [h] at p; exact p
  | ret t s1 => rw [h] at p; exact p
  | retF t s1 => rw [h] at p; exact p
  | ex c ns ts s1 => rw [h] at p; exact p
  | bad => rw [h] at p; exact p
theorem s_if {ca : C} {ya yb : List S} (hc : PT X c (rdC G B W ca)) (ha : PSs X sts (rdS G B W (evSs ya))) (hb : PSs X sts2 (rdS G B W (evSs yb))) : PS X (.If c sts sts2 pos) (rdS G B W (evS (.ifS ca ya yb))) := by
  refine PS.imp (ps_if hc ha hb) fun D σ H hq => ?_
  obtain ⟨F, s, sr, p⟩ := hq
  simp only [evS] at p
  refine ⟨F, s, sr, (so_bind (rel := relC) p).mono ?_⟩
  rintro d H1 ⟨d', F1, s1, e1, sr1, rfl, p1⟩
  cases d with
  | true => rw [if_pos rfl] at p1 ⊢; exact ⟨F1, s1, sr1, p1⟩
  | false => rw [if_neg Bool.false_ne_true] at p1 ⊢; exact ⟨F1, s1, sr1, p1⟩
theorem s_for {tg iter : Expr} {gt : Tg} {it : It} {ys : List S} (hp : PassesOwn (model X.prog X.w) X.A X.env X.xe) (hc : X.calm = true) (hi : PI X tg iter (rdI G B W it)) (hg : PG X tg (rdG G B gt)) (hb : PSs X sts (rdS G B W (evSs ys))) (hs : ∀ x, foldedSetIterable iter X.env x = pure x) :
    PS X (.For tg iter sts [] pos) (rdS G B W (evS (.forS gt it ys))) := by
  refine PS.imp (ps_for hp hc hi hg hb hs) fun D σ H hq => ?_
  obtain ⟨F, s, sr, p⟩ := hq
  simp only [evS] at p
  refine ⟨F, s, sr, (so_bind (rel := relI G) p).mono ?_⟩
  rintro J H1 ⟨xs, F1, s1, e1, sr1, it, p1⟩
  have it : ItT G J xs F1 := it
  refine ⟨fun i m σ H => m = xs.length - i ∧ i ≤ xs.length ∧ ∃ F s, Same F1 F ∧ SR G B F H σ s ∧ PostS G B W F (forL gt (evSs ys) (xs.drop i) s) D, ⟨xs.length, by simp, Nat.zero_le _, F1, s1, .refl _, sr1, by simpa using p1⟩, ?_⟩
  rintro i m σ H ⟨rfl, hi, F', s', eF, sr', p'⟩
  by_cases hlt : i < xs.length
  · refine .inr ⟨it.go i F' H eF sr'.sub hlt, fun σ2 H2 => ∃ F s, Same F1 F ∧ SR G B F H2 σ2 s ∧ PostS G B W F (forL gt (evSs ys) (xs.drop (i + 1)) s) D, fun σ2 H2 q => ⟨xs.length - (i + 1), by omega, rfl, hlt, q⟩, fun x H2 y => ?_⟩
    obtain ⟨F2, t, gr, ht, rt⟩ := it.yld i F' H x H2 eF sr'.sub hlt y
    rw [List.drop_eq_getElem_cons hlt] at p'
    have ht' : xs[i] = t := by
      rw [List.getElem?_eq_getElem hlt] at ht
      exact Option.some.inj ht
    rw [ht'] at p'
    unfold forL at p'
    split at p'
    · exact p'.elim
    · rename_i s3 e3
      refine ⟨F2, s', t, s3, sr'.grow gr, rt, e3, fun σ3 sr3 _ => ⟨F2, s3, sr3, ?_⟩⟩
      have p2 := p'.up gr.ff
      cases h : evSs ys s3 with
      | nx s4 => rw [h] at p2; exact fun σ' F3 H' e sr4 => ⟨F3, s4, eF.trans (gr.ff.trans e), sr4, p2.up e⟩
      | cnt s4 => rw [h] at p2; exact fun σ' F3 H' e sr4 => ⟨F3, s4, eF.trans (gr.ff.trans e), sr4, p2.up e⟩
      | brk s4 => rw [h] at p2; exact p2
      | ret t s4 => rw [h] at p2; exact p2
      | retF t s4 => rw [h] at p2; exact p2
      | ex c ns ts s4 => rw [h] at p2; exact p2
      | bad => rw [h] at p2; exact p2
  · have e : i = xs.length := by omega
    subst e
    refine .inl ⟨it.stop F' H eF sr'.sub, ?_⟩
    rw [List.drop_length] at p'
    unfold forL at p'
    exact p' _ F' H (.refl _) sr'
theorem s_whl {ca : C} {n : Nat} {ys : List S} (hp : PassesOwn (model X.prog X.w) X.A X.env X.xe) (hc : PT X c (rdC G B W ca)) (hb : PSs X sts (rdS G B W (evSs ys))) : PS X (.While c sts [] pos) (rdS G B W (evS (.whl n ca ys))) := by
  refine PS.imp (ps_while hp hc hb) fun D σ H hq => ?_
  obtain ⟨F, s, sr, p⟩ := hq
  simp only [evS] at p
  refine ⟨fun m σ H => ∃ F s, SR G B F H σ s ∧ PostS G B W F (whileL (evC ca) (evSs ys) m s) D, ⟨n, F, s, sr, p⟩, ?_⟩
  rintro m σ H ⟨F, s, sr, p⟩
  cases m with
  | zero => exact p.elim
  | succ m =>
    unfold whileL at p
    refine ⟨F, s, sr, (so_bind (rel := relC) p).mono ?_⟩
    rintro d H1 ⟨d', F1, s1, e1, sr1, rfl, p1⟩
    cases d with
    | true =>
      rw [if_pos rfl] at p1 ⊢
      refine ⟨fun σ2 H2 => ∃ F s, SR G B F H2 σ2 s ∧ PostS G B W F (whileL (evC ca) (evSs ys) m s) D, fun σ2 H2 q => ⟨m, Nat.lt_succ_self m, q⟩, F1, s1, sr1, ?_⟩
      cases h : evSs ys s1 with
      | nx s4 => rw [h] at p1; exact fun σ' F3 H' e sr4 => ⟨F3, s4, sr4, PostS.up p1 e⟩
      | cnt s4 => rw [h] at p1; exact fun σ' F3 H' e sr4 => ⟨F3, s4, sr4, PostS.up p1 e⟩
      | brk s4 => rw [h] at p1; exact p1
      | ret t s4 => rw [h] at p1; exact p1
      | retF t s4 => rw [h] at p1; exact p1
      | ex c ns ts s4 => rw [h] at p1; exact p1
      | bad => rw [h] at p1; exact p1
    | false =>
      rw [if_neg Bool.false_ne_true] at p1 ⊢
      exact p1 _ F1 H1 (.refl _) sr1
end
end FL

/-! FL16: a def keeps its meaning. -/
namespace FL
open PySem PySem.Spec L2
/-- a def's own frame (no comprehension's block, no except suite) -/
structure TopX (X : Cx) : Prop where
  fn : ∀ x, X.fn x = true
  pass : PassesOwn (model X.prog X.w) X.A X.env X.xe
  stk : X.stack = X.env :: X.outer
  frm : X.env.frame = some X.env.locals
section
variable {G : Gx} {B : Fr0} {W : WX} {k : Nat} {N : List Str} {F F' H : Hp} {σ : L2.St} {s : Sls}
theorem SR.append (h : SR G B F H σ s) (n : Nat) : SR G B F H (σ ++ List.replicate n none) (s ++ List.replicate n .un) := by
  have old : ∀ {i : Nat} {x : Sl}, (s ++ List.replicate n .un)[i]? = some x → x ≠ .un → s[i]? = some x ∧ (σ ++ List.replicate n none)[i]? = σ[i]? := fun {i x} e nx => by
    by_cases hi : i < s.length
    · rw [List.getElem?_append_left hi] at e
      exact ⟨e, List.getElem?_append_left (by rw [← h.len]; exact hi)⟩
    · rw [List.getElem?_append_right (by omega)] at e
      rw [List.getElem?_replicate] at e
      split at e
      · cases e; exact (nx rfl).elim
      · cases e
  refine ⟨h.sub, by simp [h.len], fun i t e => ?_, fun i ts e => ?_, fun i ts e => ?_, fun i j x y a b ne q r ox oy sj sk => ?_, h.fr, h.pl, h.ph, h.f0, h.nw, fun i c ns ts e => by
    obtain ⟨e1, e2⟩ := old e (fun z => by cases z)
    rw [e2]; exact h.xc i c ns ts e1⟩
  · obtain ⟨e1, e2⟩ := old e (fun z => by cases z)
    rw [e2]; exact h.im i t e1
  · obtain ⟨e1, e2⟩ := old e (fun z => by cases z)
    rw [e2]; exact h.mu i ts e1
  · obtain ⟨e1, e2⟩ := old e (fun z => by cases z)
    rw [e2]; exact h.mp i ts e1
  · obtain ⟨q1, q2⟩ := old q (fun z => by subst z; cases ox)
    obtain ⟨r1, r2⟩ := old r (fun z => by subst z; cases oy)
    rw [q2] at sj
    rw [r2] at sk
    exact h.ne i j x y a b ne q1 r1 ox oy sj sk
theorem startS_len {m : Option Nat} : ∀ {ts : List T} {n : Nat} {s0 : Sls}, startS m ts n = some s0 → s0.length = ts.length
  | [], n, s0, h => by
    have h : some ([] : Sls) = some s0 := h
    cases h
    rfl
  | t :: ts, n, s0, h => by
    unfold startS at h
    split at h
    · split at h
      · cases e : startS m ts (n + 1) with
        | none => rw [e] at h; cases h
        | some s1 =>
          rw [e] at h
          cases h
          simp [startS_len e]
      · cases h
    · cases e : startS m ts (n + 1) with
      | none => rw [e] at h; cases h
      | some s1 =>
        rw [e] at h
        cases h
        simp [startS_len e]
/-- the def's meaning by its body -/
def mkFS (name : Str) (np n : Nat) (mu : Option Nat) (fresh : Bool) (body : List S) : FS := ⟨name, mu, fresh, mkSem np n mu fresh body⟩
theorem mkSem_ne {np n : Nat} {mu : Option Nat} {fresh : Bool} {body : List S} {ts : List T} {s0 : Sls} (h : mkSem np n mu fresh body ts ≠ .bad) (e : startS mu ts 0 = some s0) : ts.length = np ∧
    mkSem np n mu fresh body ts = (match evSs body (s0 ++ List.replicate n .un) with
      | .ret t s => if fresh then .bad else (match outS mu s with | some o => .ok t o | none => .bad)
      | .retF us s => if fresh then (match outS mu s with | some o => .ok (.lst us) o | none => .bad) else .bad
      | .nx s => if fresh then .bad else (match outS mu s with | some o => .ok .non o | none => .bad)
      | .ex c ns es s => (match outS mu s with | some o => .ex c ns es o | none => .bad)
      | _ => .bad) := by
  unfold mkSem at h ⊢
  by_cases hl : ts.length = np
  · rw [if_pos hl] at h ⊢
    rw [e] at h ⊢
    exact ⟨hl, rfl⟩
  · rw [if_neg hl] at h
    exact (h rfl).elim
/-- what the callers want, from the end of the body -/
theorem out_post {m : Option Nat} {pa : Option Addr} {H0 F0 F' H' : Hp} {σ' : L2.St} {s' : Sls} {o : List T} (hm : m = none → pa = none) (sr : SR G ⟨H0, pa, F0, none⟩ F' H' σ' s') (h : outS m s' = some o) : CallPost G H0 pa F0 F' H' o := by
  refine ⟨sr.f0, sr.sub, sr.fr, sr.nw, fun a e => ?_⟩
  unfold outS at h
  cases m with
  | none => rw [hm rfl] at e; cases e
  | some p =>
    simp only at h
    split at h
    · rename_i o' e'
      cases h
      obtain ⟨a', k1, k2, k3⟩ := sr.mp p _ e'
      have k3 : pa = some a' := k3
      rw [e] at k3
      cases k3
      exact k2
    · cases h
theorem fn_ok {x qual : Str} {params : Arguments} {bd : List Stmt} {scope : Scope} {dvs : List V} {kws : List (Str × V)} {f : Addr} {fd : FuncData} {ps : List Str} {np n : Nat} {mu : Option Nat} {fresh : Bool} {ir : List S} {name : Str}
    (FD : FunD G.K x qual params bd scope dvs kws f fd) (S : FnScope N ps scope) (hnp : ps.length = np) (hN : N.length = np + n)
    (hb : ∀ (X : Cx) (W : WX) (B : Fr0), Good X G (some k) N scope W → TopX X → B.xa = none → PSs X bd (rdS G B W (evSs ir))) :
    FnOk G.P G.w G.K G.mg G.base (L2.CX G.P G.w) (k + 1) f fd ps (spF G (mkFS name np n mu fresh ir)) := by
  have lens : ∀ {vs : List V} {H : Hp} {Q : VK} {E : XK}, spF G (mkFS name np n mu fresh ir) vs H Q E → vs.length = np := fun {vs H Q E} h => by
    obtain ⟨F, ts, s0, pa, h1, h2, h3, h4⟩ := h
    have hne : mkSem np n mu fresh ir ts ≠ .bad := fun z => by
      have h4 : (match mkSem np n mu fresh ir ts with | .ok t o => _ | .ex c ns es o => _ | .bad => False) := h4
      rw [z] at h4
      exact h4
    obtain ⟨hl, _⟩ := mkSem_ne hne h1
    have e1 := h2.len
    rw [List.length_map, startS_len h1, hl] at e1
    exact e1.symm
  refine FD.ok (CX := L2.CX G.P G.w) S (fun vs H Q E h => by rw [lens h, hnp]) (fun cdv A outer s H vs Q E hr h => ?_)
  obtain ⟨F, ts, s0, pa, h1, h2, h3, h4⟩ := id h
  have hvl := lens h
  have hne : mkSem np n mu fresh ir ts ≠ .bad := fun z => by
    have h4 : (match mkSem np n mu fresh ir ts with | .ok t o => _ | .ex c ns es o => _ | .bad => False) := h4
    rw [z] at h4
    exact h4
  obtain ⟨hl, he⟩ := mkSem_ne hne h1
  refine ⟨rdS G ⟨H, pa, F, none⟩ (fun cls d _ H => E cls d H) (evSs ir), hb _ _ _ ⟨rfl, rfl, rfl, rfl, rfl, rfl, S.nd, rfl, fun _ => rfl, fun n e => by cases e; exact hr, ?_, fun _ => takes_of rfl rfl rfl rfl⟩ ⟨fun _ => rfl, passes_of rfl, rfl, rfl⟩ rfl, F, s0 ++ List.replicate n .un, ?_, ?_⟩
  · have h := hr.un
    show (A.deeper (PyProof.Rows.envOfC qual scope s.heap.objs.size f cdv)).units + 65 < cLine
    omega
  · have z := h2.append n
    have e : N.length - vs.length = n := by rw [hN, hvl]; omega
    unfold L2.start
    rw [e]
    exact z
  · have h4 : (match mkSem np n mu fresh ir ts with
      | .ok t o => ∀ v F' H', CallPost G H pa F F' H' o → RetR G fresh H pa F' H' v t → Q v H'
      | .ex c ns es o => ∀ cls d F' H', CallPost G H pa F F' H' o → ExR G F' cls d c ns es → E cls d H'
      | .bad => False) := h4
    rw [he] at h4
    cases h : evSs ir (s0 ++ List.replicate n .un) with
    | nx s1 =>
      rw [h] at h4
      intro σ' F' H' e sr'
      cases fresh with
      | true => exact h4.elim
      | false =>
        simp only [Bool.false_eq_true, if_false] at h4
        split at h4
        · rename_i t o hx
          split at hx
          · rename_i o' ho
            cases hx
            exact h4 .non F' H' (out_post h3 sr' ho) (by unfold RetR; simp [Rep])
          · cases hx
        · rename_i hx
          split at hx <;> cases hx
        · exact h4.elim
    | ret t s1 =>
      rw [h] at h4
      intro v σ' F' H' e sr' r
      cases fresh with
      | true => exact h4.elim
      | false =>
        simp only [Bool.false_eq_true, if_false] at h4
        split at h4
        · rename_i t o hx
          split at hx
          · rename_i o' ho
            cases hx
            exact h4 v F' H' (out_post h3 sr' ho) (by unfold RetR; simpa using r)
          · cases hx
        · rename_i hx
          split at hx <;> cases hx
        · exact h4.elim
    | retF us s1 =>
      rw [h] at h4
      rintro v σ' F' H' e sr' ⟨a, rfl, r1, r2, r3, r4⟩
      cases fresh with
      | false => exact h4.elim
      | true =>
        simp only [if_true] at h4
        split at h4
        · rename_i t o hx
          split at hx
          · rename_i o' ho
            cases hx
            refine h4 _ F' H' (out_post h3 sr' ho) ?_
            unfold RetR
            simp only [if_true]
            exact ⟨a, us, rfl, rfl, r1, r2, r3⟩
          · cases hx
        · rename_i hx
          split at hx <;> cases hx
        · exact h4.elim
    | ex c ns es s1 =>
      rw [h] at h4
      intro cls d σ' F' H' e sr' r
      simp only at h4
      split at h4
      · rename_i t o hx
        split at hx <;> cases hx
      · rename_i o hx
        split at hx
        · rename_i o' ho
          cases hx
          exact h4 cls d F' H' (out_post h3 sr' ho) r
        · cases hx
      · exact h4.elim
    | brk s1 => rw [h] at h4; exact h4.elim
    | cnt s1 => rw [h] at h4; exact h4.elim
    | bad => rw [h] at h4; exact h4.elim
end
end FL

/-! FL17: own exceptions whose __init__ says super().__init__(..). -/
namespace FL
open PySem PySem.Spec L2
open PySem.W (Frag)

/-- a def that closes over __class__ -/
abbrev fnOfC (name qual : Str) (params : Arguments) (body : List Stmt) (scope : Scope) (dV kV doc pm : Value) (an : Option Addr) (cdv ct : Value) (cc : Addr) : FuncData :=
  { name, qualname := qual, params, body := .stmts body, scope, globals := mainGlobals, closure := [(("__class__" : Str), cc)], defaults := dV, kwdefaults := kV, doc, pyModule := pm, annotations := an, code := cdv, closureTuple := ct, builtins := builtinsNs }

/-- an argument of super().__init__ -/
inductive XA where | s (x : Str) (j : Nat) (p : Pos) | n (i : Nat) (x : Str) (p : Pos)
def XA.ex : XA → Expr
  | .s x j p => .Constant (.str x) j p
  | .n _ x p => .Name x p
def XA.ok (ps : List Str) (names : List (Str × NameKind)) : XA → Bool
  | .s _ _ _ => true
  | .n i x _ => decide (ps[i]? = some x) && (decide (names.lookup x = some .local) && (!(x == ("__debug__" : Str)) && !(x == ("__classdict__" : Str))))
/-- a field: its name, the parameter -/
structure XF where
  f : Str
  i : Nat
  x : Str
  slf : Str
  p1 : Pos
  p2 : Pos
  p3 : Pos
  p4 : Pos
def XF.st (a : XF) : Stmt := .Assign [.Attribute (.Name a.slf a.p1) a.f a.p2] (.Name a.x a.p3) a.p4
def XF.ok (ps : List Str) (names : List (Str × NameKind)) (a : XF) : Bool :=
  decide (ps[0]? = some a.slf) && (decide (names.lookup a.slf = some .local) && (!(a.slf == ("__debug__" : Str)) && (!(a.slf == ("__classdict__" : Str)) &&
  (decide (ps[a.i]? = some a.x) && (decide (names.lookup a.x = some .local) && (!(a.x == ("__debug__" : Str)) && !(a.x == ("__classdict__" : Str))))))))
def supBody (slf : Str) (xs : List XA) (fs : List XF) (p0 p1 p2 p3 p4 : Pos) : List Stmt :=
  .Expr (.Call (.Attribute (.Call (.Name "super" p0) [] [] p1) "__init__" p2) (xs.map XA.ex) [] p3) p4 :: fs.map XF.st

theorem lookup_map_mem {α : Type} : ∀ {l : List (Str × α)} {x : Str} {v : α}, (l.map (·.1)).Nodup → (x, v) ∈ l → l.lookup x = some v
  | (n, w) :: r, x, v, nd, h => by
    rw [List.map_cons, List.nodup_cons] at nd
    rw [List.lookup_cons]
    rcases List.mem_cons.mp h with e | h
    · cases e
      simp
    · have hm := h
      have ne : (x == n) = false := by
        cases q : x == n with
        | false => rfl
        | true =>
          have q := beq_iff_eq.mp q
          subst q
          exact (nd.1 (List.mem_map.mpr ⟨_, hm, rfl⟩)).elim
      rw [ne]
      exact lookup_map_mem nd.2 h
theorem lookup_rev_zip {ps : List Str} {us : List Value} {i : Nat} {x : Str} {u : Value} (nd : ps.Nodup) (hp : ps[i]? = some x) (hu : us[i]? = some u) (hl : us.length = ps.length) : (ps.zip us).reverse.lookup x = some u := by
  refine lookup_map_mem ?_ (List.mem_reverse.mpr ?_)
  · rw [List.map_reverse, List.map_fst_zip (by omega)]
    unfold List.Nodup
    rw [List.pairwise_reverse]
    exact nd.imp fun h z => h z.symm
  · refine List.mem_of_getElem? (i := i) ?_
    rw [List.getElem?_zip_eq_some]
    exact ⟨hp, hu⟩

def cxS (P : Program) (w : World) (K : Frag) (mg : Str → Option Value) (base : Heap) (N : List Str) (fd : FuncData) (f : Addr) (A : Around) (outer : List Env) (s : Shared) (H : Hp) : Cx where
  prog := P
  w := w
  K := K
  mg := mg
  base := base
  A := A.deeper (callEnv fd s.heap.objs.size f)
  N := N
  s_0 := s
  H_0 := H
  env := callEnv fd s.heap.objs.size f
  outer := outer
  stack := callEnv fd s.heap.objs.size f :: outer
  ex := []
  calm := true
  fn := fun _ => false
  pn := []
  xe := fun _ _ => False

/-- the call's tree -/
def EvSup (xs : List XA) (p0 p1 p2 p3 : Pos) : Prop := ∀ env : Env, eval (.Call (.Attribute (.Call (.Name "super" p0) [] [] p1) "__init__" p2) (xs.map XA.ex) [] p3) env = (do
  let ov ← attributeBase (.Call (.Name "super" p0) [] [] p1) "__init__" env (eval (.Call (.Name "super" p0) [] [] p1) env)
  standAt p2.atName
  let (f, first) ← holding [ov] (getMethod ov "__init__" (do return (← importBound (.Call (.Name "super" p0) [] [] p1) env).getD true))
  callWith p3 f first (backTo p3 (starEach (xs.map XA.ex) env)) [])
/-- what the written part says of such a class -/
structure SupC (P : Program) (K : Frag) (C fI cc : Addr) (fd : FuncData) (ps : List Str) (xs : List XA) (fs : List XF) : Prop where
  ox : OexC K C
  iC : PySem.W.findIn K (.ref C) "__init__" = some (some (.ref fI))
  tI : PySem.W.typeIn K (.ref fI) = some (.type "function")
  up : PySem.W.ks_superIn K C C "__init__" = some (some (.builtin "ValueError.__init__"))
  sub : PySem.W.subIn K (.ref C) (.type "ValueError") = some true
  any : PySem.W.nsIn K PySem.cStatics "thirdparty.any" = some none
  fn : ∃ (oc : Value) (od : Option Addr) (osl : Array (Option Value)) (name qual : Str) (params : Arguments) (scope : Scope) (dV kV doc pm : Value) (an : Option Addr) (cd : Addr) (ct : Value) (slf : Str) (p0 p1 p2 p3 p4 : Pos) (ar : Arg) (vs : Array Value) (o2 : Obj) (file : Str) (tf : Tok),
    fd = fnOfC name qual params (supBody slf xs fs p0 p1 p2 p3 p4) scope dV kV doc pm an (.ref cd) ct cc ∧ K.lookup fI = some ⟨oc, od, .func fd, osl⟩ ∧ PySem.W.codeIn K (.ref cd) qual = true ∧
    scope.kind = .function ∧ scope.isCoroutine = false ∧ scope.isGenerator = false ∧ ps.Nodup ∧ (∀ x ∈ ps, scope.names.lookup x = some .local) ∧ (∀ y ∈ scope.names, y.2 ≠ .cell) ∧ (∀ x, scope.names.lookup x = some .free → x = "__class__") ∧
    scope.names.lookup ("super" : Str) = some .globalImplicit ∧ scope.names.lookup ("__class__" : Str) = some .free ∧ (params.posonlyargs ++ params.args).head? = some ar ∧ ps[0]? = some ar.arg ∧
    K.lookup cd = some o2 ∧ o2.data = .fields vs ∧ vs[2]? = some (.str file tf) ∧ ((P.main.file : Str) == file) = true ∧ (P.main.scope.names.lookup ("super" : Str)).isSome = false ∧
    xs.all (XA.ok ps scope.names) = true ∧ fs.all (XF.ok ps scope.names) = true ∧ (ar.arg == ("__debug__" : Str)) = false ∧ EvSup xs p0 p1 p2 p3
  cell : ∃ o, K.lookup cc = some o ∧ o.data = .cell (some (.ref C))
  bind : Binds K fd ps []
  xs0 : 0 < xs.length
  nf : ∀ x ∈ fs, PySem.W.findIn K (.ref C) x.f = some none
  few : fs.length ≤ 100 ∧ xs.length ≤ 100

section
variable {P : Program} {w : World} {K : Frag} {mg : Str → Option Value} {base : Heap} {fd : FuncData} {f : Addr} {A : Around} {outer : List Env} {s : Shared} {H : Hp} {h0 : Heap} {tk : Nat} {ps : List Str} {us : List Value} {vs : List V} {cc : Addr} {oc : Obj} {C : Addr}
theorem inv_startS (hd : A.handled = none) (e0 : Env0 P w K mg base A outer s H) (hl : vs.length = ps.length) (r : Vals vs us) (nd : ps.Nodup)
    (hk : fd.scope.kind = .function) (hg : fd.globals = mainGlobals) (hb : fd.builtins = builtinsNs) (hc : fd.closure = [(("__class__" : Str), cc)]) (loc : ∀ x ∈ ps, fd.scope.names.lookup x = some .local)
    (nc : ∀ y ∈ fd.scope.names, y.2 ≠ .cell) (fr : ∀ x, fd.scope.names.lookup x = some .free → x = "__class__") (kc : K.lookup cc = some oc) (oc' : oc.data = .cell (some (.ref C)))
    (ns : h0.Ns s.heap.objs.size (fun x => (ps.zip us).reverse.lookup x)) (keep : ∀ b o, s.heap.get? b = some o → h0.get? b = some o) :
    Inv (cxS P w K mg base ps fd f A outer s H) [] (vs.map some) H { s with heap := h0, toks := tk } := by
  have hul : us.length = ps.length := by rw [← hl]; exact (Paired.length r).symm
  have ccb : base.get? cc = some oc := e0.mod.kin _ _ kc
  have ce : (cxS P w K mg base ps fd f A outer s H).env.cells = [(("__class__" : Str), cc)] := hc
  have noA : ∀ b : Addr, b ∉ (cxS P w K mg base ps fd f A outer s H).ex := fun b z => absurd (show b ∈ ([] : List Addr) from z) (by simp)
  have one : ∀ {x : Str} {c : Addr}, (cxS P w K mg base ps fd f A outer s H).env.cells.lookup x = some c → x = "__class__" ∧ c = cc := fun {x c} h => by
    rw [ce, List.lookup_cons] at h
    cases q : x == ("__class__" : Str) with
    | true => rw [q] at h; cases h; exact ⟨beq_iff_eq.mp q, rfl⟩
    | false => rw [q] at h; cases h
  refine ⟨⟨e0.mod, hk, hg, hb, Nat.le_refl _, fun y z c h1 h2 => (one h1).1.trans (one h2).1.symm, fun y hy => ?_, fun y c z h => absurd z (by simp [cxS]), fun _ => hd, Around.frames_deeper e0.frames, .inr ⟨rfl, rfl⟩, fun b z => absurd z (noA b), e0.bs, e0.bsz, fun b _ _ => noA b, fun b z => absurd z (noA b), e0.funs, e0.frf⟩,
    rfl, e0.bare, Un.kept keep, ⟨_, ns, fun i y v h1 h2 h3 => ?_⟩, fun y c h => ?_, e0.hok.fresh (Nat.le_refl _), fun y c h => ?_, fun p hp => absurd (show p ∈ ([] : List (Addr × Obj)) from hp) (by simp), e0.hok.kept keep, ?_⟩
  · have hy : fd.scope.names.lookup y = some .cell ∨ fd.scope.names.lookup y = some .free := hy
    rcases hy with hy | hy
    · exact absurd rfl (nc _ (PySem.mem_of_lookup hy))
    · rw [fr y hy, ce]
      exact ⟨cc, by simp⟩
  · have h1 : ps[i]? = some y := h1
    rw [List.getElem?_map] at h2
    cases e : vs[i]? with
    | none => rw [e] at h2; cases h2
    | some a =>
      rw [e] at h2
      cases h2
      obtain ⟨u, hu, rv⟩ := r.get e
      exact ⟨u, rv, .inl ⟨loc y (List.mem_of_getElem? h1), lookup_rev_zip nd h1 hu hul⟩⟩
  · obtain ⟨_, rfl⟩ := one h
    exact ⟨some (.ref C), oc, keep _ _ (e0.bs _ _ ccb).1, oc'⟩
  · obtain ⟨_, rfl⟩ := one h
    exact (e0.bs _ _ ccb).2
  · show (vs.map some).length = ps.length
    rw [List.length_map, hl]
end

def tXs : List XA → TA
  | [] => tNil
  | .s x _ _ :: r => tCons (tC (.str x)) (tXs r)
  | .n i _ _ :: r => tCons (tVar i) (tXs r)
section
variable {X : Cx}
theorem XA.star {env : Env} (x : XA) (es : List Expr) : starEach (x.ex :: es) env = (false, eval x.ex env) :: starEach es env := by
  cases x <;> rfl
theorem pa_xs {ps : List Str} {names : List (Str × NameKind)} (hN : X.N = ps) (hs : X.env.scope.names = names) : ∀ {xs : List XA}, xs.all (XA.ok ps names) = true → PA X (xs.map XA.ex) (tXs xs)
  | [], _ => pa_nil
  | .s x j p :: r, h => pa_cons pe_str (pa_xs hN hs (by simpa using (Bool.and_eq_true_iff.mp h).2))
  | .n i x p :: r, h => by
    rw [List.all_cons] at h
    obtain ⟨h1, h2⟩ := Bool.and_eq_true_iff.mp h
    unfold XA.ok at h1
    obtain ⟨k1, h1⟩ := Bool.and_eq_true_iff.mp h1
    obtain ⟨k2, h1⟩ := Bool.and_eq_true_iff.mp h1
    obtain ⟨k3, k4⟩ := Bool.and_eq_true_iff.mp h1
    refine pa_cons (pe_var (i := i) (by rw [hN]; exact of_decide_eq_true k1) (.inl (by rw [hs]; exact of_decide_eq_true k2)) (by simpa using k3) (by simpa using k4)) (pa_xs hN hs h2)
theorem xs_run {ps : List Str} {names : List (Str × NameKind)} {vs : List V} {H : Hp} (hl : vs.length = ps.length) : ∀ {xs : List XA}, xs.all (XA.ok ps names) = true → ∃ ws : List V, ws.length = xs.length ∧ ∀ Q : List V → Hp → Prop, Q ws H → tXs xs (vs.map some) H Q
  | [], _ => ⟨[], rfl, fun Q q => q⟩
  | .s x j p :: r, h => by
    obtain ⟨ws, h1, h2⟩ := xs_run (H := H) hl (xs := r) (by simpa using (Bool.and_eq_true_iff.mp h).2)
    exact ⟨.str x :: ws, by simp [h1], fun Q q => h2 _ q⟩
  | .n i x p :: r, h => by
    rw [List.all_cons] at h
    obtain ⟨g1, g2⟩ := Bool.and_eq_true_iff.mp h
    obtain ⟨ws, h1, h2⟩ := xs_run (H := H) hl g2
    unfold XA.ok at g1
    have k1 := of_decide_eq_true (Bool.and_eq_true_iff.mp g1).1
    have hi : i < vs.length := by
      have := (List.getElem?_eq_some_iff.mp k1).1
      omega
    exact ⟨vs[i] :: ws, by simp [h1], fun Q q => ⟨vs[i], by simp [hi], h2 _ q⟩⟩

def tFs (K : Frag) : List XF → TS
  | [] => tNext
  | a :: r => tSeq (tOst K a.f (tVar 0) (tVar a.i)) (tFs K r)
theorem pss_fs {ps : List Str} {names : List (Str × NameKind)} (hN : X.N = ps) (hs : X.env.scope.names = names) : ∀ {fs : List XF}, fs.all (XF.ok ps names) = true → PSs X (fs.map XF.st) (tFs X.K fs)
  | [], _ => pss_nil
  | a :: r, h => by
    rw [List.all_cons] at h
    obtain ⟨h1, h2⟩ := Bool.and_eq_true_iff.mp h
    unfold XF.ok at h1
    obtain ⟨k1, h1⟩ := Bool.and_eq_true_iff.mp h1
    obtain ⟨k2, h1⟩ := Bool.and_eq_true_iff.mp h1
    obtain ⟨k3, h1⟩ := Bool.and_eq_true_iff.mp h1
    obtain ⟨k4, h1⟩ := Bool.and_eq_true_iff.mp h1
    obtain ⟨k5, h1⟩ := Bool.and_eq_true_iff.mp h1
    obtain ⟨k6, h1⟩ := Bool.and_eq_true_iff.mp h1
    obtain ⟨k7, k8⟩ := Bool.and_eq_true_iff.mp h1
    exact pss_cons (ps_ost (pe_var (i := 0) (by rw [hN]; exact of_decide_eq_true k1) (.inl (by rw [hs]; exact of_decide_eq_true k2)) (by simpa using k3) (by simpa using k4))
      (pe_var (i := a.i) (by rw [hN]; exact of_decide_eq_true k5) (.inl (by rw [hs]; exact of_decide_eq_true k6)) (by simpa using k7) (by simpa using k8))) (pss_fs hN hs h2)
/-- the fields as they come to lie -/
def fldsR (vs : List V) : List XF → List (Str × V) → List (Str × V)
  | [], acc => acc
  | a :: r, acc => fldsR vs r ((a.f, (vs[a.i]?).getD .non) :: acc)
theorem fs_old {K : Frag} {ps : List Str} {names : List (Str × NameKind)} {vs : List V} {a C dx : Addr} {D : Ends} (T : OexC K C) (hl : vs.length = ps.length) (h0 : vs[0]? = some (.ref a)) : ∀ {fs : List XF} {acc : List (Str × V)} {H : Hp}, fs.all (XF.ok ps names) = true →
    (∀ x ∈ fs, PySem.W.findIn K (.ref C) x.f = some none) → acc.length + fs.length ≤ 900 → a ≠ dx → H a = some (exo a C (some dx)) → H dx = some (exd dx acc) → D.nx (vs.map some) (upd H dx (exd dx (fldsR vs fs acc))) → tFs K fs D (vs.map some) H
  | [], acc, H, _, _, _, _, _, hd, q => by
    have e : upd H dx (exd dx acc) = H := by
      funext b
      unfold upd
      split
      · rename_i z; rw [z, hd]
      · rfl
    unfold fldsR at q
    rw [e] at q
    exact q
  | x :: r, acc, H, h, nf, hz, ne, ha, hd, q => by
    rw [List.all_cons] at h
    obtain ⟨h1, h2⟩ := Bool.and_eq_true_iff.mp h
    unfold XF.ok at h1
    obtain ⟨_, h1⟩ := Bool.and_eq_true_iff.mp h1
    obtain ⟨_, h1⟩ := Bool.and_eq_true_iff.mp h1
    obtain ⟨_, h1⟩ := Bool.and_eq_true_iff.mp h1
    obtain ⟨_, h1⟩ := Bool.and_eq_true_iff.mp h1
    obtain ⟨k5, _⟩ := Bool.and_eq_true_iff.mp h1
    have hi : x.i < vs.length := by
      have := (List.getElem?_eq_some_iff.mp (of_decide_eq_true k5)).1
      omega
    rw [List.length_cons] at hz
    refine ⟨vs[x.i], by simp [hi], .ref a, by rw [List.getElem?_map, h0]; rfl, a, C, rfl, T, nf x (by simp), .inr ⟨dx, acc, ha, hd, by omega, ?_⟩⟩
    refine fs_old T hl h0 (acc := (x.f, vs[x.i]) :: acc) h2 (fun y hy => nf y (List.mem_cons_of_mem _ hy)) (by simp; omega) ne (by rw [upd_ne ne]; exact ha) upd_same ?_
    have e : fldsR vs (x :: r) acc = fldsR vs r ((x.f, vs[x.i]) :: acc) := by simp [fldsR, hi]
    rw [upd_upd, ← e]
    exact q
theorem fs_new {K : Frag} {ps : List Str} {names : List (Str × NameKind)} {vs : List V} {a C : Addr} {D : Ends} (T : OexC K C) (hl : vs.length = ps.length) (h0 : vs[0]? = some (.ref a)) {fs : List XF} {H : Hp} (h : fs.all (XF.ok ps names) = true)
    (nf : ∀ x ∈ fs, PySem.W.findIn K (.ref C) x.f = some none) (hz : fs.length ≤ 800) (ha : H a = some (exo a C none)) (q0 : fs = [] → D.nx (vs.map some) H)
    (q : fs ≠ [] → ∀ dx, H dx = none → dx ≠ a → D.nx (vs.map some) (upd (upd H dx (exd dx (fldsR vs fs []))) a (exo a C (some dx)))) : tFs K fs D (vs.map some) H := by
  cases fs with
  | nil => exact q0 rfl
  | cons x r =>
    rw [List.all_cons] at h
    obtain ⟨h1, h2⟩ := Bool.and_eq_true_iff.mp h
    unfold XF.ok at h1
    obtain ⟨_, h1⟩ := Bool.and_eq_true_iff.mp h1
    obtain ⟨_, h1⟩ := Bool.and_eq_true_iff.mp h1
    obtain ⟨_, h1⟩ := Bool.and_eq_true_iff.mp h1
    obtain ⟨_, h1⟩ := Bool.and_eq_true_iff.mp h1
    obtain ⟨k5, _⟩ := Bool.and_eq_true_iff.mp h1
    have hi : x.i < vs.length := by
      have := (List.getElem?_eq_some_iff.mp (of_decide_eq_true k5)).1
      omega
    rw [List.length_cons] at hz
    refine ⟨vs[x.i], by simp [hi], .ref a, by rw [List.getElem?_map, h0]; rfl, a, C, rfl, T, nf x (by simp), .inl ⟨ha, fun dx hn ne => ?_⟩⟩
    refine fs_old T hl h0 (acc := [(x.f, vs[x.i])]) (dx := dx) h2 (fun y hy => nf y (List.mem_cons_of_mem _ hy)) (by simp; omega) (Ne.symm ne) upd_same (by rw [upd_ne ne]; exact upd_same) ?_
    have e : fldsR vs (x :: r) [] = fldsR vs r [(x.f, vs[x.i])] := by simp [fldsR, hi]
    have q := q (by simp) dx hn ne
    rw [e] at q
    have e2 : upd (upd (upd H dx (exd dx [(x.f, vs[x.i])])) a (exo a C (some dx))) dx (exd dx (fldsR vs r [(x.f, vs[x.i])])) = upd (upd H dx (exd dx (fldsR vs r [(x.f, vs[x.i])]))) a (exo a C (some dx)) := by
      funext b
      by_cases z1 : b = dx
      · subst z1; rw [upd_same, upd_ne ne, upd_same]
      · rw [upd_ne z1]
        by_cases z2 : b = a
        · subst z2; rw [upd_same, upd_same]
        · rw [upd_ne z2, upd_ne z1, upd_ne z2, upd_ne z1]
    rw [e2]
    exact q
end
end FL

/-! FL18: such an __init__ runs. -/
namespace FL
open PySem PySem.Spec L2
open PySem.W (Frag)
section
open PySem.W
variable {prog : Program} {w : World} {A : Around} {E : Value → Shared → Prop} {h : Heap} {g : Array GenState} {d : Drawn} {t : Nat} {os : OsState}
variable {nm q : Str} {C N : Addr} {bs bm : List Value} {hdct : Bool} {sn : List Str} {sub : List Value} {ab : Bool} {col : Option Bool} {dd : Option Addr} {k0 k1 k2 k3 k5 : Option Value}
theorem call_mw {u e t0 : Addr} {rest : List Value} {Q : Value → Shared → Prop}
    (hC : h.get? C = some (excClassObj nm q C N bs bm hdct sn sub ab col dd k0 k1 k2 k3 k5 "ValueError.__new__")) (he : h.get? e = some (HandSPX.excO C t0)) (hu : h.get? u = some (kxs_mw "ValueError.__init__" e)) (hrest : rest.length ≤ sizeLine)
    (hq : ∀ h' t1, (∀ b o, b ≠ e → h.get? b = some o → h'.get? b = some o) → h'.get? e = some (HandSPX.excO C t1) → Q .none ⟨h', g, d, t, os⟩) :
    wpAny (model prog w) A (call (.ref u) rest) Q E ⟨h, g, d, t, os⟩ := by
  refine wpAny_call (codeAny_of_tree ?_)
  show wpAny _ A.in1 (callAny (.ref u) ⟨rest, []⟩) _ _ _
  simp only [callAny]
  refine wpAny_bind (wpAny_load hu ?_)
  simp only [kxs_mw, show (Value.type "method-wrapper" == Value.type "method" || Value.type "method-wrapper" == Value.type "builtin_function_or_method" || Value.type "method-wrapper" == Value.type "method-wrapper") = true by decide, if_true]
  refine KFB.if_so (by decide) ?_
  refine wpAny_bind (check_bound_init F.excBase_ValueError.toExcCallFacts hC he rfl ?_)
  refine wpAny_bind (wpAny_pure (wpAny_pure ?_))
  refine ⟨plainId_quiet F.excBase_ValueError.init.plain _, codeAny_builtin F.excBase_ValueError.initEntry ?_⟩
  exact exc_init_tree (cls := .ref C) (t0 := t0) (dv := none) (c2 := .none) (c3 := .none) (b4 := .bool false) he hrest fun h' k e' t' => hq h' _ k e'
end
/-- at the end -/
def SupEnd (P : Program) (w : World) (outer : List Env) (H : Hp) (s : Shared) (a C : Addr) (vs : List V) (fs : List XF) (r : Result) (s' : Shared) : Prop := match r with
  | .ok (.ret u) => u = .none ∧ ∃ H2, s'.os = s.os ∧ PyProof.Rows.AllBare s'.gens ∧ Un (frs outer) [] H H2 s.heap s'.heap ∧ HOk P w H2 s'.heap ∧
      ((fs = [] ∧ H2 = H) ∨ (fs ≠ [] ∧ ∃ dx, H dx = none ∧ dx ≠ a ∧ H2 = upd (upd H dx (exd dx (fldsR vs fs []))) a (exo a C (some dx))))
  | _ => False
section
variable {P : Program} {w : World} {K : Frag} {mg : Str → Option Value} {base : Heap} {fd : FuncData} {A : Around} {outer : List Env} {s : Shared} {H : Hp} {ps : List Str} {us : List Value} {vs : List V} {cc C fI a : Addr} {xs : List XA} {fs : List XF} {k : Nat}
theorem sup_init (S : SupC P K C fI cc fd ps xs fs) (mgs : mg "super" = none) (hr : Room (k + 1) A) (e0 : Env0 P w K mg base A outer s H) (hl : (V.ref a :: vs).length = ps.length) (r : Vals vs us) (ea : H a = some (exo a C none)) :
    codeAny (model P w) A (.call (.ref fI) ⟨.ref a :: us, []⟩) (SupEnd P w outer H s a C (.ref a :: vs) fs) s := by
  obtain ⟨oc, od, osl, name, qual, params, scope, dV, kV, doc, pm, an, cd, ct, slf, p0, p1, p2, p3, p4, ar, vsC, o2, file, tf, efd, lk, hcd, hkn, hco, hge, nd, loc, nc, fr, hsu, hkc, har, har0, lkc, o2d, vs2, hfile, htop, hxs, hfs, hdb, hev⟩ := S.fn
  obtain ⟨nm, q, N, bs, bm, sn, sub, ab, col, dd, k0, k1, k2, k3, k5, hCK, hbm⟩ := S.ox.cls
  obtain ⟨occ, lcc, occd⟩ := S.cell
  have KX : K.In s.heap := e0.mod.kin.keeps fun b o e => (e0.bs b o e).1
  have lim : s.heap.NoLimit := e0.mod.nolimit.keeps fun b o e => (e0.bs b o e).1
  have r1 : Vals (V.ref a :: vs) (Value.ref a :: us) := .cons rfl r
  have hul : (Value.ref a :: us).length = ps.length := by rw [← hl]; exact (Paired.length r1).symm
  have sk : fd.scope = scope := by rw [efd]
  refine ks_codeAny_call_defAt (fd := fd) (body := supBody slf xs fs p0 p1 p2 p3 p4) (binds := ps.zip (Value.ref a :: us)) hr.depth (KX _ _ lk) rfl lim (by rw [efd]; exact PySem.W.codeRec_of KX hcd) (by rw [efd])
    (by have z := S.bind s (Value.ref a :: us) KX (by simpa using hul); simpa using z) (by rw [sk]; exact nc) (fun y hy => by rw [sk]; exact loc _ (List.of_mem_zip hy).1) (fun h0 ns keep => ?_) (by rw [sk]; exact hco) (by rw [sk]; exact hge) (by rw [sk]; exact hkn)
  have I : Inv (cxS P w K mg base ps fd fI A outer s H) [] ((V.ref a :: vs).map some) H { s with heap := h0, toks := s.toks + (ps.zip (Value.ref a :: us)).length } :=
    inv_startS (cc := cc) (C := C) hr.hd e0 hl r1 nd (by rw [sk]; exact hkn) (by rw [efd]) (by rw [efd]) (by rw [efd]) (by rw [sk]; exact loc) (by rw [sk]; exact nc) (by rw [sk]; exact fr) lcc occd ns keep
  have hcl : PySem.W.clsIn K C = some { name := nm, bases := bs, mro := .ref C :: bm, ns := N, qualname := q, hasDict := true, slotNames := sn, subclasses := sub, abstract := ab, collection := col, hasDel := false } := by unfold PySem.W.clsIn; rw [hCK] <;> rfl
  have KI : ∀ {pn : List (Addr × Obj)} {σ : L2.St} {H : Hp} {s' : Shared}, Inv (cxS P w K mg base ps fd fI A outer s H) pn σ H s' → K.In s'.heap := fun I => I.kIn
  have kof : ∀ x, (callEnv fd s.heap.objs.size fI).kindOf x = scope.names.lookup x := fun x => by show fd.scope.names.lookup x = _; rw [sk]
  have done : ∀ {fl : Flow} {s' : Shared}, SP (cxS P w K mg base ps fd fI A outer s H) [] { nx := fun _ H2 => (fs = [] ∧ H2 = H) ∨ (fs ≠ [] ∧ ∃ dx, H dx = none ∧ dx ≠ a ∧ H2 = upd (upd H dx (exd dx (fldsR (.ref a :: vs) fs []))) a (exo a C (some dx))), rt := fun _ _ => False } fl s' →
      SupEnd P w outer H s a C (.ref a :: vs) fs (.ok (.ret (match fl with | .ret v => v | _ => .none))) s' := fun {fl s'} hs => by
    cases fl with
    | next =>
      obtain ⟨σ', H', J, q⟩ := hs
      exact ⟨rfl, H', J.os, J.bare, J.base, J.hok, q⟩
    | ret u => obtain ⟨_, _, _, _, _, q⟩ := hs; exact q.elim
    | brk => obtain ⟨_, _, _, q⟩ := hs; exact q.elim
    | cont => obtain ⟨_, _, _, q⟩ := hs; exact q.elim
  refine ks_wpAt_mono (Q := fun fl s' => SP (cxS P w K mg base ps fd fI A outer s H) [] { nx := fun _ H2 => (fs = [] ∧ H2 = H) ∨ (fs ≠ [] ∧ ∃ dx, H dx = none ∧ dx ≠ a ∧ H2 = upd (upd H dx (exd dx (fldsR (.ref a :: vs) fs []))) a (exo a C (some dx))), rt := fun _ _ => False } fl s') (E := fun _ _ => False) ?_ (fun fl s' hs => done hs) (fun _ _ z => z.elim)
  refine ks_wpAt_execs_cons (ks_wpAt_Expr_any (ks_wpAt_MethodCall (pl := (do return (← importBound (.Call (.Name "super" p0) [] [] p1) (callEnv fd s.heap.objs.size fI)).getD true)) (ks_wpAt_super_base (f := fI) (cc := cd) (fd := fd) (ar := ar) (vs := vsC) (file := file) (tf := tf) ((kof _).trans hsu) ((kof _).trans hkc) (by decide +kernel) rfl (KI I _ _ lk) rfl (by rw [efd]; exact har) (by rw [efd]; rfl) (KI I _ _ lkc) o2d vs2 hfile htop ?_) ?_) ?_ ?_)
  · obtain ⟨mb, b1, b2⟩ := I.mod.blt
    refine PySem.W.ks_loadName_global (by show fd.scope.kind = .function; rw [sk]; exact hkn) ((kof _).trans hsu) (Calls.loadGlobal_builtin (by show Heap.Ns _ fd.globals _; rw [show fd.globals = mainGlobals by rw [efd]]; exact I.mod.glob.keeps I.bk) mgs (by show Heap.Ns _ fd.builtins _; rw [show fd.builtins = builtinsNs by rw [efd]]; exact b1.keeps I.bk) ((b2 _ (by decide +kernel)).trans (by decide +kernel : bootBuiltins (Str.ofString "super") = some (.type "super"))) ⟨rfl, ?_⟩)
    refine wpAny_loadName_free (c := cc) (v := .ref C) (by show fd.scope.kind = .function; rw [sk]; exact hkn) ((kof _).trans hkc) (by show (fd.closure).lookup _ = _; rw [show fd.closure = [(("__class__" : Str), cc)] by rw [efd]]; simp) ⟨occ, KI I _ _ lcc, occd⟩ ?_
    have loc0 := loc ar.arg (List.mem_of_getElem? har0)
    refine wpAny_loadName_local (v := .ref a) (by show fd.scope.kind = .function; rw [sk]; exact hkn) ((kof _).trans loc0) ns (lookup_rev_zip nd har0 rfl hul) ?_
    have hC := KI I _ _ hCK
    obtain ⟨t1, ho⟩ := exo_at I.hok ea
    refine ks_wpAny_isType_cls hC rfl ⟨rfl, ?_⟩
    have hmc : PySem.W.mroIn K C (.ref C) = some true := by
      unfold PySem.W.mroIn
      rw [hcl, Option.bind_some]
      simp
    refine ks_wpAny_call_super hC rfl ho rfl (fun c e => by cases e) (PySem.W.looks_mroIn (KI I) hmc) (fun h1 e1 k1 => ?_)
    have I1 := I.kept (h' := h1) (t' := s.toks + (ps.zip (Value.ref a :: us)).length) k1
    have hm := S.up
    unfold PySem.W.ks_superIn at hm
    rw [hcl, Option.bind_some] at hm
    have IA : PySem.W.InstAt h1 a _ C none := ⟨k1 _ _ ho, rfl, rfl, trivial⟩
    refine PySem.W.kxs_getMethod PySem.W.kxs_ValueError e1 (PySem.W.looks_opaque (KI I1) S.any) (l₀ := .ref C :: bm) ?_ rfl (KI I1) hm (IA.type.andThen (PySem.W.looks_subIn (KI I1) S.sub)) (PySem.W.ks_ne (KI I1) IA hcl) (by decide +kernel) ?_
    · exact fun A Q E s k q => wpAny_bind ((PySem.W.looks_clsIn (KI I1) hcl) A _ E s k (wpAny_pure q))
    have k2 : ∀ b o, h1.get? b = some o → (h1.push (PySem.W.kxs_mw "ValueError.__init__" a)).get? b = some o := fun b o e => Heap.get?_push_of_some _ e
    have I2 := I1.kept (h' := h1.push (PySem.W.kxs_mw "ValueError.__init__" a)) (t' := s.toks + (ps.zip (Value.ref a :: us)).length + 1) k2
    have mwAt : (h1.push (PySem.W.kxs_mw "ValueError.__init__" a)).get? h1.objs.size = some (PySem.W.kxs_mw "ValueError.__init__" a) := Heap.get?_push_at rfl rfl
    have nH : H h1.objs.size = none := I1.hok.fresh (Nat.le_refl _)
    have I3 : Inv (cxS P w K mg base ps fd fI A outer s H) [(h1.objs.size, PySem.W.kxs_mw "ValueError.__init__" a)] ((V.ref a :: vs).map some) H _ := I2.pins_of fun p hp => by
      obtain rfl := List.mem_singleton.mp hp
      exact ⟨mwAt, nH, Nat.ne_of_gt I1.lt, I1.nofs (Nat.le_refl _), fun v z => by cases z⟩
    cases xs with
    | nil => exact absurd S.xs0 (by simp)
    | cons x r =>
      obtain ⟨ws, hw1, hw2⟩ := xs_run (ps := ps) (names := scope.names) (H := H) (vs := V.ref a :: vs) hl hxs
      have PAx := pa_xs (X := cxS P w K mg base ps fd fI A outer s H) (ps := ps) (names := scope.names) rfl (by show fd.scope.names = _; rw [sk]) hxs
      rw [List.map_cons] at PAx ⊢
      have sx := XA.star (env := callEnv fd s.heap.objs.size fI) x (r.map XA.ex)
      have plain : ∀ l : List XA, (backTo p3 (starEach (l.map XA.ex) (callEnv fd s.heap.objs.size fI))).any (·.1) = false := fun l => by
        induction l with
        | nil => rfl
        | cons y l ih =>
          rw [List.map_cons, XA.star]
          show (false || (backTo p3 (starEach (l.map XA.ex) _)).any (·.1)) = false
          rw [ih]
          rfl
      rw [sx]
      refine PySem.W.kxs_callWith (i := "ValueError.__init__") (x := a) (by show (false || (backTo p3 (starEach (r.map XA.ex) _)).any (·.1)) = false; rw [plain r]; rfl) ?_
      have z : wpAny (model P w) (A.deeper (callEnv fd s.heap.objs.size fI)) (spliced (backTo p3 (starEach (x.ex :: r.map XA.ex) (callEnv fd s.heap.objs.size fI)))) (AP (cxS P w K mg base ps fd fI A outer s H) [(h1.objs.size, PySem.W.kxs_mw "ValueError.__init__" a)]
          ((V.ref a :: vs).map some) fun ws' H' => ws'.length = (x :: r).length ∧ H' = H) (fun _ _ => False) _ :=
        PAx.run p3 _ _ _ H (fun ws' H' => ws'.length = (x :: r).length ∧ H' = H) I3 (hw2 (fun ws' H' => ws'.length = (x :: r).length ∧ H' = H) ⟨hw1, rfl⟩)
      rw [sx] at z
      refine Calls.evalArgs_plain (thn z fun us1 s4 ⟨vs1, H4, I4, r4, hl4, eH⟩ => ?_)
      subst eH
      obtain ⟨hp4, g4, d4, tk4, os4⟩ := s4
      obtain ⟨t4, ho4⟩ := exo_at I4.hok ea
      have mw4 := (I4.pin (h1.objs.size, PySem.W.kxs_mw "ValueError.__init__" a) (by simp)).1
      refine ⟨mw4, ?_⟩
      refine call_mw (KI I4 _ _ hCK) ho4 mw4 (by show us1.length ≤ sizeLine; rw [← Paired.length r4, hl4, sizeLine_eq]; have := S.few.2; omega) fun h5 t5 k5 hx5 => ?_
      have J := I4.write (t' := tk4) (x := a) (e := a) (o := exo a C none) (by rw [ea]; exact True.intro) (.inl rfl) k5 ⟨_, hx5⟩ (exo_ok hx5)
      have eu : upd H4 a (exo a C none) = H4 := by
        funext b
        by_cases hb : b = a
        · rw [hb, upd_same, ea]
        · rw [upd_ne hb]
      rw [eu] at J
      have J0 : Inv (cxS P w K mg base ps fd fI A outer s H4) [] ((V.ref a :: vs).map some) H4 ⟨h5, g4, d4, tk4, os4⟩ := J.pins_of fun p hp => absurd hp (by simp)
      have PF := pss_fs (X := cxS P w K mg base ps fd fI A outer s H4) (ps := ps) (names := scope.names) rfl (by show fd.scope.names = _; rw [sk]) hfs
      refine wpAt_of_wpAny (PF.run [] _ _ H4 _ J0 (fs_new S.ox hl (by rfl) hfs S.nf (by have := S.few.1; omega) ea (fun e => .inl ⟨e, rfl⟩) (fun ne dx hn na => .inr ⟨ne, dx, hn, na, rfl⟩)))
  · exact hev _
  · simp [interactive, callEnv, newEnv, sk, hkn]
  · cases xs with
    | nil => exact absurd S.xs0 (by simp)
    | cons x r => rfl
end
end FL

/-! FL19: such an exception is made. -/
namespace FL
open PySem PySem.Spec L2
open PySem.W (Frag)
section
variable {X : Cx} {pins : List (Addr × Obj)} {σ : L2.St}
theorem mk_endN {H1 : Hp} {Q : XK} {hp hp2 h2 : Heap} {g1 g2 : Array GenState} {d1 d2 : Drawn} {t1 t2 : Nat} {os1 os2 : OsState} {a C : Addr} (T : Raises X (.ref C)) (I1 : Inv X pins σ H1 ⟨hp, g1, d1, t1, os1⟩)
    (ha : hp.objs.size ≤ a) (k : ∀ b o, hp.get? b = some o → hp2.get? b = some o) (un : Un (frs X.stack) [] (upd H1 a (exo a C none)) (upd H1 a (exo a C none)) hp2 h2) (hok : HOk X.prog X.w (upd H1 a (exo a C none)) h2) (ho : os2 = os1) (hb : PyProof.Rows.AllBare g2)
    (q : Q (.ref C) none H1) : MkP X pins σ Q (.ref a) ⟨h2, g2, d2, t2, os2⟩ := by
  have ea : upd H1 a (exo a C none) a = some (exo a C none) := upd_same
  obtain ⟨t0, hoe⟩ := exo_at hok ea
  have hn : H1 a = none := I1.hok.fresh ha
  obtain ⟨G, g1', g2'⟩ := restrict h2 fun b => decide (b ≠ a)
  have gk : ∀ b, b ≠ a → G.get? b = h2.get? b := fun b hb => g1' b (decide_eq_true hb)
  have ge : G.get? a = none := g2' a (by simp)
  have nha : ∀ {b : Addr} {o : Obj}, hp.get? b = some o → b ≠ a := fun {b o} z => Nat.ne_of_lt (Nat.lt_of_lt_of_le (Heap.lt_size z) ha)
  have up : ∀ {b : Addr}, b ≠ a → H1 b = none → upd H1 a (exo a C none) b = none := fun {b} hb n => by rw [upd_ne hb]; exact n
  have U : Un (frs X.stack) [] H1 H1 hp G := {
    keep := fun b o z n hf hx => by
      rw [gk b (nha z)]
      exact un.keep b o (k b o z) (up (nha z) n) hf hx
    slot := fun b o z n hf hx => by
      rw [gk b (nha z)]
      exact un.slot b o (k b o z) (up (nha z) n) hf hx
    free := fun b o z n hx => n
    there := fun b o z hx => by
      rw [gk b (nha z)]
      exact un.there b o (k b o z) hx
    tups := fun b xs z => z
    frzs := fun b o v z => z
    tbls := fun b ps z => ⟨#[], by rw [z]; simp⟩ }
  have hok3 : HOk X.prog X.w H1 G := fun b o z => by
    have hba : b ≠ a := fun e => by rw [e, hn] at z; cases z
    have z' : upd H1 a (exo a C none) b = some o := by rw [upd_ne hba]; exact z
    have noa : ∀ {c : Addr}, upd H1 a (exo a C none) c = some (.own b) → c ≠ a := fun {c} hc => at_ne ea hc exo_own
    exact (hok b o z').stay (fun c v hc y => by
        have hca : c ≠ a := by
          rcases hc with hc | hc
          · rw [hc]
            exact hba
          · exact noa hc
        rw [gk c hca]
        exact y)
      (fun c hc => by
        have := hc
        rw [upd_ne (noa hc)] at this
        exact this)
      (fun c xs hc => by
        have := hc
        rw [upd_ne (at_ne ea hc exo_tup)] at this
        exact this)
  have J : Inv X pins σ H1 ⟨G, g2, d2, t2, os2⟩ := I1.call' (ch := []) ho U hok3 hb (fun b z => absurd z (by simp))
  refine ⟨a, _, _, ⟨G, g2, d2, t2, os2⟩, _, .ref C, none, rfl, J, fun b o z => ?_, ge, hoe, ⟨rfl, rfl⟩, rfl, rfl, hn, rfl, hb, T, q⟩
  by_cases hba : b = a
  · rw [hba, ge] at z
    cases z
  · exact (gk b hba).symm.trans z
end
theorem fldsR_eq (vs : List V) : ∀ (fs : List XF) (acc : List (Str × V)), fldsR vs fs acc = (fs.reverse.map fun a => (a.f, (vs[a.i]?).getD .non)) ++ acc
  | [], acc => rfl
  | a :: r, acc => by
    unfold fldsR
    rw [fldsR_eq vs r]
    simp
def selOf (fs : List XF) : List (Str × Nat) := fs.reverse.map fun a => (a.f, a.i - 1)
/-- C(..) -/
def tMkX (C : Addr) (np : Nat) (sel : List (Str × Nat)) (ta : TA) : L2.St → Hp → XK → Prop := fun σ H Q => ta σ H fun vs H1 => vs.length = np ∧ ∃ us, selV sel vs = some us ∧ (sel = [] → Q (.ref C) none H1) ∧
  (sel ≠ [] → ∀ d, H1 d = none → Q (.ref C) (some d) (upd H1 d (.xd ((sel.map (·.1)).zip us))))
theorem selV_of {fs : List XF} {vs us : List V} {v0 : V} (h : selV (selOf fs) vs = some us) (pos : ∀ a ∈ fs, 0 < a.i) : us = fs.reverse.map fun a => (((v0 :: vs)[a.i]?).getD .non) := by
  unfold selV selOf at h
  have pos : ∀ a ∈ fs.reverse, 0 < a.i := fun a m => pos a (List.mem_reverse.mp m)
  generalize fs.reverse = l at h pos
  induction l generalizing us with
  | nil => simp at h; simp [h]
  | cons x r ih =>
    rw [List.map_cons, List.mapM_cons] at h
    cases e : vs[x.i - 1]? with
    | none => simp [e] at h
    | some y =>
      cases e2 : (r.map fun a => (a.f, a.i - 1)).mapM fun p => vs[p.2]? with
      | none => simp [e, e2] at h
      | some z =>
        simp [e, e2] at h
        subst h
        rw [List.map_cons, ← ih e2 fun a m => pos a (List.mem_cons_of_mem _ m)]
        have hx := pos x (by simp)
        have e3 : (v0 :: vs)[x.i]? = some y := by
          obtain ⟨n, hn⟩ := Nat.exists_eq_succ_of_ne_zero (Nat.ne_of_gt hx)
          rw [hn, List.getElem?_cons_succ, ← e, hn]; rfl
        rw [e3]
        rfl
section
variable {X : Cx} {es : List Expr} {ta : TA} {x : Str} {C fI cc : Addr} {fd : FuncData} {ps : List Str} {xs : List XA} {fs : List XF} {p pos : Pos} {k : Nat} {E : Value → Shared → Prop}
theorem mk_call {pins : List (Addr × Obj)} {σ : L2.St} {H1 : Hp} {Q : XK} {us : List Value} {vs : List V} {s1 : Shared} (S : SupC X.prog X.K C fI cc fd ps xs fs) (mgs : X.mg "super" = none) (hr : Room (k + 2) X.A) (fpos : ∀ a ∈ fs, 0 < a.i)
    (I1 : Inv X pins σ H1 s1) (r1 : Vals vs us) (hl : vs.length + 1 = ps.length) (hlz : vs.length ≤ 1000)
    (q : ∃ us, selV (selOf fs) vs = some us ∧ (selOf fs = [] → Q (.ref C) none H1) ∧ (selOf fs ≠ [] → ∀ d, H1 d = none → Q (.ref C) (some d) (upd H1 d (.xd (((selOf fs).map (·.1)).zip us))))) :
    wpAny (model X.prog X.w) X.A (call (.ref C) us) (MkP X pins σ Q) E s1 := by
  obtain ⟨nm, qn, N, bs, bm, sn, sub, ab, col, dd, k0, k1, k2, k3, k5, hC, hbm⟩ := S.ox.cls
  obtain ⟨ws, hsel, q0, q1⟩ := q
  obtain ⟨hp, g, dr, tk, os⟩ := s1
  have hsz : hp.objs.size ≤ hp.objs.size + 1 := Nat.le_succ _
  have hn : H1 (hp.objs.size + 1) = none := I1.hok.fresh hsz
  have kk : ∀ b o, hp.get? b = some o → ((hp.push (PySem.W.kdv_tup us)).push (PySem.HandSPX.excO C hp.objs.size)).get? b = some o := fun b o e => Heap.get?_push_of_some _ (Heap.get?_push_of_some _ e)
  have hget : ((hp.push (PySem.W.kdv_tup us)).push (PySem.HandSPX.excO C hp.objs.size)).get? (hp.objs.size + 1) = some (PySem.HandSPX.excO C hp.objs.size) := by heap_get
  have I2 : Inv X pins σ (upd H1 (hp.objs.size + 1) (exo (hp.objs.size + 1) C none)) ⟨(hp.push (PySem.W.kdv_tup us)).push (PySem.HandSPX.excO C hp.objs.size), g, dr, tk, os⟩ :=
    I1.laid (t' := tk) (a := hp.objs.size + 1) (o := exo (hp.objs.size + 1) C none) (h' := (hp.push (PySem.W.kdv_tup us)).push (PySem.HandSPX.excO C hp.objs.size)) kk hsz (exo_ok hget)
  have hus : us.length ≤ sizeLine := by
    rw [← Paired.length r1, sizeLine_eq]
    omega
  have T : Raises X (.ref C) := raises_own S.ox.exC S.ox.tyC
  refine wpAny_call (PySem.HandSPX.call_own F.excBase_ValueError (fun Y => PySem.HandSPX.refsVE_contains Y bm hbm) (I1.kIn _ _ hC) (PySem.W.looks_findIn I1.kIn S.iC) (fun self => PySem.W.bind_fn I1.kIn self S.tI) hus
    (codeAny_mono (sup_init (k := k) S mgs (hr.make C us []) (I2.env0.make C us []) (a := hp.objs.size + 1) (by rw [List.length_cons]; exact hl) r1 upd_same) (fun r s' hq' => ?_)))
  cases r with
  | error er => exact hq'.elim
  | ok fl =>
    cases fl with
    | ret u =>
      obtain ⟨rv, H2, os2, bare2, un2, hok2, hh⟩ := hq'
      obtain ⟨h2, g2, d2, t2, os'⟩ := s'
      refine ⟨rv, ?_⟩
      rcases hh with ⟨e, rfl⟩ | ⟨ne, dx, hd, hda, rfl⟩
      · exact mk_endN T I1 hsz kk un2 hok2 os2 bare2 (q0 (by rw [e]; rfl))
      · have hd1 : H1 dx = none := by rw [upd_ne hda] at hd; exact hd
        have ne' : selOf fs ≠ [] := fun z => by
          unfold selOf at z
          simp at z
          exact ne z
        refine mk_end (fs := fldsR (V.ref (hp.objs.size + 1) :: vs) fs []) (d := dx) T I1 hsz kk un2 hok2 os2 bare2 upd_same (by rw [upd_ne hda]; exact upd_same) hd1 ?_
        have z := q1 ne' dx hd1
        have e1 : fldsR (V.ref (hp.objs.size + 1) :: vs) fs [] = ((selOf fs).map (·.1)).zip ws := by
          rw [fldsR_eq, List.append_nil, selV_of (v0 := V.ref (hp.objs.size + 1)) hsel fpos]
          unfold selOf
          rw [List.map_map, List.zip_map']
          rfl
        have e2 : upd (del (upd (upd (upd H1 (hp.objs.size + 1) (exo (hp.objs.size + 1) C none)) dx (exd dx (fldsR (V.ref (hp.objs.size + 1) :: vs) fs []))) (hp.objs.size + 1) (exo (hp.objs.size + 1) C (some dx))) (hp.objs.size + 1)) dx (.xd (fldsR (V.ref (hp.objs.size + 1) :: vs) fs []))
            = upd H1 dx (.xd (((selOf fs).map (·.1)).zip ws)) := by
          rw [e1]
          funext b
          by_cases z1 : b = dx
          · subst z1; rw [upd_same, upd_same]
          · rw [upd_ne z1, upd_ne z1]
            by_cases z2 : b = hp.objs.size + 1
            · subst z2; rw [del_same, hn]
            · rw [del_ne z2, upd_ne z2, upd_ne z1, upd_ne z2]
        rw [e2]
        exact z
    | next => exact False.elim hq'
    | brk => exact False.elim hq'
    | cont => exact False.elim hq'
theorem pmk_sup {e : Expr} (S : SupC X.prog X.K C fI cc fd ps xs fs) (mgs : X.mg "super" = none) (kC : PySem.W.keepIn X.K (.ref C) = true) (hr : Room (k + 2) X.A) (fpos : ∀ a ∈ fs, 0 < a.i) (hg : Gl X x) (hm : X.mg x = some (.ref C)) (hps : ps.length ≤ 1000)
    (ha : PA X (e :: es) ta) (hdb : (x == ("__debug__" : Str)) = false) (he : starEach (e :: es) X.env = (false, eval e X.env) :: starEach es X.env) (hpl : (backTo pos (starEach es X.env)).any (·.1) = false) :
    PMk X (.Call (.Name x p) (e :: es) [] pos) (tMkX C (ps.length - 1) (selOf fs) ta) := by
  intro pins s σ H Q I h
  refine wpAny_Call_Name_kw (ld_glob I hg hm ?_ hdb)
  refine PySem.W.callWith_K (h₀ := X.base) I.ok.mod.kin kC (thn (ha.run pos pins s σ H _ I h) fun us s1 ⟨vs, H1, I1, r1, hz, q1⟩ => ⟨I1.kIn, ?_⟩) he hpl
  show wpAny _ _ (call (.ref C) us) _ _ _
  have hp0 : 0 < ps.length := by
    obtain ⟨_, _, _, _, _, _, _, _, _, _, _, _, _, _, _, _, _, _, _, _, _, _, _, _, _, _, _, _, _, _, _, _, _, _, _, _, _, _, har0, _⟩ := S.fn
    exact (List.getElem?_eq_some_iff.mp har0).1
  exact mk_call S mgs hr fpos I1 r1 (by omega) (by omega) q1
theorem pmk_sup0 (S : SupC X.prog X.K C fI cc fd ps xs fs) (mgs : X.mg "super" = none) (kC : PySem.W.keepIn X.K (.ref C) = true) (hr : Room (k + 2) X.A) (fpos : ∀ a ∈ fs, 0 < a.i) (hg : Gl X x) (hm : X.mg x = some (.ref C)) (hps : ps.length = 1)
    (hdb : (x == ("__debug__" : Str)) = false) :
    PMk X (.Call (.Name x p) [] [] pos) (tMkX C (ps.length - 1) (selOf fs) tNil) := by
  intro pins s σ H Q I h
  refine wpAny_Call_Name_kw (ld_glob I hg hm ?_ hdb)
  refine PySem.W.callWith_K0 (I.kIn) kC ?_
  show wpAny _ _ (call (.ref C) ([] ++ [])) _ _ _
  exact mk_call S mgs hr fpos I .nil (by simp [hps]) (by simp) h.2
end
end FL

/-! FL20: texts, calls with keywords, raise, try. -/
namespace FL
open PySem PySem.Spec L2
section
variable {X : Cx} {G : Gx} {B : Fr0} {W : WX} {k : Option Nat} {N : List Str} {sc : Scope} {pos : Pos} {F F' H : Hp} {σ : L2.St} {s : Sls}
variable {a b c e : Expr} {ea eb ec : E} {es : List Expr} {D D' : Ends} {i : Nat} {x : Str} {px : Pos}
/-! ### texts -/
theorem q_stw {apos : Pos} (ha : PE X a (rdE G B W ea)) (hb : PE X b (rdE G B W eb)) (hs : starEach [b] X.env = [(false, eval b X.env)]) (hbase : attributeBase a "startswith" X.env (eval a X.env) = eval a X.env) (hline : (apos.endLine == pos.line) = true) :
    PE X (.Call (.Attribute a "startswith" apos) [b] [] pos) (rdE G B W (.stw ea eb)) := by
  refine PE.imp (pe_m1 (by exact PySem.F.slot_str_startswith) (by exact PySem.F.type_str_startswith) mt_startswith ha hb hs hbase hline) fun σ H Q hq => ?_
  obtain ⟨F, s, sr, p⟩ := hq
  simp only [evE] at p
  refine ⟨F, s, sr, (Pst.bind p).mono ?_⟩
  rintro x H1 ⟨tx, F1, s1, e1, sr1, rx, p1⟩
  split at p1
  · simp only [relE, Rep] at rx
    subst rx
    refine ⟨⟨_, rfl⟩, F1, s1, sr1, (Pst.bind p1).mono ?_⟩
    rintro y H2 ⟨ty, F2, s2, e2, sr2, ry, p2⟩
    split at p2
    · simp only [relE, Rep] at ry
      subst ry
      exact ⟨_, _, rfl, rfl, p2 _ F2 H2 (.refl _) sr2 (by simp only [relE, Rep])⟩
    · exact p2.elim
  · exact p1.elim
theorem reps_strs {F : Hp} : ∀ ys : List Str, Reps G F (ys.map V.str) (ys.map T.str)
  | [] => by simp [Reps]
  | y :: ys => by
    simp only [List.map_cons]
    exact Reps.cons (by simp only [Rep]) (reps_strs ys)
theorem q_split {apos : Pos} (ha : PE X a (rdE G B W ea)) (hb : PE X b (rdE G B W eb)) (hs : starEach [b] X.env = [(false, eval b X.env)]) (hbase : attributeBase a "split" X.env (eval a X.env) = eval a X.env) (hline : (apos.endLine == pos.line) = true) :
    PE X (.Call (.Attribute a "split" apos) [b] [] pos) (rdM G B W (.split ea eb)) := by
  refine PE.imp (pe_split ha hb hs hbase hline) fun σ H Q hq => ?_
  obtain ⟨F, s, sr, p⟩ := hq
  simp only [evM] at p
  refine ⟨F, s, sr, (Pst.bind p).mono ?_⟩
  rintro x H1 ⟨tx, F1, s1, e1, sr1, rx, p1⟩
  split at p1
  · simp only [relE, Rep] at rx
    subst rx
    refine ⟨⟨_, rfl⟩, F1, s1, sr1, (Pst.bind p1).mono ?_⟩
    rintro y H2 ⟨ty, F2, s2, e2, sr2, ry, p2⟩
    split at p2
    · simp only [relE, Rep] at ry
      subst ry
      split at p2
      · rename_i v hl
        exact ⟨_, _, rfl, rfl, by have := hl.1; cases h : v.length with
          | zero => omega
          | succ n => rfl, by rw [sizeLine_eq]; have := hl.2; omega, fun q hn => relM_grow sr2 (reps_strs _) p2 q hn⟩
      · exact p2.elim
    · exact p2.elim
  · exact p1.elim
/-! ### f-strings -/
inductive JsR (X : Cx) (G : Gx) (B : Fr0) (W : WX) : List Expr → Es → Prop
  | nil : JsR X G B W [] .nil
  | s {x : Str} {j : Nat} {p : Pos} {es : List Expr} {fs : Es} : JsR X G B W es fs → JsR X G B W (.Constant (.str x) j p :: es) (.cons (.cst (.str x)) fs)
  | f {e : Expr} {ee : E} {p : Pos} {es : List Expr} {fs : Es} : PE X e (rdE G B W ee) → JsR X G B W es fs → JsR X G B W (.FormattedValue e (-1) none p :: es) (.cons ee fs)
theorem rd_js {fs : Es} {acc : Str} {Q : Str → Hp → Prop} (h : rd G B W (fun _ _ _ (b : Str) (a : Str) => b = a) (evJs (.cons ea fs) acc) σ H Q) :
    rd G B W (relE G) (evE ea) σ H fun v H1 => ∃ t F1 s1 y, SR G B F1 H1 σ s1 ∧ Rep G F1 v t ∧ fmtT t = some y ∧ (acc ++ y).length ≤ big ∧ rd G B W (fun _ _ _ (b : Str) (a : Str) => b = a) (evJs fs (acc ++ y)) σ H1 Q := by
  obtain ⟨F, s, sr, p⟩ := h
  simp only [evJs] at p
  refine ⟨F, s, sr, (Pst.bind p).mono ?_⟩
  rintro v H1 ⟨t, F1, s1, e1, sr1, r, p1⟩
  split at p1
  · rename_i y hy
    split at p1
    · rename_i hl
      exact ⟨t, F1, s1, y, sr1, r, hy, hl, F1, s1, sr1, p1⟩
    · exact p1.elim
  · exact p1.elim
theorem js_run {vs : List Expr} {fs : Es} (h : JsR X G B W vs fs) : ∃ ts, PJ X vs ts ∧ ∀ (acc : Str) (σ : L2.St) (H : Hp) (Q : Str → Hp → Prop), rd G B W (fun _ _ _ (b : Str) (a : Str) => b = a) (evJs fs acc) σ H Q → tJs ts acc σ H Q := by
  induction h with
  | nil =>
    refine ⟨[], .nil, fun acc σ H Q h => ?_⟩
    obtain ⟨F, s, sr, p⟩ := h
    simp only [evJs] at p
    exact p acc F H (.refl _) sr rfl
  | @s x j p es fs _ ih =>
    obtain ⟨ts, h1, h2⟩ := ih
    refine ⟨_, .cons pe_str h1, fun acc σ H Q h => ?_⟩
    obtain ⟨F, s, sr, p⟩ := rd_js h
    simp only [evE] at p
    obtain ⟨t, F1, s1, y, sr1, r, hy, hl, q⟩ := p (.str x) F H (.refl _) sr (by simp only [relE, Rep])
    have et : t = .str x := by
      obtain ⟨F0, s0, sr0, p0⟩ := h
      cases t with
      | str z => simp only [Rep] at r; cases r; rfl
      | int z => simp only [Rep] at r; cases r
      | _ => simp [fmtT] at hy
    subst et
    simp only [fmtT] at hy
    split at hy
    · cases hy
      exact ⟨_, rfl, by rw [← big_eq]; exact hl, h2 _ _ _ _ q⟩
    · cases hy
  | @f e ee p es fs he _ ih =>
    obtain ⟨ts, h1, h2⟩ := ih
    refine ⟨_, .cons (pe_fmt he) h1, fun acc σ H Q h => ?_⟩
    obtain ⟨F, s, sr, p⟩ := rd_js h
    refine ⟨F, s, sr, p.mono ?_⟩
    rintro v H1 ⟨t, F1, s1, y, sr1, r, hy, hl, q⟩
    have fin : ∃ z : Str, V.str y = .str z ∧ (acc ++ z).length ≤ sizeLine ∧ tJs ts (acc ++ z) σ H1 Q := ⟨y, rfl, by rw [← big_eq]; exact hl, h2 _ _ _ _ q⟩
    cases t with
    | str z =>
      simp only [Rep] at r
      subst r
      simp only [fmtT] at hy
      split at hy
      · rename_i hz
        cases hy
        exact .inl ⟨_, rfl, by rw [← big_eq]; exact hz, fin⟩
      · cases hy
    | int z =>
      simp only [Rep] at r
      subst r
      simp only [fmtT] at hy
      split at hy
      · rename_i hz
        cases hy
        exact .inr ⟨_, rfl, hz, fin⟩
      · cases hy
    | _ => simp [fmtT] at hy
theorem q_fst {v1 v2 : Expr} {rest : List Expr} {fs : Es} (h : JsR X G B W (v1 :: v2 :: rest) fs) : PE X (.JoinedStr (v1 :: v2 :: rest) pos) (rdE G B W (.fst fs)) := by
  obtain ⟨ts, h1, h2⟩ := js_run h
  refine PE.imp (pe_joined h1) fun σ H Q hq => ?_
  refine h2 _ _ _ _ ?_
  obtain ⟨F, s, sr, p⟩ := hq
  simp only [evE] at p
  refine ⟨F, s, sr, (Pst.bind p).mono ?_⟩
  rintro z H1 ⟨z', F1, s1, e1, sr1, rfl, p1⟩
  exact p1 _ F1 H1 (.refl _) sr1 (by simp only [relE, Rep])
end
end FL

/-! FL21: calls with keywords, raise, the caught exception, try. -/
namespace FL
open PySem PySem.Spec L2
theorem noX_set {s : Sls} (h : noXc s = true) {i : Nat} {c : Str} {ns : List Str} {ts : List T} : s[i]? ≠ some (.xc c ns ts) := by
  intro e
  induction s generalizing i with
  | nil => simp at e
  | cons x r ih =>
    cases i with
    | zero =>
      simp only [List.getElem?_cons_zero, Option.some.injEq] at e
      subst e
      simp [noXc] at h
    | succ n =>
      simp only [List.getElem?_cons_succ] at e
      refine ih ?_ e
      cases x <;> simp_all [noXc]
section
variable {X : Cx} {G : Gx} {B : Fr0} {W : WX} {k : Option Nat} {N : List Str} {sc : Scope} {pos : Pos} {F F' H : Hp} {σ : L2.St} {s : Sls}
variable {a b c e : Expr} {ea eb ec : E} {es : List Expr} {D D' : Ends} {i : Nat} {x : Str} {px : Pos}
theorem SR.setXc (h : SR G B F H σ s) (hx : B.xa = none) {a : Addr} {cls : Value} {d : Option Addr} {c : Str} {ns : List Str} {ts : List T} (hi : i < s.length) (r : ExR G F cls d c ns ts) :
    SR G { B with xa := some (a, cls, d) } F H (σ.set i (some (.ref a))) (s.set i (.xc c ns ts)) := by
  have hi' : i < σ.length := by rw [← h.len]; exact hi
  have old : ∀ {j : Nat} {x : Sl}, (s.set i (.xc c ns ts))[j]? = some x → (j = i ∧ x = .xc c ns ts) ∨ (j ≠ i ∧ s[j]? = some x) := fun {j x} q => by
    by_cases z : j = i
    · subst z
      rw [List.getElem?_set_self hi] at q
      exact .inl ⟨rfl, (Option.some.inj q).symm⟩
    · rw [List.getElem?_set_ne (Ne.symm z)] at q
      exact .inr ⟨z, q⟩
  have sg : ∀ {j : Nat}, j ≠ i → (σ.set i (some (.ref a)))[j]? = σ[j]? := fun {j} n => List.getElem?_set_ne (Ne.symm n)
  refine ⟨h.sub, by rw [List.length_set, List.length_set]; exact h.len, fun j u q => ?_, fun j us q => ?_, fun j us q => ?_, fun j k x y b c ne q r ox oy sj sk => ?_, h.fr, h.pl, h.ph, h.f0, h.nw, fun j c' ns' ts' q => ?_⟩
  · rcases old q with ⟨rfl, q'⟩ | ⟨nj, q'⟩
    · cases q'
    · rw [sg nj]; exact h.im j u q'
  · rcases old q with ⟨rfl, q'⟩ | ⟨nj, q'⟩
    · cases q'
    · rw [sg nj]; exact h.mu j us q'
  · rcases old q with ⟨rfl, q'⟩ | ⟨nj, q'⟩
    · cases q'
    · rw [sg nj]; exact h.mp j us q'
  · rcases old q with ⟨rfl, q'⟩ | ⟨nj, q'⟩
    · subst q'; cases ox
    · rcases old r with ⟨rfl, r'⟩ | ⟨nk, r'⟩
      · subst r'; cases oy
      · rw [sg nj] at sj
        rw [sg nk] at sk
        exact h.ne j k x y b c ne q' r' ox oy sj sk
  · rcases old q with ⟨rfl, q'⟩ | ⟨nj, q'⟩
    · cases q'
      exact ⟨a, cls, d, rfl, List.getElem?_set_self hi', .inr r⟩
    · obtain ⟨_, _, _, z, _⟩ := h.xc j c' ns' ts' q'
      rw [hx] at z; cases z
theorem SR.noX {xa : Option (Addr × Value × Option Addr)} (h : SR G { B with xa := xa } F H σ s) (n : noXc s = true) : SR G B F H σ s :=
  ⟨h.sub, h.len, h.im, h.mu, h.mp, h.ne, h.fr, h.pl, h.ph, h.f0, h.nw, fun j c ns ts q => (noX_set n q).elim⟩
theorem leave_post {xa : Option (Addr × Value × Option Addr)} {r : SO} {W' : WX} (p : PostS G B W F (leaveX i r) D) :
    PostS G { B with xa := xa } W' F r { nx := fun σ' H' => D.nx (σ'.set i none) H', rt := D.rt, bk := fun σ' H' => D.bk (σ'.set i none) H', ct := fun σ' H' => D.ct (σ'.set i none) H' } := by
  cases r with
  | nx s =>
    simp only [leaveX] at p
    split at p
    · rename_i n
      exact fun σ' F' H' e sr => p _ F' H' e ((sr.setUn i none).noX n)
    · exact p.elim
  | brk s =>
    simp only [leaveX] at p
    split at p
    · rename_i n
      exact fun σ' F' H' e sr => p _ F' H' e ((sr.setUn i none).noX n)
    · exact p.elim
  | cnt s =>
    simp only [leaveX] at p
    split at p
    · rename_i n
      exact fun σ' F' H' e sr => p _ F' H' e ((sr.setUn i none).noX n)
    · exact p.elim
  | ret t s =>
    simp only [leaveX] at p
    split at p
    · rename_i n
      exact fun v σ' F' H' e sr r => p v _ F' H' e ((sr.setUn i none).noX n) r
    · exact p.elim
  | retF ts s => exact p.elim
  | ex c ns ts s => exact p.elim
  | bad => exact p.elim

/-! ### the caught exception's attributes -/
/-- the context is a suite, its exception is B's -/
def SuiX (X : Cx) (B : Fr0) : Prop := ∃ (Y : Cx) (a : Addr) (oe : Obj) (cls : Value) (d : Option Addr) (pn : List (Addr × Obj)), X = Y.suite a ((a, oe) :: pn) ∧ B.xa = some (a, cls, d) ∧ Zc cls d oe ∧ ∃ vs, oe.data = .fields vs
theorem fldT_zip {f : Str} {t : T} : ∀ {ns : List Str} {vs : List V} {ts : List T}, Reps G F vs ts → vs.length = ns.length → fldT f ns ts = some t → ∃ v, (ns.zip vs).lookup f = some v ∧ Rep G F v t
  | [], vs, ts, _, _, h => by simp [fldT] at h
  | n :: ns, [], ts, _, hl, _ => by simp at hl
  | n :: ns, v :: vs, [], r, hl, h => by simp [fldT] at h
  | n :: ns, v :: vs, u :: ts, r, hl, h => by
    simp only [Reps] at r
    obtain ⟨v', vr, e, r1, r2⟩ := r
    cases e
    simp only [fldT] at h
    rw [List.zip_cons_cons, List.lookup_cons]
    split at h
    · rename_i e
      cases h
      subst e
      exact ⟨v, by simp, r1⟩
    · rename_i e
      have ne : (f == n) = false := by
        cases q : f == n with
        | false => rfl
        | true => exact (e (beq_iff_eq.mp q).symm).elim
      rw [ne]
      exact fldT_zip r2 (by simpa using hl) h
theorem q_exf (g : Good X G k N sc W) (sx : SuiX X B) {f : Str} {cs : List Str} (hne : Str.empty ∉ cs) (hi : N[i]? = some x) (hv : Vis sc x) (hd : (x == ("__debug__" : Str)) = false) (hcd : (x == ("__classdict__" : Str)) = false)
    (hc : ∀ c ∈ cs, ∀ C, G.mg c = some (.ref C) → XfC G.K C ∧ PySem.W.findIn G.K (.ref C) f = some none) : PE X (.Attribute (.Name x px) f pos) (rdE G B W (.exf i f cs)) := by
  obtain ⟨Y, a, oe, cls, d, pn, rfl, hxa, hz, hf⟩ := sx
  have key : ∀ {σ H Q}, rdE G B W (.exf i f cs) σ H Q → ∃ c C, c ∈ cs ∧ cls = .ref C ∧ G.mg c = some (.ref C) ∧ ∃ F s v t, σ[i]? = some (some (.ref a)) ∧ (∃ dd fs, d = some dd ∧ H dd = some (.xd fs) ∧ fs.lookup f = some v) ∧ Q v H := fun {σ H Q} hq => by
    obtain ⟨F, s, sr, p⟩ := hq
    simp only [evE] at p
    split at p
    · rename_i c ns ts e
      split at p
      · rename_i hm
        obtain ⟨a', cls', d', k1, k2, kk⟩ := sr.xc i c ns ts e
        obtain ⟨C, k3, k4, k5⟩ := kk.resolve_left fun z => hne (by subst z; simpa using hm)
        rw [hxa] at k1
        cases k1
        have p : Pst G B W F σ (relE G) (Rs.of (fldT f ns ts) s) Q := p
        cases ht : fldT f ns ts with
        | none => rw [ht] at p; exact p.elim
        | some t =>
          rw [ht] at p
          rcases k5 with ⟨rfl, rfl, _⟩ | ⟨dx, vs, rfl, h2, h3, h4⟩
          · simp [fldT] at ht
          · obtain ⟨v, l, r⟩ := fldT_zip h4 h3 ht
            exact ⟨c, C, by simpa using hm, k3, k4, F, s, v, t, k2, ⟨dx, _, rfl, sr.sub _ _ h2, l⟩, p v F H (.refl _) sr r⟩
      · exact p.elim
    · exact p.elim
  by_cases hcls : ∃ c C, c ∈ cs ∧ cls = .ref C ∧ G.mg c = some (.ref C)
  · obtain ⟨c, C, h1, rfl, h2⟩ := hcls
    obtain ⟨T, no⟩ := hc c h1 C h2
    have hK : Y.K = G.K := g.hK
    refine PE.imp (pe_xf (X := Y) (C := C) (by rw [hK]; exact T) (by rw [hK]; exact no) hz hf (pe_var (i := i) (by rw [g.hN]; exact hi) (by rw [g.hsc]; exact hv) hd hcd) rfl) fun σ H Q hq => ?_
    obtain ⟨_, _, _, _, _, F, s, v, t, k1, ⟨dd, fs, k2, k3, k4⟩, q⟩ := key hq
    exact ⟨.ref a, k1, rfl, rfl, dd, fs, v, k2, k3, k4, q⟩
  · refine ⟨fun pins s σ H Q I h => ?_⟩
    obtain ⟨c, C, h1, h2, h3, _⟩ := key h
    exact (hcls ⟨c, C, h1, h2, h3⟩).elim

/-! ### try -/
theorem s_try {n : Nat} (g : Good X G (some n) N sc W) (Tx : TopX X) (hB : B.xa = none) {c : Str} {cv : Value} {body suite : List Stmt} {b₀ : Stmt} {np pos' : Pos} {nm : Option Str} {oi : Option Nat} {yes no : List Str} {ib ih : List S}
    (hc : Names X c cv) (hy : ∀ c ∈ yes, ∀ C, G.mg c = some (.ref C) → PySem.W.exmOne G.K (.ref C) cv = some true) (hn : ∀ c ∈ no, ∀ C, G.mg c = some (.ref C) → PySem.W.exmOne G.K (.ref C) cv = some false)
    (hnm : (nm = none ∧ oi = none) ∨ ∃ x i, nm = some x ∧ oi = some i ∧ N[i]? = some x ∧ sc.names.lookup x = some .local)
    (hb : ∀ (X' : Cx) (W' : WX), Good X' G (some n) N sc W' → TopX X' → PSs X' body (rdS G B W' (evSs ib)))
    (hs : ∀ (X' : Cx) (B' : Fr0), Good X' G none N sc (fun _ _ _ _ => False) → (nm.isSome = true → SuiX X' B') → PSs X' (b₀ :: suite) (rdS G B' (fun _ _ _ _ => False) (evSs ih))) :
    PS X (.Try body [.ExceptHandler (some (.Name c np)) nm (b₀ :: suite) pos'] [] [] pos) (rdS G B W (evS (.tryS ib yes no oi ih))) := by
  have gT : ∀ (W' : WX) (pn : List (Addr × Obj)) (xe : Value → Shared → Prop), Takes (X.tr pn xe) W' → Good (X.tr pn xe) G (some n) N sc W' := fun W' pn xe tk =>
    ⟨g.hP, g.hw, g.hb, g.hK, g.hmg, g.hN, g.nd, g.hsc, g.calm, g.room, g.un, fun _ => tk⟩
  have tT : ∀ (pn : List (Addr × Obj)) (xe : Value → Shared → Prop), PassesOwn (model X.prog X.w) X.A X.env xe → TopX (X.tr pn xe) := fun pn xe pp => ⟨Tx.fn, pp, Tx.stk, Tx.frm⟩
  have gS : ∀ (a : Addr) (pn : List (Addr × Obj)), Good (X.suite a pn) G none N sc (fun _ _ _ _ => False) := fun a pn =>
    ⟨g.hP, g.hw, g.hb, g.hK, g.hmg, g.hN, g.nd, g.hsc, fun z => (by cases z), fun _ z => (by cases z), g.un, fun z => (by cases z)⟩
  have ey : ∀ {cls : Value} {d : Option Addr} {c : Str} {ns : List Str} {ts : List T} {F : Hp}, yes.contains c = true → ExR G F cls d c ns ts → PySem.W.exmOne X.K cls cv = some true := fun {cls d c ns ts F} hm r => by
    obtain ⟨C, rfl, h2, _⟩ := r
    rw [g.hK]
    exact hy c (by simpa using hm) C h2
  have en : ∀ {cls : Value} {d : Option Addr} {c : Str} {ns : List Str} {ts : List T} {F : Hp}, no.contains c = true → ExR G F cls d c ns ts → PySem.W.exmOne X.K cls cv = some false := fun {cls d c ns ts F} hm r => by
    obtain ⟨C, rfl, h2, _⟩ := r
    rw [g.hK]
    exact hn c (by simpa using hm) C h2
  rcases hnm with ⟨rfl, rfl⟩ | ⟨x, i, rfl, rfl, hi, hl⟩
  · refine PS.imp (ps_try_only Tx.stk Tx.frm hc (g.tk rfl) (tb := fun W' => rdS G B W' (evSs ib)) (ts := fun _ _ _ => rdS G B (fun _ _ _ _ => False) (evSs ih)) (fun W' pn xe tk pp => hb _ W' (gT W' pn xe tk) (tT pn xe pp))
      (fun a oe cls d pn hz hf => hs _ _ (gS a _) (fun z => by cases z))) fun D σ H hq => ?_
    obtain ⟨F, s, sr, p⟩ := hq
    simp only [evS] at p
    refine ⟨F, s, sr, ?_⟩
    cases h : evSs ib s with
    | nx s1 => rw [h] at p; exact p
    | brk s1 => rw [h] at p; exact p
    | cnt s1 => rw [h] at p; exact p
    | ret t s1 => rw [h] at p; exact p
    | retF t s1 => rw [h] at p; exact p
    | bad => rw [h] at p; exact p
    | ex c' ns ts s1 =>
      rw [h] at p
      simp only at p
      intro cls d σ' F' H' e sr' r
      split at p
      · rename_i hm
        refine ⟨true, ey hm r, fun _ a hn => ⟨F', s1, sr', ?_⟩, fun z => by cases z⟩
        have q := p.up e
        cases hh : evSs ih s1 with
        | ex c2 ns2 ts2 s2 => rw [hh] at q; exact q.elim
        | nx _ => rw [hh] at q; exact q
        | brk _ => rw [hh] at q; exact q
        | cnt _ => rw [hh] at q; exact q
        | ret _ _ => rw [hh] at q; exact q
        | retF _ _ => rw [hh] at q; exact q
        | bad => rw [hh] at q; exact q
      · split at p
        · rename_i hm2
          exact ⟨false, en hm2 r, fun z => (by cases z), fun _ => p cls d σ' F' H' e sr' r⟩
        · exact p.elim
  · refine PS.imp (ps_try_as Tx.stk Tx.frm (by rw [g.hN]; exact g.nd) (by rw [g.hN]; exact hi) (show X.env.scope.names.lookup x = some .local by rw [g.hsc]; exact hl) hc (g.tk rfl) (tb := fun W' => rdS G B W' (evSs ib))
      (ts := fun a cls d => rdS G { B with xa := some (a, cls, d) } (fun _ _ _ _ => False) (evSs ih)) (fun W' pn xe tk pp => hb _ W' (gT W' pn xe tk) (tT pn xe pp))
      (fun a oe cls d pn hz hf => hs _ _ (gS a _) (fun _ => ⟨X, a, oe, cls, d, pn, rfl, rfl, hz, hf⟩))) fun D σ H hq => ?_
    obtain ⟨F, s, sr, p⟩ := hq
    simp only [evS] at p
    refine ⟨F, s, sr, ?_⟩
    cases h : evSs ib s with
    | nx s1 => rw [h] at p; exact p
    | brk s1 => rw [h] at p; exact p
    | cnt s1 => rw [h] at p; exact p
    | ret t s1 => rw [h] at p; exact p
    | retF t s1 => rw [h] at p; exact p
    | bad => rw [h] at p; exact p
    | ex c' ns ts s1 =>
      rw [h] at p
      simp only at p
      intro cls d σ' F' H' e sr' r
      split at p
      · rename_i hm
        split at p
        · exact p.elim
        · rename_i hmp
          exact ⟨true, ey hm r, fun _ a hn => ⟨F', s1.set i (.xc c' ns ts), sr'.setXc hB (isMp_lt (by simpa using hmp)) r, leave_post (p.up e)⟩, fun z => by cases z⟩
      · split at p
        · rename_i hm2
          exact ⟨false, en hm2 r, fun z => (by cases z), fun _ => p cls d σ' F' H' e sr' r⟩
        · exact p.elim
end
end FL

/-! FL22: raise, calls with keywords. -/
namespace FL
open PySem PySem.Spec L2
theorem selV_len {α : Type} : ∀ {sel : List (Str × Nat)} {ts us : List α}, selV sel ts = some us → us.length = sel.length
  | [], ts, us, h => by simp [selV] at h; subst h; rfl
  | p :: r, ts, us, h => by
    unfold selV at h
    rw [List.mapM_cons] at h
    cases e : ts[p.2]? with
    | none => simp [e] at h
    | some t =>
      cases e2 : r.mapM fun p => ts[p.2]? with
      | none => simp [e, e2] at h
      | some z =>
        simp [e, e2] at h
        subst h
        simp [selV_len (show selV r ts = some z from e2)]
theorem reps_get {G : Gx} {F : Hp} : ∀ {vs : List V} {ts : List T} {i : Nat} {t : T}, Reps G F vs ts → ts[i]? = some t → ∃ v, vs[i]? = some v ∧ Rep G F v t
  | vs, [], i, t, r, h => by simp at h
  | vs, u :: ts, 0, t, r, h => by
    simp only [Reps] at r
    obtain ⟨v, vr, rfl, r1, r2⟩ := r
    simp at h
    subst h
    exact ⟨v, rfl, r1⟩
  | vs, u :: ts, i + 1, t, r, h => by
    simp only [Reps] at r
    obtain ⟨v, vr, rfl, r1, r2⟩ := r
    simp only [List.getElem?_cons_succ] at h ⊢
    exact reps_get r2 h
theorem selV_reps {G : Gx} {F : Hp} {vs : List V} {ts : List T} (r : Reps G F vs ts) : ∀ {sel : List (Str × Nat)} {us : List T}, selV sel ts = some us → ∃ ws, selV sel vs = some ws ∧ Reps G F ws us
  | [], us, h => by simp [selV] at h; subst h; exact ⟨[], by simp [selV], by simp [Reps]⟩
  | p :: rest, us, h => by
    unfold selV at h
    rw [List.mapM_cons] at h
    cases e : ts[p.2]? with
    | none => simp [e] at h
    | some t =>
      cases e2 : rest.mapM fun p => ts[p.2]? with
      | none => simp [e, e2] at h
      | some z =>
        simp [e, e2] at h
        subst h
        obtain ⟨v, h1, h2⟩ := reps_get r e
        obtain ⟨ws, h3, h4⟩ := selV_reps r (show selV rest ts = some z from e2)
        refine ⟨v :: ws, ?_, Reps.cons h2 h4⟩
        unfold selV at h3 ⊢
        rw [List.mapM_cons, h1, h3]
        rfl
/-- what the module's names and the written part say of an exception's class -/
structure ExcOk (G : Gx) (c : Str) (np : Nat) (sel : List (Str × Nat)) : Prop where
  ex : ∃ C fI cc fd ps xs fs, SupC G.P G.K C fI cc fd ps xs fs ∧ G.mg c = some (.ref C) ∧ PySem.W.keepIn G.K (.ref C) = true ∧ ps.length = np + 1 ∧ ps.length ≤ 1000 ∧ sel = selOf fs ∧ (∀ a ∈ fs, 0 < a.i) ∧ G.mg "super" = none
section
variable {X : Cx} {G : Gx} {B : Fr0} {W : WX} {k : Option Nat} {N : List Str} {sc : Scope} {pos : Pos} {F F' H : Hp} {σ : L2.St} {s : Sls}
variable {a b c e : Expr} {ea eb ec : E} {es : List Expr} {D D' : Ends} {i : Nat} {x : Str} {px : Pos}
theorem rd_rai {c : Str} {np : Nat} {sel : List (Str × Nat)} {fs : Es} {C : Addr} (hm : G.mg c = some (.ref C)) (h : rdS G B W (evS (.rai c np sel fs)) D σ H) : tMkX C np sel (rd G B W (relEs G) (evEs fs)) σ H fun cls d H' => W cls d σ H' := by
  simp only [evS] at h
  have h := rd_so (rel := relEs G) h
  obtain ⟨F, s, sr, p⟩ := h
  refine ⟨F, s, sr, p.mono ?_⟩
  rintro vs H1 ⟨ts, F1, s1, sr1, r, p1⟩
  simp only [relEs] at r
  split at p1
  · rename_i hl
    cases hs : selV sel ts with
    | none => rw [hs] at p1; exact p1.elim
    | some us =>
      rw [hs] at p1
      obtain ⟨ws, h1, h2⟩ := selV_reps r hs
      refine ⟨by rw [r.length, hl], ws, h1, fun e => ?_, fun ne d hd => ?_⟩
      · subst e
        have : us = [] := List.length_eq_zero_iff.mp (selV_len hs)
        subst this
        exact p1 (.ref C) none σ F1 H1 (.refl _) sr1 ⟨C, rfl, hm, .inl ⟨rfl, rfl, rfl⟩⟩
      · have gr := Grow.laid (o := .xd ((sel.map (·.1)).zip ws)) sr1.sub hd
        exact p1 (.ref C) (some d) σ _ _ gr.ff (sr1.grow gr) ⟨C, rfl, hm, .inr ⟨d, ws, rfl, upd_same, by rw [selV_len h1, List.length_map], Reps.mono gr.ff _ _ h2⟩⟩
  · exact p1.elim
theorem s_rai {n : Nat} (g : Good X G (some (n + 2)) N sc W) {c : Str} {np : Nat} {sel : List (Str × Nat)} {fs : Es} {p p2 : Pos} (ok : ExcOk G c np sel) (hl : sc.names.lookup c = some .globalImplicit) (hdb : (c == ("__debug__" : Str)) = false)
    (ha : PA X (e :: es) (rd G B W (relEs G) (evEs fs))) (he : starEach (e :: es) X.env = (false, eval e X.env) :: starEach es X.env) (hpl : (backTo p2 (starEach es X.env)).any (·.1) = false) :
    PS X (.Raise (some (.Call (.Name c p) (e :: es) [] p2)) none pos) (rdS G B W (evS (.rai c np sel fs))) := by
  obtain ⟨C, fI, cc, fd, ps, xs, fz, S, h1, h2, h3, h4, rfl, h6, h7⟩ := ok.ex
  have hg : Gl X c := show X.env.scope.names.lookup c = some .globalImplicit by rw [g.hsc]; exact hl
  refine PS.imp (ps_raise (g.calm rfl) (g.tk rfl) (pmk_sup (k := n) (C := C) (by rw [g.hP, g.hK]; exact S) (by rw [g.hmg]; exact h7) (by rw [g.hK]; exact h2) (g.room _ rfl) h6 hg (by rw [g.hmg]; exact h1) h4 ha hdb he hpl)) fun D σ H hq => ?_
  have z := rd_rai h1 hq
  rw [show ps.length - 1 = np by omega]
  exact z
theorem s_rai0 {n : Nat} (g : Good X G (some (n + 2)) N sc W) {c : Str} {sel : List (Str × Nat)} {p p2 : Pos} (ok : ExcOk G c 0 sel) (hl : sc.names.lookup c = some .globalImplicit) (hdb : (c == ("__debug__" : Str)) = false) :
    PS X (.Raise (some (.Call (.Name c p) [] [] p2)) none pos) (rdS G B W (evS (.rai c 0 sel .nil))) := by
  obtain ⟨C, fI, cc, fd, ps, xs, fz, S, h1, h2, h3, h4, rfl, h6, h7⟩ := ok.ex
  have hg : Gl X c := show X.env.scope.names.lookup c = some .globalImplicit by rw [g.hsc]; exact hl
  refine PS.imp (ps_raise (g.calm rfl) (g.tk rfl) (pmk_sup0 (k := n) (C := C) (by rw [g.hP, g.hK]; exact S) (by rw [g.hmg]; exact h7) (by rw [g.hK]; exact h2) (g.room _ rfl) h6 hg (by rw [g.hmg]; exact h1) h3 hdb)) fun D σ H hq => ?_
  obtain ⟨F, s, sr, p⟩ := rd_rai h1 hq
  rw [show ps.length - 1 = 0 by omega]
  simp only [evEs] at p
  exact p [] F H (.refl _) sr (by simp only [relEs, Reps])

/-! ### calls with keywords -/
structure HasFnK (G : Gx) (k : Nat) (g : FS) (np : Nat) (ks : List Str) (ar : List AK) : Prop where
  ex : ∃ (f : Addr) (fd : FuncData) (ps : List Str) (gA : List Value → List Value → List Value) (gV : List V → List V → List V), G.mg g.name = some (.ref f) ∧ FnOk G.P G.w G.K G.mg G.base (L2.CX G.P G.w) k f fd ps (spF G g) ∧ PySem.W.keepIn G.K (.ref f) = true ∧
    KBn G.K fd ps np ks gA gV ∧ ∀ (F : Hp) (vs zs : List V) (ts us rs : List T), Reps G F vs ts → Reps G F zs us → ts.length = np → us.length = ks.length → arr ts us ar = some rs → Reps G F (gV vs zs) rs
theorem start_im {F H : Hp} {vs : List V} {ts : List T} (r : Reps G F vs ts) (sub : Same F H) : ∃ s0, startS none ts 0 = some s0 ∧ SR G ⟨H, none, F, none⟩ F H (vs.map some) s0 :=
  ArgR.start ⟨r.length, fun i t e _ => reps_get r e, fun i t e z => by cases z⟩ sub fun a z => by cases z
inductive KwR (X : Cx) (G : Gx) (B : Fr0) (W : WX) : List Keyword → Es → Prop
  | nil : KwR X G B W [] .nil
  | cons {e : Expr} {ee : E} {nm : Option Str} {p : Pos} {ks : List Keyword} {fs : Es} : PE X e (rdE G B W ee) → KwR X G B W ks fs → KwR X G B W (⟨nm, e, p⟩ :: ks) (.cons ee fs)
theorem PK.imp {ks : List Keyword} {t t' : TA} (h : PK X ks t) (k : ∀ σ H Q, t' σ H Q → t σ H Q) : PK X ks t' := ⟨fun p pins s σ H Q I hw => h.run p pins s σ H Q I (k σ H Q hw)⟩
theorem kw_pk {ks : List Keyword} {fs : Es} (h : KwR X G B W ks fs) : PK X ks (rd G B W (relEs G) (evEs fs)) := by
  induction h with
  | nil =>
    refine PK.imp pk_nil fun σ H Q hq => ?_
    obtain ⟨F, s, sr, p⟩ := hq
    simp only [evEs] at p
    exact p [] F H (.refl _) sr (by simp only [relEs, Reps])
  | cons he _ ih =>
    refine PK.imp (pk_cons he ih) fun σ H Q hq => ?_
    obtain ⟨F, s, sr, p⟩ := hq
    simp only [evEs] at p
    refine ⟨F, s, sr, (Pst.bind p).mono ?_⟩
    rintro x H1 ⟨tx, F1, s1, e1, sr1, rx, p1⟩
    refine ⟨F1, s1, sr1, (Pst.bind p1).mono ?_⟩
    rintro xs H2 ⟨txs, F2, s2, e2, sr2, rxs, p2⟩
    exact p2 (x :: xs) F2 H2 (.refl _) sr2 (Reps.cons (Rep.mono e2 _ _ rx) rxs)
theorem q_callK {n np : Nat} (g : Good X G (some n) N sc W) {f : FS} {fs gs : Es} {ar : List AK} {x : Str} {p : Pos} {kws : List Keyword} {ks : List Str} (hx : f.name = x) (hf : HasFnK G n f np ks ar) (hl : sc.names.lookup x = some .globalImplicit) (hd : (x == ("__debug__" : Str)) = false)
    (h : PA X (a :: es) (rd G B W (relEs G) (evEs fs))) (hn : ∀ s ts s', evEs fs s = .ok ts s' → ts.length = np) (hk : KwR X G B W kws gs) (hkn : ∀ s ts s', evEs gs s = .ok ts s' → ts.length = ks.length)
    (hall : (backToKw pos (keywordEach kws X.env)).all (·.1.isSome) = true) (hks : (backToKw pos (keywordEach kws X.env)).filterMap (·.1) = ks)
    (he : starEach (a :: es) X.env = (false, eval a X.env) :: starEach es X.env) (hpl : ((backTo pos (starEach (a :: es) X.env)).any (·.1) || (backToKw pos (keywordEach kws X.env)).any (·.1.isNone)) = false) :
    PE X (.Call (.Name x p) (a :: es) kws pos) (rdE G B W (.callK f fs gs ar)) := by
  subst hx
  obtain ⟨fa, fd, ps, gA, gV, h1, h2, h3, h4, h5⟩ := hf.ex
  have hg : Gl X f.name := show X.env.scope.names.lookup f.name = some .globalImplicit by rw [g.hsc]; exact hl
  refine PE.imp (pe_callN (CX := L2.CX X.prog X.w) (k := n) (n := np) (fd := fd) (ps := ps) (ks := ks) (E := fun _ _ _ => False) (by rw [g.hP, g.hw, g.hK, g.hmg, g.hb]; exact h2) (g.room n rfl) hg (by rw [g.hmg]; exact h1) (by rw [g.hK]; exact h3) (by rw [g.hK]; exact h4)
    (passes_call (g.tk rfl) fun _ _ _ _ z => z.elim) h (kw_pk hk) hall hks hd he hpl) fun σ H Q hq => ?_
  obtain ⟨F, s, sr, p⟩ := hq
  simp only [evE] at p
  split at p
  · exact p.elim
  · rename_i hfm
    refine ⟨F, s, sr, ?_⟩
    have hlen := hn s
    cases e0 : evEs fs s with
    | bad => rw [e0] at p; exact p.elim
    | ex c ns ts s1 => rw [e0] at p; exact p
    | ok ts s1 =>
      rw [e0] at p
      have hl1 := hlen _ _ e0
      intro vs F1 H1 sF1 sr1 rv
      have p1 := p.up sF1
      simp only [relEs] at rv
      refine ⟨F1, s1, sr1, ?_⟩
      simp only [Rs.bind] at p1
      have hlen2 := hkn s1
      cases e2 : evEs gs s1 with
      | bad => rw [e2] at p1; exact p1.elim
      | ex c ns ts s1 => rw [e2] at p1; exact p1
      | ok us s2 =>
        rw [e2] at p1
        simp only at p1
        have hl2 := hlen2 _ _ e2
        intro zs F2 H2 sF2 sr2 rz
        have p2 := p1.up sF2
        simp only [relEs] at rz
        cases ea : arr ts us ar with
        | none => rw [ea] at p2; exact p2.elim
        | some rs =>
          rw [ea] at p2
          simp only at p2
          have rr := h5 F2 vs zs ts us rs (Reps.mono sF2 _ _ rv) rz hl1 hl2 ea
          have hmu : f.mu = none := by
            cases hm : f.mu with
            | none => rfl
            | some _ => rw [hm] at hfm; simp at hfm
          have hfr : f.fresh = false := by
            cases hm : f.fresh with
            | false => rfl
            | true => rw [hm] at hfm; simp at hfm
          obtain ⟨s0, k1, k2⟩ := start_im rr sr2.sub
          refine ⟨rv.length.trans hl1, rz.length.trans hl2, F2, rs, s0, none, by rw [hmu]; exact k1, k2, fun _ => rfl, ?_⟩
          cases hs : f.sem rs with
          | bad => rw [hs] at p2; exact p2.elim
          | ex _ _ _ _ => rw [hs] at p2; exact p2.elim
          | ok t o =>
            rw [hs] at p2
            intro v F' H' cp r
            unfold RetR at r
            rw [hfr, if_neg Bool.false_ne_true] at r
            have gr : Grow F2 H2 F' H' := ⟨cp.ff, cp.sub, fun b u q => cp.fr b u q (fun z => by cases z), cp.new⟩
            exact p2 v F' H' cp.ff (sr2.grow gr) r
end
end FL

/-! FL23: the head's facts: defs, exceptions with super().__init__. -/
namespace FL
open PySem PySem.Spec L2
open PySem.W (Frag)
/-- an exception's class: its name, its __init__ -/
structure XcD where
  c : Str
  name : Str
  qual : Str
  params : Arguments
  scope : Scope
  ps : List Str
  slf : Str
  xs : List XA
  fs : List XF
  p0 : Pos
  p1 : Pos
  p2 : Pos
  p3 : Pos
  p4 : Pos
abbrev FnXc : Type := Option (Str × Str × Arguments × FuncBody × Scope × Addr × List Str × Addr)
def XcD.val (x : XcD) : FnXc := some (x.name, x.qual, x.params, .stmts (supBody x.slf x.xs x.fs x.p0 x.p1 x.p2 x.p3 x.p4), x.scope, mainGlobals, ["__class__"], builtinsNs)
def xcI (K : Frag) (c : Str) : Addr := He.ma K (He.ga K c) "__init__"
def fnX (K : Frag) (c : Str) : FnXc := match K.lookup (xcI K c) with
  | some ⟨_, _, .func fd, _⟩ => some (fd.name, fd.qualname, fd.params, fd.body, fd.scope, fd.globals, fd.closure.map (·.1), fd.builtins)
  | _ => none
def oexB (K : Frag) (C : Addr) : Bool := match K.lookup C with
  | some ⟨.type "type", _, .cls cd, sl⟩ => (match cd.mro, sl.toList with
    | .ref C' :: bm, [_, _, _, _, some (.builtin n), _] => C' == C && (n == "ValueError.__new__" && (!cd.hasDel && (cd.hasDict && PySem.HandSPX.refsVE bm)))
    | _, _ => false)
  | _ => false
theorem oexB_ok {K : Frag} {C : Addr} (h : oexB K C = true) : ∃ nm q N bs bm sn sub ab col dd k0 k1 k2 k3 k5, K.lookup C = some (excClassObj nm q C N bs bm true sn sub ab col dd k0 k1 k2 k3 k5 "ValueError.__new__") ∧ PySem.HandSPX.refsVE bm = true := by
  unfold oexB at h
  split at h
  · rename_i dd cd sl ho
    split at h
    · rename_i C' bm k0 k1 k2 k3 n k5 hm hs
      simp only [Bool.and_eq_true, beq_iff_eq, Bool.not_eq_true'] at h
      obtain ⟨rfl, rfl, hdel, hdi, hv⟩ := h
      obtain ⟨nm, bs, mro, ns, qn, hd, sn, sub, ab, col, del⟩ := cd
      dsimp only at hm hdel hdi
      subst hm hdel hdi
      have hsl : sl = #[k0, k1, k2, k3, some (.builtin "ValueError.__new__"), k5] := by
        obtain ⟨l⟩ := sl
        simp only at hs
        rw [hs]
      subst hsl
      exact ⟨nm, qn, ns, bs, bm, sn, sub, ab, col, dd, k0, k1, k2, k3, k5, ho, hv⟩
    · cases h
  · cases h
def cellB (K : Frag) (C : Addr) : List (Str × Addr) → Bool
  | [(_, cc)] => (match K.lookup cc with
    | some ⟨_, _, .cell (some (.ref C')), _⟩ => C' == C
    | _ => false)
  | _ => false
def fileB (P : Program) (K : Frag) : Value → Bool
  | .ref cd => (match K.lookup cd with
    | some ⟨_, _, .fields vs, _⟩ => (match vs.toList with
      | _ :: _ :: .str file _ :: _ => (P.main.file : Str) == file
      | _ => false)
    | _ => false)
  | _ => false
theorem cellB_ok {K : Frag} {C : Addr} {n : Str} {cc : Addr} (h : cellB K C [(n, cc)] = true) : ∃ o, K.lookup cc = some o ∧ o.data = .cell (some (.ref C)) := by
  unfold cellB at h
  simp only at h
  split at h
  · rename_i hh
    exact ⟨_, hh, by rw [beq_iff_eq.mp h]⟩
  · cases h
theorem fileB_ok {P : Program} {K : Frag} {v : Value} (h : fileB P K v = true) : ∃ (cd : Addr) (o : Obj) (vs : Array Value) (file : Str) (tf : Tok), v = .ref cd ∧ K.lookup cd = some o ∧ o.data = .fields vs ∧ vs[2]? = some (.str file tf) ∧ ((P.main.file : Str) == file) = true := by
  unfold fileB at h
  split at h
  · rename_i cd
    split at h
    · rename_i vs _ hcd
      split at h
      · rename_i b0 b1 file tf rr hv0
        exact ⟨cd, _, vs, file, tf, rfl, hcd, rfl, by rw [← Array.getElem?_toList, hv0]; rfl, h⟩
      · cases h
    · cases h
  · cases h
def noneB : Value → Bool
  | .none => true
  | _ => false
def initB (P : Program) (K : Frag) (qual : Str) (C fI : Addr) : Bool := match K.lookup fI with
  | some ⟨_, _, .func fd, _⟩ => PySem.W.codeIn K fd.code qual && (noneB fd.defaults && (cellB K C fd.closure && fileB P K fd.code))
  | _ => false
/-- the checks of an exception's class -/
def xcB (P : Program) (K : Frag) (x : XcD) : Bool :=
  let C := He.ga K x.c
  oexB K C && (He.eqO (PySem.W.findIn K (.ref C) "__setattr__") (some (some (.builtin "object.__setattr__"))) && (decide (PySem.W.subIn K (.ref C) (.type "BaseException") = some true) && (decide (PySem.W.typeIn K (.ref C) = some (.type "type")) &&
  (PySem.W.keepIn K (.ref C) && (He.eqO (PySem.W.findIn K (.ref C) "__init__") (some (some (.ref (xcI K x.c)))) && (decide (PySem.W.typeIn K (.ref (xcI K x.c)) = some (.type "function")) &&
  (He.eqO (PySem.W.ks_superIn K C C "__init__") (some (some (.builtin "ValueError.__init__"))) && (decide (PySem.W.subIn K (.ref C) (.type "ValueError") = some true) && (He.eqO (PySem.W.nsIn K PySem.cStatics "thirdparty.any") (some none) &&
  (He.eqO (PySem.W.nsIn K mainGlobals x.c) (some (some (.ref C))) && (xfB K C && ((x.fs.all fun a => He.eqO (PySem.W.findIn K (.ref C) a.f) (some none)) && initB P K x.qual C (xcI K x.c)))))))))))))
/-- what is plain in the text -/
structure XcT (P : Program) (x : XcD) : Prop where
  kind : x.scope.kind = .function
  co : x.scope.isCoroutine = false
  gen : x.scope.isGenerator = false
  nd : x.ps.Nodup
  loc : ∀ y ∈ x.ps, x.scope.names.lookup y = some .local
  nc : ∀ y ∈ x.scope.names, y.2 ≠ .cell
  fr : ∀ y ∈ x.scope.names, y.2 = .free → y.1 = "__class__"
  hsu : x.scope.names.lookup ("super" : Str) = some .globalImplicit
  hkc : x.scope.names.lookup ("__class__" : Str) = some .free
  har : ∃ ar, (x.params.posonlyargs ++ x.params.args).head? = some ar ∧ x.ps[0]? = some ar.arg ∧ (ar.arg == ("__debug__" : Str)) = false
  top : (P.main.scope.names.lookup ("super" : Str)).isSome = false
  xs : x.xs.all (XA.ok x.ps x.scope.names) = true
  fs : x.fs.all (XF.ok x.ps x.scope.names) = true
  ev : EvSup x.xs x.p0 x.p1 x.p2 x.p3
  bind : ∀ (kV doc pm cdv ct : Value) (an : Option Addr) (cc : Addr) (us : List Value), us.length = x.ps.length →
    bindArgs (fnOfC x.name x.qual x.params (supBody x.slf x.xs x.fs x.p0 x.p1 x.p2 x.p3 x.p4) x.scope .none kV doc pm an cdv ct cc) ⟨us, []⟩ = pure (x.ps.zip us)
  xs0 : 0 < x.xs.length
  few : x.fs.length ≤ 100 ∧ x.xs.length ≤ 100
theorem supC_of {P : Program} {K : Frag} {x : XcD} (T : XcT P x) (h : xcB P K x = true) (e : fnX K x.c = x.val) : ∃ cc fd, SupC P K (He.ga K x.c) (xcI K x.c) cc fd x.ps x.xs x.fs := by
  unfold xcB at h
  obtain ⟨h1, h⟩ := He.ba h
  obtain ⟨h2, h⟩ := He.ba h
  obtain ⟨h3, h⟩ := He.ba h
  obtain ⟨h4, h⟩ := He.ba h
  obtain ⟨h5, h⟩ := He.ba h
  obtain ⟨h6, h⟩ := He.ba h
  obtain ⟨h7, h⟩ := He.ba h
  obtain ⟨h8, h⟩ := He.ba h
  obtain ⟨h9, h⟩ := He.ba h
  obtain ⟨h10, h⟩ := He.ba h
  obtain ⟨h11, h⟩ := He.ba h
  obtain ⟨h12, h⟩ := He.ba h
  obtain ⟨h12, h⟩ := He.ba h
  unfold initB at h
  unfold fnX at e
  cases q : K.lookup (xcI K x.c) with
  | none => rw [q] at h; cases h
  | some o =>
    obtain ⟨oc, od, dt, osl⟩ := o
    rw [q] at h e
    cases dt with
    | func fd =>
      obtain ⟨n1, n2, n3, n4, n5, n6, n7, n8, n9, n10, n11, n12, n13, n14, n15⟩ := fd
      have e2 : (some (n1, n2, n3, n4, n5, n6, n7.map (·.1), n15) : FnXc) = some (x.name, x.qual, x.params, FuncBody.stmts (supBody x.slf x.xs x.fs x.p0 x.p1 x.p2 x.p3 x.p4), x.scope, mainGlobals, [("__class__" : Str)], builtinsNs) := e
      simp only [Option.some.injEq, Prod.mk.injEq] at e2
      obtain ⟨g1, g2, g3, g4, g5, g6, g7, g8⟩ := e2
      subst g1 g2 g3 g4 g5 g6 g8
      obtain ⟨k1, k⟩ := He.ba (show (PySem.W.codeIn K n13 x.qual && _) = true from h)
      obtain ⟨k2, k⟩ := He.ba k
      obtain ⟨k3, k4⟩ := He.ba k
      obtain ⟨yn, cc, rfl⟩ : ∃ yn cc, n7 = [(yn, cc)] := by
        cases n7 with
        | nil => cases g7
        | cons y r => cases r with
          | cons _ _ => simp at g7
          | nil => exact ⟨y.1, y.2, rfl⟩
      have g9 : yn = ("__class__" : Str) := by
        have := congrArg List.head? g7
        simpa using this
      subst g9
      have d0 : n8 = .none := by
        have k2 : noneB n8 = true := k2
        unfold noneB at k2
        cases n8 <;> first | rfl | cases k2
      subst d0
      obtain ⟨cd, o2, vs, file, tf, rfl, hcd, hcd2, hv, hf⟩ := fileB_ok k4
      obtain ⟨ar, a1, a2, a3⟩ := T.har
      refine ⟨cc, _, ⟨oexB_ok h1, He.eqO_ok h2, of_decide_eq_true h3, of_decide_eq_true h4, h5⟩, He.eqO_ok h6, of_decide_eq_true h7, He.eqO_ok h8, of_decide_eq_true h9, He.eqO_ok h10,
        ⟨oc, od, osl, x.name, x.qual, x.params, x.scope, .none, n9, n10, n11, n12, cd, n14, x.slf, x.p0, x.p1, x.p2, x.p3, x.p4, ar, vs, _, file, tf, rfl, q, k1, T.kind, T.co, T.gen, T.nd, T.loc, T.nc, fun y hy => T.fr _ (PySem.mem_of_lookup hy) rfl, T.hsu, T.hkc, a1, a2, hcd, hcd2, hv, hf, T.top, T.xs, T.fs, a3, T.ev⟩,
        cellB_ok k3, .all fun us hl => T.bind _ _ _ _ _ _ _ us hl, T.xs0, fun a m => He.eqO_ok (List.all_eq_true.mp h12 a m), T.few⟩
    | _ => cases h
end FL

/-! FL24: the head's hook; the rules as a program prints them. -/
namespace FL
open PySem PySem.Spec L2
open PySem.W (Frag)
/-! ### the hook -/
abbrev AlX : Type := He.AlD × (Bool × List FnXc)
def obsXK (P : Program) (fa : List He.Fa) (fn : List He.DefD) (xs : List XcD) (chk : Frag → Bool) (K : Frag) : AlX := (He.obsD fa fn K, ((xs.all fun x => xcB P K x) && chk K, xs.map fun x => fnX K x.c))
def valX (fn : List He.DefD) (xs : List XcD) : AlX := (He.valD fn, (true, xs.map XcD.val))
def SaysX (P : Program) (fa : List He.Fa) (fn : List He.DefD) (xs : List XcD) (chk : Frag → Bool) (K : Frag) : Prop := obsXK P fa fn xs chk K = valX fn xs
def obsXG (P : Program) (n : Nat) (fa : List He.Fa) (fn : List He.DefD) (xs : List XcD) (chk : Frag → Bool) (g : Addr → Option Obj) : AlX := obsXK P fa fn xs chk (He.frG g (PySem.cStatics :: He.asD g n))
def hookX (P : Program) (n : Nat) (fa : List He.Fa) (fn : List He.DefD) (xs : List XcD) (chk : Frag → Bool) : PySem.W.Hook where
  α := AlX
  obs := fun s => obsXG P n fa fn xs chk s.heap.get?
  val := fun _ => valX fn xs
  says := fun _ h => ∃ K : Frag, K.In h ∧ SaysX P fa fn xs chk K
  of := fun _ _ e => ⟨_, He.frG_in, e⟩
  keeps := fun _ _ _ ⟨K, hK, c⟩ k => ⟨K, PySem.W.Frag.In.keeps hK k, c⟩
theorem obsXG_eq {P : Program} {n : Nat} {fa : List He.Fa} {fn : List He.DefD} {xs : List XcD} {chk : Frag → Bool} {g : Addr → Option Obj} {s : Shared} (h : ∀ a, g a = s.heap.get? a) : obsXG P n fa fn xs chk g = (hookX P n fa fn xs chk).obs s := by
  have e : g = s.heap.get? := funext h
  rw [e] <;> rfl
section
variable {P : Program} {fa : List He.Fa} {fn : List He.DefD} {xs : List XcD} {chk : Frag → Bool} {K : Frag} {h : Heap} {mg : Str → Option Value}
theorem SaysX.D (c : SaysX P fa fn xs chk K) : He.SaysD fa fn K := congrArg (fun z : AlX => z.1) c
theorem SaysX.ck (c : SaysX P fa fn xs chk K) : chk K = true := (He.ba (congrArg (fun z : AlX => z.2.1) c)).2
theorem SaysX.xc (c : SaysX P fa fn xs chk K) (i : Nat) {x : XcD} (h : xs[i]? = some x) : xcB P K x = true ∧ fnX K x.c = x.val := by
  have c1 := (He.ba (show ((xs.all fun x => xcB P K x) && chk K) = true from congrArg (fun z : AlX => z.2.1) c)).1
  have e : (xs.map fun x => fnX K x.c) = xs.map XcD.val := congrArg (fun z : AlX => z.2.2) c
  have e2 : (xs.map fun x => fnX K x.c)[i]? = (xs.map XcD.val)[i]? := by rw [e]
  rw [List.getElem?_map, List.getElem?_map, h] at e2
  exact ⟨List.all_eq_true.mp c1 x (List.mem_of_getElem? h), Option.some.inj e2⟩
theorem xc_mg {x : XcD} (X : K.In h) (Gl : h.Ns mainGlobals mg) (hx : xcB P K x = true) : mg x.c = some (.ref (He.ga K x.c)) := by
  unfold xcB at hx
  obtain ⟨_, hx⟩ := He.ba hx
  obtain ⟨_, hx⟩ := He.ba hx
  obtain ⟨_, hx⟩ := He.ba hx
  obtain ⟨_, hx⟩ := He.ba hx
  obtain ⟨_, hx⟩ := He.ba hx
  obtain ⟨_, hx⟩ := He.ba hx
  obtain ⟨_, hx⟩ := He.ba hx
  obtain ⟨_, hx⟩ := He.ba hx
  obtain ⟨_, hx⟩ := He.ba hx
  obtain ⟨_, hx⟩ := He.ba hx
  obtain ⟨h11, _⟩ := He.ba hx
  exact PySem.W.mg_of X Gl (He.eqO_ok h11)
theorem xc_keep {x : XcD} (hx : xcB P K x = true) : PySem.W.keepIn K (.ref (He.ga K x.c)) = true := by
  unfold xcB at hx
  obtain ⟨_, hx⟩ := He.ba hx
  obtain ⟨_, hx⟩ := He.ba hx
  obtain ⟨_, hx⟩ := He.ba hx
  obtain ⟨_, hx⟩ := He.ba hx
  exact (He.ba hx).1
theorem xc_xf {x : XcD} (hx : xcB P K x = true) : XfC K (He.ga K x.c) ∧ ∀ a ∈ x.fs, PySem.W.findIn K (.ref (He.ga K x.c)) a.f = some none := by
  unfold xcB at hx
  obtain ⟨_, hx⟩ := He.ba hx
  obtain ⟨_, hx⟩ := He.ba hx
  obtain ⟨_, hx⟩ := He.ba hx
  obtain ⟨_, hx⟩ := He.ba hx
  obtain ⟨_, hx⟩ := He.ba hx
  obtain ⟨_, hx⟩ := He.ba hx
  obtain ⟨_, hx⟩ := He.ba hx
  obtain ⟨_, hx⟩ := He.ba hx
  obtain ⟨_, hx⟩ := He.ba hx
  obtain ⟨_, hx⟩ := He.ba hx
  obtain ⟨_, hx⟩ := He.ba hx
  obtain ⟨h1, hx⟩ := He.ba hx
  exact ⟨xfB_ok h1, fun a m => He.eqO_ok (List.all_eq_true.mp (He.ba hx).1 a m)⟩
end
theorem excOk_of {G : Gx} {x : XcD} {h : Heap} (X : G.K.In h) (Gl : h.Ns mainGlobals G.mg) (T : XcT G.P x) (hx : xcB G.P G.K x = true) (e : fnX G.K x.c = x.val) (np : Nat) (hp : x.ps.length = np + 1) (hp2 : x.ps.length ≤ 1000) (sel : List (Str × Nat)) (hs : sel = selOf x.fs)
    (hpos : ∀ a ∈ x.fs, 0 < a.i) (hsup : G.mg "super" = none) : ExcOk G x.c np sel := by
  obtain ⟨cc, fd, S⟩ := supC_of T hx e
  exact ⟨_, _, cc, fd, _, _, _, S, xc_mg X Gl hx, xc_keep hx, hp, hp2, hs, hpos, hsup⟩

/-! ### rows of trees -/
def notStar : Expr → Bool
  | .Starred _ _ => false
  | _ => true
theorem star_of {a : Expr} {es : List Expr} {env : Env} (h : notStar a = true) : starEach (a :: es) env = (false, eval a env) :: starEach es env := by
  cases a <;> first | rfl | cases h
theorem plain_of {pos : Pos} {env : Env} : ∀ {es : List Expr}, es.all notStar = true → (backTo pos (starEach es env)).any (·.1) = false
  | [], _ => rfl
  | a :: es, h => by
    rw [List.all_cons] at h
    obtain ⟨h1, h2⟩ := Bool.and_eq_true_iff.mp h
    rw [star_of h1]
    show (false || (backTo pos (starEach es env)).any (·.1)) = false
    rw [plain_of h2]
    rfl
def notSlice : Expr → Bool
  | .Slice .. => false
  | .Constant .. => true
  | .Name .. => true
  | .BinOp .. => true
  | .UnaryOp .. => true
  | .Subscript .. => true
  | .Call .. => true
  | _ => false
theorem ix_of {b : Expr} (h : notSlice b = true) : PlainIx b := by
  cases b <;> first | (intro _ _; rfl) | cases h

/-! ### names -/
structure Vr (N : List Str) (sc : Scope) (i : Nat) (x : Str) : Prop where
  hi : N[i]? = some x
  hl : Loc sc x
  hd : (x == ("__debug__" : Str)) = false
  hcd : (x == ("__classdict__" : Str)) = false
theorem Vr.vis {N : List Str} {sc : Scope} {i : Nat} {x : Str} (v : Vr N sc i x) : Vis sc x := v.hl.imp id .inl
/-- a comprehension's name that the def holds -/
structure Vf (N : List Str) (sc : Scope) (i : Nat) (x : Str) : Prop where
  hi : N[i]? = some x
  vis : Vis sc x
  hd : (x == ("__debug__" : Str)) = false
  hcd : (x == ("__classdict__" : Str)) = false
theorem Vr.f {N : List Str} {sc : Scope} {i : Nat} {x : Str} (v : Vr N sc i x) : Vf N sc i x := ⟨v.hi, v.vis, v.hd, v.hcd⟩
def vrB (N : List Str) (sc : Scope) (i : Nat) (x : Str) : Bool := decide (N[i]? = some x) && ((match sc.names.lookup x with | some .local => true | some .cell => true | _ => false) && (!(x == ("__debug__" : Str)) && !(x == ("__classdict__" : Str))))
theorem vr_of {N : List Str} {sc : Scope} {i : Nat} {x : Str} (h : vrB N sc i x = true) : Vr N sc i x := by
  unfold vrB at h
  obtain ⟨h1, h⟩ := Bool.and_eq_true_iff.mp h
  obtain ⟨h2, h⟩ := Bool.and_eq_true_iff.mp h
  obtain ⟨h3, h4⟩ := Bool.and_eq_true_iff.mp h
  refine ⟨of_decide_eq_true h1, ?_, by simpa using h3, by simpa using h4⟩
  split at h2 <;> first | exact .inl (by assumption) | exact .inr (by assumption) | cases h2
def vfB (N : List Str) (sc : Scope) (i : Nat) (x : Str) : Bool := decide (N[i]? = some x) && ((match sc.names.lookup x with | some .local => true | some .cell => true | some .free => true | _ => false) && (!(x == ("__debug__" : Str)) && !(x == ("__classdict__" : Str))))
theorem vf_of {N : List Str} {sc : Scope} {i : Nat} {x : Str} (h : vfB N sc i x = true) : Vf N sc i x := by
  unfold vfB at h
  obtain ⟨h1, h⟩ := Bool.and_eq_true_iff.mp h
  obtain ⟨h2, h⟩ := Bool.and_eq_true_iff.mp h
  obtain ⟨h3, h4⟩ := Bool.and_eq_true_iff.mp h
  refine ⟨of_decide_eq_true h1, ?_, by simpa using h3, by simpa using h4⟩
  split at h2 <;> first | exact .inl (by assumption) | exact .inr (.inl (by assumption)) | exact .inr (.inr (by assumption)) | cases h2
structure Gb (sc : Scope) (x : Str) : Prop where
  hl : sc.names.lookup x = some .globalImplicit
  hd : (x == ("__debug__" : Str)) = false
def gbB (sc : Scope) (x : Str) : Bool := (match sc.names.lookup x with | some .globalImplicit => true | _ => false) && !(x == ("__debug__" : Str))
theorem gb_of {sc : Scope} {x : Str} (h : gbB sc x = true) : Gb sc x := by
  unfold gbB at h
  obtain ⟨h1, h2⟩ := Bool.and_eq_true_iff.mp h
  refine ⟨?_, by simpa using h2⟩
  split at h1
  · assumption
  · cases h1
def lcB (sc : Scope) (x : Str) : Bool := match sc.names.lookup x with | some .local => true | _ => false
theorem lc_of {sc : Scope} {x : Str} (h : lcB sc x = true) : sc.names.lookup x = some .local := by
  unfold lcB at h
  split at h
  · assumption
  · cases h
end FL

/-! FL25: comprehensions in place, a def told. -/
namespace FL
open PySem PySem.Spec L2
open PySem.W (Frag)
section
variable {X : Cx} {G : Gx} {B : Fr0} {W : WX} {k : Option Nat} {N : List Str} {sc : Scope} {pos : Pos} {F F' H : Hp} {σ : L2.St} {s : Sls}
variable {a b c e : Expr} {ea eb ec : E} {es : List Expr} {D D' : Ends} {i : Nat} {x : Str} {px : Pos}
theorem Good.blk (g : Good X G k N sc W) {scope : Scope} {s : Shared} {H : Hp} {cl : List (Str × Addr)} {C : Addr} {fp : List Addr} : Good (X.blk s H scope (compEnvC scope cl C X.env) fp) G k N (relS scope sc) W0 :=
  ⟨g.hP, g.hw, g.hb, g.hK, g.hmg, g.hN, g.nd, by rw [← g.hsc]; rfl, g.calm, g.room, g.un, fun _ u s' ⟨_, _, _, _, _, _, _, _, _, _, _, _, _, _, _, _, w⟩ => w.elim⟩
theorem PTs.imp {ifs : List Expr} {t t' : TT} (h : PTs X ifs t) (k : ∀ σ H Q, t' σ H Q → t σ H Q) : PTs X ifs t' := ⟨fun pins s σ H Q I hw => h.run pins s σ H Q I (k σ H Q hw)⟩
theorem t_nil : PTs X [] (rd G B W relC (evTs .nil)) := by
  refine PTs.imp pts_nil fun σ H Q hq => ?_
  obtain ⟨F, s, sr, p⟩ := hq
  simp only [evTs] at p
  exact p true F H (.refl _) sr rfl
theorem t_one {ca : C} (h : PT X c (rdC G B W ca)) : PTs X [c] (rd G B W relC (evTs (.cons ca .nil))) := by
  refine PTs.imp (pts_one h) fun σ H Q hq => ?_
  obtain ⟨F, s, sr, p⟩ := hq
  simp only [evTs] at p
  exact ⟨F, s, sr, p⟩
/-- what stands within a comprehension -/
def InBlk (G : Gx) (k : Option Nat) (N : List Str) (sc scope : Scope) (tg : Expr) (ifs : List Expr) (elt : Expr) (gt : Tg) (cs : Cs) (ee : E) : Prop :=
  ∀ (X' : Cx) (B' : Fr0), Good X' G k N (relS scope sc) W0 → PG X' tg (rdG G B' gt) ∧ PTs X' ifs (rd G B' W0 relC (evTs cs)) ∧ PE X' elt (rdE G B' W0 ee)
theorem q_comp {n : Nat} (g : Good X G (some n) N sc W) {elt tg iter : Expr} {ifs : List Expr} {scope : Scope} {own : List (Str × Nat)} {gt : Tg} {it : It} {cs : Cs} {ee : E} (hi : PI X tg iter (rdI G B W it)) (ok : blkC N sc scope own = true)
    (hb : InBlk G (some n) N sc scope tg ifs elt gt cs ee) (ho : ∀ i ∈ tgS gt, i ∈ own.map (·.2)) (hs : ∀ x, foldedSetIterable iter X.env x = pure x) : PE X (.ListComp elt [⟨tg, iter, ifs, 0⟩] scope pos) (rdM G B W (.comp (own.map (·.2)) gt it cs ee)) := by
  refine PE.imp (pe_lc (g.calm rfl) (by rw [g.hN]; exact g.nd) hi (by rw [g.hN, g.hsc]; exact blkOk_by ok) (fun s H C cl fp => ⟨fun pins s σ H v u Q I r ⟨B', hw⟩ => (hb _ B' g.blk).1.run pins s σ H v u Q I r hw⟩)
    (fun s H C cl fp => ⟨fun pins s σ H Q I ⟨B', hw⟩ => (hb _ B' g.blk).2.1.run pins s σ H Q I hw⟩) (fun s H C cl fp => ⟨fun pins s σ H Q I ⟨B', hw⟩ => (hb _ B' g.blk).2.2.run pins s σ H Q I hw⟩) hs) fun σ H Q hq => rd_comp ho hq
/-- name = [..], the name a local of the def -/
theorem s_setLc {n : Nat} (g : Good X G (some n) N sc W) {y : Str} {py spos : Pos} {elt tg iter : Expr} {ifs : List Expr} {scope : Scope} {own : List (Str × Nat)} {gt : Tg} {it : It} {cs : Cs} {ee : E} (hy : N[i]? = some y) (hyl : sc.names.lookup y = some .local) (hk : sc.kind = .function) (hl : (py.line == pos.line) = true)
    (hn : (scope.names.any fun (n, k) => n == y && (k == .local || k == .cell)) = false) (hi : PI X tg iter (rdI G B W it)) (ok : blkC N sc scope own = true)
    (hb : InBlk G (some n) N sc scope tg ifs elt gt cs ee) (ho : ∀ i ∈ tgS gt, i ∈ own.map (·.2)) (hs : ∀ x, foldedSetIterable iter X.env x = pure x) :
    PS X (.Assign [.Name y py] (.ListComp elt [⟨tg, iter, ifs, 0⟩] scope pos) spos) (rdS G B W (evS (.asgM i (.comp (own.map (·.2)) gt it cs ee)))) :=
  s_asgMC g (ps_setLc (g.calm rfl) (by rw [g.hN]; exact g.nd) (by rw [g.hN]; exact hy) (by rw [g.hsc]; exact hyl) (sw_true (by rw [g.hsc]; exact hk) (by rw [g.hsc]; exact hyl) hl hn) hi (by rw [g.hN, g.hsc]; exact blkOk_by ok) (fun s H C cl fp => ⟨fun pins s σ H v u Q I r ⟨B', hw⟩ => (hb _ B' g.blk).1.run pins s σ H v u Q I r hw⟩)
    (fun s H C cl fp => ⟨fun pins s σ H Q I ⟨B', hw⟩ => (hb _ B' g.blk).2.1.run pins s σ H Q I hw⟩) (fun s H C cl fp => ⟨fun pins s σ H Q I ⟨B', hw⟩ => (hb _ B' g.blk).2.2.run pins s σ H Q I hw⟩) hs) fun σ H Q hq => rd_comp ho hq
end
/-! ### defs -/
/-- a def's body is read so -/
def BodyOk (G : Gx) (k : Nat) (N : List Str) (sc : Scope) (bd : List Stmt) (ir : List S) : Prop := ∀ (X : Cx) (W : WX) (B : Fr0), Good X G (some k) N sc W → TopX X → B.xa = none → PSs X bd (rdS G B W (evSs ir))
section
variable {G : Gx} {x qual : Str} {params : Arguments} {bd : List Stmt} {scope : Scope} {dvs : List V} {kws : List (Str × V)} {f : Addr} {fd : FuncData} {N ps : List Str} {np n k : Nat} {mu : Option Nat} {fresh : Bool} {ir : List S}
theorem hasFn_of {dv : List V} {ds : List T} (F : FunD G.K x qual params bd scope dvs kws f fd) (S : FnScope N ps scope) (hnp : ps.length = np) (hN : N.length = np + n) (hm : G.mg x = some (.ref f)) (hb : BodyOk G k N scope bd ir)
    (b : ∃ dsv, Vals dv dsv ∧ Binds G.K fd ps dsv) (hd : ∀ F : Hp, Reps G F dv ds) : HasFn G (k + 1) (mkFS x np n mu fresh ir) ds := by
  obtain ⟨dsv, b1, b2⟩ := b
  exact ⟨f, fd, ps, dv, dsv, hm, fn_ok F S hnp hN hb, F.kp, b2, b1, hd⟩
theorem HasFn.mono {g : FS} {ds : List T} {j k : Nat} (h : HasFn G j g ds) (l : j ≤ k) : HasFn G k g ds := by
  obtain ⟨f, fd, ps, dvs, dsv, h1, h2, h3⟩ := h.ex
  exact ⟨f, fd, ps, dvs, dsv, h1, h2.mono l, h3⟩
theorem HasFnK.mono {g : FS} {np : Nat} {ks : List Str} {ar : List AK} {j k : Nat} (h : HasFnK G j g np ks ar) (l : j ≤ k) : HasFnK G k g np ks ar := by
  obtain ⟨f, fd, ps, gA, gV, h1, h2, h3⟩ := h.ex
  exact ⟨f, fd, ps, gA, gV, h1, h2.mono l, h3⟩
end
/-- the plain ground: no own classes -/
def mkG (P : Program) (w : World) (base : Heap) (K : Frag) (mg : Str → Option Value) : Gx := ⟨P, w, base, K, mg, fun _ => none⟩
theorem mkG_isi {P : Program} {w : World} {base : Heap} {K : Frag} {mg : Str → Option Value} : IsiOk (mkG P w base K mg) := fun F H x c ns ts _ r => by
  simp only [Rep, mkG] at r
  obtain ⟨_, _, _, _, _, h, _⟩ := r
  cases h
end FL

/-! FL26: a loop over a slot's own list. -/
namespace FL
open PySem PySem.Spec L2
section
variable {X : Cx} {G : Gx} {B : Fr0} {W : WX} {k : Option Nat} {N : List Str} {sc : Scope} {pos : Pos} {F F' H : Hp} {σ : L2.St} {s : Sls}
variable {a b c e : Expr} {ea eb ec : E} {es : List Expr} {D D' : Ends} {i : Nat} {x : Str} {px : Pos} {sts : List Stmt}
/-- the list at a is held -/
def Fr0.hold (B : Fr0) (a : Addr) (vs : List V) : Fr0 := { H0 := upd B.H0 a (.lst vs), pa := B.pa, F0 := B.F0, xa := some (a, .none, none) }
theorem SR.hold {ad : Addr} {vs : List V} {ts : List T} (h : SR G B F H σ s) (hx : B.xa = none) (e : s[i]? = some (.mu ts)) (hs : σ[i]? = some (some (.ref ad))) (hv : H ad = some (.lst vs)) (hF : F ad = none) (h0 : B.H0 ad = none) :
    SR G (B.hold ad vs) F H σ (s.set i (.xc Str.empty [] [])) := by
  have hi : i < s.length := (List.getElem?_eq_some_iff.mp e).1
  have old : ∀ {j : Nat} {x : Sl}, (s.set i (.xc Str.empty [] []))[j]? = some x → (j = i ∧ x = .xc Str.empty [] []) ∨ (j ≠ i ∧ s[j]? = some x) := fun {j x} q => by
    by_cases z : j = i
    · subst z
      rw [List.getElem?_set_self hi] at q
      exact .inl ⟨rfl, (Option.some.inj q).symm⟩
    · rw [List.getElem?_set_ne (Ne.symm z)] at q
      exact .inr ⟨z, q⟩
  have npa : B.pa ≠ some ad := fun z => h.ph ad z h0
  refine ⟨h.sub, by rw [List.length_set]; exact h.len, fun j u q => ?_, fun j us q => ?_, fun j us q => ?_, fun j k x y b c ne q r ox oy sj sk => ?_, fun b u q np => ?_, h.pl, fun b q => ?_, h.f0, fun b q n => ?_, fun j c' ns' ts' q => ?_⟩
  · rcases old q with ⟨rfl, q'⟩ | ⟨nj, q'⟩
    · cases q'
    · exact h.im j u q'
  · rcases old q with ⟨rfl, q'⟩ | ⟨nj, q'⟩
    · cases q'
    · obtain ⟨b, k1, k2, k3⟩ := h.mu j us q'
      have nb : b ≠ ad := h.ne j i _ _ b ad nj q' e rfl rfl k1 hs
      exact ⟨b, k1, k2, by show upd B.H0 ad _ b = none; rw [upd_ne nb]; exact k3⟩
  · rcases old q with ⟨rfl, q'⟩ | ⟨nj, q'⟩
    · cases q'
    · exact h.mp j us q'
  · rcases old q with ⟨rfl, q'⟩ | ⟨nj, q'⟩
    · subst q'; cases ox
    · rcases old r with ⟨rfl, r'⟩ | ⟨nk, r'⟩
      · subst r'; cases oy
      · exact h.ne j k x y b c ne q' r' ox oy sj sk
  · have q : upd B.H0 ad (.lst vs) b = some u := q
    by_cases z : b = ad
    · subst z; rw [upd_same] at q; cases q; exact hv
    · rw [upd_ne z] at q; exact h.fr b u q np
  · show upd B.H0 ad _ b ≠ none
    have nb : b ≠ ad := fun z => npa (by rw [← z]; exact q)
    rw [upd_ne nb]; exact h.ph b q
  · show upd B.H0 ad _ b = none
    have nb : b ≠ ad := fun z => n (by rw [z]; exact hF)
    rw [upd_ne nb]; exact h.nw b q n
  · rcases old q with ⟨rfl, q'⟩ | ⟨nj, q'⟩
    · cases q'
      exact ⟨ad, .none, none, rfl, hs, .inl rfl⟩
    · obtain ⟨_, _, _, z, _⟩ := h.xc j c' ns' ts' q'
      rw [hx] at z; cases z
theorem SR.free1 {ad : Addr} {vs : List V} (h : SR G (B.hold ad vs) F H σ s) (hF0 : B.F0 ad = none) : F ad = none := by
  cases q : F ad with
  | none => rfl
  | some u =>
    have z : upd B.H0 ad (.lst vs) ad = none := h.nw ad hF0 (by rw [q]; exact fun z => by cases z)
    rw [upd_same] at z
    cases z
/-- let go, the slot unset -/
theorem SR.unhold {ad : Addr} {vs : List V} (h : SR G (B.hold ad vs) F H σ s) (h0 : B.H0 ad = none) (npa : B.pa ≠ some ad) (hh : heldX i s = true) : SR G B F H σ (s.set i .un) := by
  unfold heldX at hh
  obtain ⟨h1, h2⟩ := Bool.and_eq_true_iff.mp hh
  have old : ∀ {j : Nat} {x : Sl}, (s.set i .un)[j]? = some x → x ≠ .un → (j ≠ i ∧ s[j]? = some x) := fun {j x} q n => by
    by_cases z : j = i
    · subst z
      by_cases hi : j < s.length
      · rw [List.getElem?_set_self hi] at q
        exact (n (Option.some.inj q).symm).elim
      · rw [List.getElem?_eq_none (by simpa using hi)] at q; cases q
    · rw [List.getElem?_set_ne (Ne.symm z)] at q
      exact ⟨z, q⟩
  have out : ∀ {b : Addr}, upd B.H0 ad (.lst vs) b = none → B.H0 b = none := fun {b} e => by
    by_cases z : b = ad
    · subst z; exact h0
    · rw [upd_ne z] at e; exact e
  refine ⟨h.sub, by rw [List.length_set]; exact h.len, fun j u q => ?_, fun j us q => ?_, fun j us q => ?_, fun j k x y b c ne q r ox oy sj sk => ?_, fun b u q np => ?_, h.pl, fun b q => ?_, h.f0, fun b q n => out (h.nw b q n), fun j c' ns' ts' q => ?_⟩
  · obtain ⟨nj, q⟩ := old q (fun z => by cases z)
    exact h.im j u q
  · obtain ⟨nj, q⟩ := old q (fun z => by cases z)
    obtain ⟨b, k1, k2, k3⟩ := h.mu j us q
    exact ⟨b, k1, k2, out k3⟩
  · obtain ⟨nj, q⟩ := old q (fun z => by cases z)
    exact h.mp j us q
  · obtain ⟨nj, q⟩ := old q (fun z => by subst z; cases ox)
    obtain ⟨nk, r⟩ := old r (fun z => by subst z; cases oy)
    exact h.ne j k x y b c ne q r ox oy sj sk
  · refine h.fr b u ?_ np
    show upd B.H0 ad (.lst vs) b = some u
    have z : b ≠ ad := fun z => by subst z; rw [h0] at q; cases q
    rw [upd_ne z]
    exact q
  · have w : upd B.H0 ad (.lst vs) b ≠ none := h.ph b q
    have z : b ≠ ad := fun z => by subst z; exact npa q
    rw [upd_ne z] at w
    exact w
  · exact (noX_set h2 q).elim
/-- let go, the slot's own again -/
theorem SR.regain {ad : Addr} {vs : List V} {ts : List T} {F1 : Hp} (h : SR G (B.hold ad vs) F H σ s) (h0 : B.H0 ad = none) (hF0 : B.F0 ad = none) (npa : B.pa ≠ some ad) (hh : heldX i s = true) (r : Reps G F1 vs ts) (e : Same F1 F) : SR G B F H σ (s.set i (.mu ts)) := by
  have u := h.unhold h0 npa hh
  have hF := h.free1 hF0
  have hv : H ad = some (.lst vs) := h.fr ad _ (by show upd B.H0 ad _ ad = _; rw [upd_same]) npa
  have hs : σ[i]? = some (some (.ref ad)) := by
    unfold heldX at hh
    obtain ⟨h1, _⟩ := Bool.and_eq_true_iff.mp hh
    split at h1
    · rename_i c ns us e
      obtain ⟨a', cls, d, k1, k2, _⟩ := h.xc i c ns us e
      cases k1
      exact k2
    · cases h1
  have hi : i < s.length := by rw [h.len]; exact (List.getElem?_eq_some_iff.mp hs).1
  have z := u.setMu (i := i) (a := ad) (ts := ts) (by simpa using hi) ⟨⟨vs, hv, Reps.mono e _ _ r⟩, hF⟩ h0 (fun j x q o w => by
    by_cases hj : j = i
    · subst hj
      rw [List.getElem?_set_self hi] at q
      cases q
      cases o
    · rw [List.getElem?_set_ne (Ne.symm hj)] at q
      cases ho : x.own with
      | none => rw [ho] at o; cases o
      | some us =>
        obtain ⟨a', k1, _, k3⟩ := h.own q ho
        rw [w] at k1
        cases k1
        rcases k3 with k3 | k3
        · have k3 : upd B.H0 ad (.lst vs) ad = none := k3
          rw [upd_same] at k3
          cases k3
        · exact npa k3)
  rw [List.set_set] at z
  have es : σ.set i (some (.ref ad)) = σ := by
    refine List.ext_getElem? fun j => ?_
    by_cases hj : j = i
    · subst hj
      rw [List.getElem?_set_self (List.getElem?_eq_some_iff.mp hs).1, hs]
    · rw [List.getElem?_set_ne (Ne.symm hj)]
  rw [es] at z
  exact z
theorem fin_post {ad : Addr} {vs : List V} {ts : List T} {F1 : Hp} {r : SO} (h0 : B.H0 ad = none) (hF0 : B.F0 ad = none) (npa : B.pa ≠ some ad) (rr : Reps G F1 vs ts) (e1 : Same F1 F) (p : PostS G B W F (finB i ts r) D) :
    PostS G (B.hold ad vs) W F r D := by
  cases r with
  | nx s =>
    simp only [finB] at p
    split at p
    · rename_i hh
      exact fun σ' F' H' e sr => p _ F' H' e (sr.regain h0 hF0 npa hh rr (e1.trans e))
    · exact p.elim
  | ret t s =>
    simp only [finB] at p
    split at p
    · rename_i hh
      exact fun v σ' F' H' e sr r => p v _ F' H' e (sr.unhold h0 npa hh) r
    · exact p.elim
  | ex c ns es s =>
    simp only [finB] at p
    split at p
    · rename_i hh
      exact fun cls d σ' F' H' e sr r => p cls d _ F' H' e (sr.unhold h0 npa hh) r
    · exact p.elim
  | brk s => exact p.elim
  | cnt s => exact p.elim
  | retF ts s => exact p.elim
  | bad => exact p.elim
theorem s_forB (g : Good X G k N sc W) {tg : Expr} {gt : Tg} {ys : List S} (hp : PassesOwn (model X.prog X.w) X.A X.env X.xe) (hc : X.calm = true) (hx : B.xa = none) (hi : N[i]? = some x) (hv : Vis sc x) (hd : (x == ("__debug__" : Str)) = false) (hcd : (x == ("__classdict__" : Str)) = false)
    (hg : ∀ B', PG X tg (rdG G B' gt)) (hb : ∀ B', PSs X sts (rdS G B' W (evSs ys))) (hs : ∀ y, foldedSetIterable (.Name x px) X.env y = pure y) :
    PS X (.For tg (.Name x px) sts [] pos) (rdS G B W (evS (.forB gt i ys))) := by
  have hgA : PG X tg (gAny G gt) := ⟨fun pins s σ H v u Q I r ⟨B', hw⟩ => (hg B').run pins s σ H v u Q I r hw⟩
  have hbA : PSs X sts (fun D σ H => ∃ B', rdS G B' W (evSs ys) D σ H) := ⟨fun pins s σ H D I ⟨B', hw⟩ => (hb B').run pins s σ H D I hw⟩
  refine PS.imp (ps_for hp hc (pi_seq (tg := tg) (pv' g hi hv hd hcd)) hgA hbA hs) fun D σ H hq => ?_
  obtain ⟨F, s, sr, p⟩ := hq
  simp only [evS] at p
  split at p
  · rename_i ts e
    obtain ⟨ad, hs1, ⟨⟨vs, hv1, rv⟩, hF⟩, h0⟩ := sr.mu i ts e
    have hF0 : B.F0 ad = none := sr.f0.free hF
    have npa : B.pa ≠ some ad := fun z => sr.ph ad z h0
    have sr0 := sr.hold hx e hs1 hv1 hF h0
    have p0 := fin_post (i := i) h0 hF0 npa rv (Same.refl F) p
    have al : ∀ {F' : Hp} {H' : Hp} {σ' : L2.St} {s' : Sls}, SR G (B.hold ad vs) F' H' σ' s' → SqL X.K H' ad vs := fun {F' H' σ' s'} q => .inl (.inl (q.fr ad _ (by show upd B.H0 ad _ ad = _; rw [upd_same]) npa))
    refine ⟨.ref ad, hs1, .inl ⟨ad, rfl, ⟨vs, al sr0⟩, fun j m σ H => m = ts.length - j ∧ j ≤ ts.length ∧ ∃ F1 s, Same F F1 ∧ SR G (B.hold ad vs) F1 H σ s ∧ PostS G (B.hold ad vs) W F1 (forL gt (evSs ys) (ts.drop j) s) D, ⟨ts.length, by simp, Nat.zero_le _, F, _, .refl _, sr0, by simpa using p0⟩, ?_⟩⟩
    rintro j m σ H ⟨rfl, hj, F', s', eF, sr', p'⟩
    by_cases hlt : j < ts.length
    · have hlv : j < vs.length := by rw [rv.length]; exact hlt
      refine .inr ⟨⟨vs, vs[j], al sr', by simp [hlv]⟩, fun σ2 H2 => ∃ F1 s, Same F F1 ∧ SR G (B.hold ad vs) F1 H2 σ2 s ∧ PostS G (B.hold ad vs) W F1 (forL gt (evSs ys) (ts.drop (j + 1)) s) D, fun σ2 H2 q => ⟨ts.length - (j + 1), by omega, rfl, hlt, q⟩, fun y H2 yy => ?_⟩
      obtain ⟨rfl, yy⟩ := yy
      have q := yy vs (al sr')
      obtain ⟨t, ht, rt⟩ := rv.got q
      rw [List.drop_eq_getElem_cons hlt] at p'
      have ht' : ts[j] = t := by
        rw [List.getElem?_eq_getElem hlt] at ht
        exact Option.some.inj ht
      rw [ht'] at p'
      unfold forL at p'
      split at p'
      · exact p'.elim
      · rename_i s3 e3
        refine ⟨B.hold ad vs, F', s', t, s3, sr', Rep.mono eF _ _ rt, e3, fun σ3 sr3 _ => ⟨B.hold ad vs, F', s3, sr3, ?_⟩⟩
        cases h : evSs ys s3 with
        | nx s4 => rw [h] at p'; exact fun σ' F3 H' e sr4 => ⟨F3, s4, eF.trans e, sr4, PostS.up p' e⟩
        | cnt s4 => rw [h] at p'; exact fun σ' F3 H' e sr4 => ⟨F3, s4, eF.trans e, sr4, PostS.up p' e⟩
        | brk s4 => rw [h] at p'; exact p'
        | ret t s4 => rw [h] at p'; exact p'
        | retF t s4 => rw [h] at p'; exact p'
        | ex c ns ts s4 => rw [h] at p'; exact p'
        | bad => rw [h] at p'; exact p'
    · have e : j = ts.length := by omega
      subst e
      refine .inl ⟨⟨vs, al sr', by rw [rv.length]; exact Nat.le_refl _⟩, ?_⟩
      rw [List.drop_length] at p'
      unfold forL at p'
      exact p' _ F' H (.refl _) sr'
  · exact p.elim
end
end FL

/-! FL27: the rules with few arguments, for printed proofs. -/
namespace FL
open PySem PySem.Spec L2
open PySem.W (Frag)
structure TryOk (G : Gx) (c : Str) (yes no : List Str) : Prop where
  ex : ∃ C, G.mg c = some (.ref C) ∧ (∀ y ∈ yes, ∀ C', G.mg y = some (.ref C') → PySem.W.exmOne G.K (.ref C') (.ref C) = some true) ∧ (∀ y ∈ no, ∀ C', G.mg y = some (.ref C') → PySem.W.exmOne G.K (.ref C') (.ref C) = some false)
structure XfOk (G : Gx) (f : Str) (cs : List Str) : Prop where
  ne : Str.empty ∉ cs
  ex : ∀ c ∈ cs, ∀ C, G.mg c = some (.ref C) → XfC G.K C ∧ PySem.W.findIn G.K (.ref C) f = some none
section
variable {X : Cx} {G : Gx} {B : Fr0} {W : WX} {k : Option Nat} {N : List Str} {sc : Scope} {pos : Pos} {F F' H : Hp} {σ : L2.St} {s : Sls} {n : Nat}
variable {a b c e : Expr} {ea eb ec : E} {es : List Expr} {D D' : Ends} {i : Nat} {x : Str} {px p p2 : Pos} {sts : List Stmt}
theorem p_var (g : Good X G k N sc W) (v : Vf N sc i x) : PE X (.Name x pos) (rdE G B W (.var i)) := q_var g v.hi v.vis v.hd v.hcd
theorem p_glo (g : Good X G k N sc W) {t : T} (h : GloOk G x t) (v : Gb sc x) : PE X (.Name x pos) (rdE G B W (.glo x t)) := q_glo g v.hl h v.hd
theorem p_cmpB (g : Good X G k N sc W) {o : Cop} {op : CmpOp} (h : copOk o op = true) (ha : PE X a (rdE G B W ea)) (v : Vf N sc i x) : PE X (.Compare a [op] [.Name x px] pos) (rdE G B W (.cmpB o ea i)) := q_cmpB g h ha v.hi v.vis v.hd v.hcd (by cases op <;> rfl)
theorem p_cmpBT (g : Good X G k N sc W) {o : Cop} {op : CmpOp} (h : copOk o op = true) (ha : PE X a (rdE G B W ea)) (v : Vf N sc i x) : PT X (.Compare a [op] [.Name x px] pos) (rdC G B W (.cmpB o ea i)) := q_cmpBT g h ha v.hi v.vis v.hd v.hcd (by cases op <;> rfl)
theorem p_idx (g : Good X G k N sc W) (ha : PE X a (rdE G B W ea)) (hb : PE X b (rdE G B W eb)) (h : notSlice b = true) : PE X (.Subscript a b pos) (rdE G B W (.idx ea eb)) := q_idx g.hK ha hb (ix_of h)
theorem p_idxB (g : Good X G k N sc W) (v : Vf N sc i x) (hb : PE X b (rdE G B W eb)) (h : notSlice b = true) : PE X (.Subscript (.Name x px) b pos) (rdE G B W (.idxB i eb)) := q_idxB g v.hi v.vis v.hd v.hcd hb (ix_of h)
theorem p_trB (g : Good X G k N sc W) (v : Vf N sc i x) : PT X (.Name x pos) (rdC G B W (.trB i)) := q_trB g v.hi v.vis v.hd v.hcd
theorem p_cons {fs : Es} (ha : PE X a (rdE G B W ea)) (hr : PA X es (rd G B W (relEs G) (evEs fs))) (h : notStar a = true) : PA X (a :: es) (rd G B W (relEs G) (evEs (.cons ea fs))) := q_cons ha hr (star_of h)
theorem p_ae {as : As} (ha : PE X a (rdE G B W ea)) (hr : PA X es (rdA G B W as)) (h : notStar a = true) : PA X (a :: es) (rdA G B W (.e ea as)) := q_ae ha hr (star_of h)
theorem p_ab (g : Good X G k N sc W) {as : As} (v : Vf N sc i x) (hr : PA X es (rdA G B W as)) : PA X (.Name x px :: es) (rdA G B W (.b i as)) := q_ab g v.hi v.vis v.hd v.hcd hr (star_of rfl)
theorem p_call (g : Good X G (some n) N sc W) {f : FS} {as : As} {ds : List T} (hx : f.name = x) (hf : HasFn G n f ds) (v : Gb sc x) (h : PA X (a :: es) (rdA G B W as)) (h1 : notStar a = true) (h2 : es.all notStar = true) : PE X (.Call (.Name x p) (a :: es) [] pos) (rdE G B W (.call f as ds)) :=
  q_call g hx hf v.hl v.hd h (star_of h1) (plain_of h2)
theorem p_callM (g : Good X G (some n) N sc W) {f : FS} {as : As} {ds : List T} (hx : f.name = x) (hf : HasFn G n f ds) (v : Gb sc x) (h : PA X (a :: es) (rdA G B W as)) (h1 : notStar a = true) (h2 : es.all notStar = true) : PE X (.Call (.Name x p) (a :: es) [] pos) (rdM G B W (.call f as ds)) :=
  q_callM g hx hf v.hl v.hd h (star_of h1) (plain_of h2)
theorem p_bi {bb : Bi} (g : Good X G k N sc W) (hc : (bb = .max2 ∨ bb = .min2) → k.isSome = true) {fs : Es} (hx : biName bb = x) (hk : BiOk G bb) (v : Gb sc x) (h : PA X (a :: es) (rd G B W (relEs G) (evEs fs))) (h1 : notStar a = true) (h2 : es.all notStar = true) :
    PE X (.Call (.Name x p) (a :: es) [] pos) (rdE G B W (.bi bb fs)) := q_bi g hc hx hk v.hl h (star_of h1) (plain_of h2)
theorem p_lenB (g : Good X G k N sc W) (hk : G.mg "len" = none) (v0 : Gb sc "len") (v : Vf N sc i x) : PE X (.Call (.Name "len" p) [.Name x px] [] pos) (rdE G B W (.lenB i)) := q_lenB g hk v0.hl v.hi v.vis v.hd v.hcd
theorem p_tupB (g : Good X G k N sc W) (hk : G.mg "tuple" = none) (v0 : Gb sc "tuple") (v : Vf N sc i x) : PE X (.Call (.Name "tuple" p) [.Name x px] [] pos) (rdE G B W (.tupB i)) := q_tupB g hk v0.hl v.hi v.vis v.hd v.hcd
theorem p_lst (g : Good X G k N sc W) (hk : G.mg "list" = none) (v0 : Gb sc "list") (ha : PE X a (rdE G B W ea)) (h : notStar a = true) : PE X (.Call (.Name "list" p) [a] [] pos) (rdM G B W (.lst ea)) := q_lst g hk v0.hl ha (star_of h)
theorem p_lstB (g : Good X G k N sc W) (hk : G.mg "list" = none) (v0 : Gb sc "list") (v : Vf N sc i x) : PE X (.Call (.Name "list" p) [.Name x px] [] pos) (rdM G B W (.lstB i)) := q_lstB g hk v0.hl v.hi v.vis v.hd v.hcd
theorem ty_of (g : Good X G k N sc W) {y : Ty} {m : String} (h : tyName y = some m) (v : Gb sc (Str.ofString m)) (hk : G.mg (Str.ofString m) = none) : TyE X (.Name (Str.ofString m) p) y :=
  .blt h (show X.env.scope.names.lookup (Str.ofString m) = some .globalImplicit by rw [g.hsc]; exact v.hl) (by rw [g.hmg]; exact hk)
theorem p_isi (g : Good X G k N sc W) (ho : IsiOk G) {y : Ty} {e2 : Expr} (hk : G.mg "isinstance" = none) (v : Gb sc "isinstance") (ha : PE X a (rdE G B W ea)) (h1 : notStar a = true) (h2 : TyE X e2 y) :
    PE X (.Call (.Name "isinstance" p) [a, e2] [] pos) (rdE G B W (.isi ea true [y])) := by
  have n2 : notStar e2 = true := by cases h2; rfl
  exact q_isi1 g ho hk v.hl ha h2 (star_of h1) (star_of n2) (plain_of (by rw [List.all_cons, n2]; rfl))
theorem i_rng1' (g : Good X G k N sc W) {tg : Expr} (hk : G.mg "range" = none) (v : Gb sc "range") (ha : PE X a (rdE G B W ea)) (h : notStar a = true) : PI X tg (.Call (.Name "range" p) [a] [] pos) (rdI G B W (.rng1 ea)) := i_rng1 g hk v.hl ha (star_of h)
theorem i_rng2' (g : Good X G k N sc W) {tg : Expr} (hk : G.mg "range" = none) (v : Gb sc "range") (ha : PE X a (rdE G B W ea)) (hb : PE X b (rdE G B W eb)) (h1 : notStar a = true) (h2 : notStar b = true) : PI X tg (.Call (.Name "range" p) [a, b] [] pos) (rdI G B W (.rng2 ea eb)) :=
  i_rng2 g hk v.hl ha hb (by rw [star_of h1, star_of h2]; rfl) (star_of h2)
theorem i_seq' (g : Good X G k N sc W) {tg : Expr} (ha : PE X a (rdE G B W ea)) : PI X tg a (rdI G B W (.seq ea)) := i_seq g.hK ha
theorem t_nm (g : Good X G k N sc W) (v : Vr N sc i x) (hf : X.fn x = true ∨ sc.names.lookup x = some .local) : PG X (.Name x pos) (rdG G B (.nm i)) :=
  g_nm g.hN g.nd v.hi (by rw [g.hsc]; exact v.hl) (by rw [g.hsc]; exact hf)
theorem t_tp (g : Good X G (some n) N sc W) {kk : Nat} {gs : List Tg} (h : PGs X es (rdGs G B gs)) (hn : (assignEach es X.env).length = gs.length) (hst : (assignEach es X.env).findIdx? (·.1) = none) : PG X (.Tuple es kk pos) (rdG G B (.tp gs)) := g_tp g.hK (g.calm rfl) h hn hst
theorem r_asg (g : Good X G k N sc W) (T : TopX X) (v : Vr N sc i x) (ha : PE X a (rdE G B W ea)) (hs : swapsWith a (some (.Name x px)) pos.line X.env = pure false) : PS X (.Assign [.Name x px] a pos) (rdS G B W (evS (.asg (.nm i) ea))) := s_asg g v.hi v.hl (.inl (T.fn x)) ha hs
theorem r_asgM (g : Good X G k N sc W) (T : TopX X) {m : M} (v : Vr N sc i x) (ha : PE X a (rdM G B W m)) (hs : swapsWith a (some (.Name x px)) pos.line X.env = pure false) : PS X (.Assign [.Name x px] a pos) (rdS G B W (evS (.asgM i m))) := s_asgM g v.hi v.hl (.inl (T.fn x)) ha hs
theorem r_app (g : Good X G k N sc W) {apos cpos : Pos} (v : Vf N sc i x) (ha : PE X a (rdE G B W ea)) (h : notStar a = true) (hline : (apos.endLine == cpos.line) = true) : PS X (.Expr (.Call (.Attribute (.Name x px) "append" apos) [a] [] cpos) pos) (rdS G B W (evS (.app i ea))) :=
  s_app g v.hi v.vis v.hd v.hcd ha (star_of h) hline
theorem r_setI (g : Good X G k N sc W) {p2 : Pos} (v : Vf N sc i x) (hb : PE X b (rdE G B W eb)) (ha : PE X a (rdE G B W ea))
    (hass : ∀ v, assign (.Subscript (.Name x px) b p2) X.env v = (do
      let ov ← holding [v] (eval (.Name x px) X.env)
      let iv ← holding [v, ov] (eval b X.env)
      standAt p2
      holding [v, ov, iv] (setItem ov iv v)
      release [v, ov, iv] []))
    (hs : swapsWithSole [.Subscript (.Name x px) b p2] a pos.line X.env = pure false) : PS X (.Assign [.Subscript (.Name x px) b p2] a pos) (rdS G B W (evS (.setI i eb ea))) := s_setI g v.hi v.vis v.hd v.hcd hb ha hass hs
theorem r_retB (g : Good X G k N sc W) (v : Vf N sc i x) : PS X (.Return (some (.Name x px)) pos) (rdS G B W (evS (.retB i))) := s_retB (p2 := pos) g v.hi v.vis v.hd v.hcd
theorem r_for (g : Good X G (some n) N sc W) (T : TopX X) {tg iter : Expr} {gt : Tg} {it : It} {ys : List S} (hi : PI X tg iter (rdI G B W it)) (hg : PG X tg (rdG G B gt)) (hb : PSs X sts (rdS G B W (evSs ys))) (hs : ∀ x, foldedSetIterable iter X.env x = pure x) : PS X (.For tg iter sts [] pos) (rdS G B W (evS (.forS gt it ys))) :=
  s_for T.pass (g.calm rfl) hi hg hb hs
theorem r_forB (g : Good X G (some n) N sc W) (T : TopX X) (hx : B.xa = none) {tg : Expr} {gt : Tg} {ys : List S} (v : Vf N sc i x) (hg : ∀ B', PG X tg (rdG G B' gt)) (hb : ∀ B', PSs X sts (rdS G B' W (evSs ys))) (hs : ∀ y, foldedSetIterable (.Name x px) X.env y = pure y) :
    PS X (.For tg (.Name x px) sts [] pos) (rdS G B W (evS (.forB gt i ys))) := s_forB g T.pass (g.calm rfl) hx v.hi v.vis v.hd v.hcd hg hb hs
theorem r_whl (T : TopX X) {ca : C} {m : Nat} {ys : List S} (hc : PT X c (rdC G B W ca)) (hb : PSs X sts (rdS G B W (evSs ys))) : PS X (.While c sts [] pos) (rdS G B W (evS (.whl m ca ys))) := s_whl T.pass hc hb
theorem r_par (g : Good X G (some n) N sc W) {j : Nat} {y : Str} {fa fb : Expr} {ea eb : E} {py pt : Pos} {kt k2 pt2} (v : Vr N sc i x) (w : Vr N sc j y) (hij : i ≠ j) (hx : lcB sc x = true) (hy : lcB sc y = true) (ha : PE X fa (rdE G B W ea)) (hb : PE X fb (rdE G B W eb)) (h1 : notStar fa = true) (h2 : notStar fb = true)
    (hw : swappedStores [.Tuple [.Name x px, .Name y py] kt pt] (.Tuple [fa, fb] k2 pt2) X.env = pure (some [x, y])) :
    PS X (.Assign [.Tuple [.Name x px, .Name y py] kt pt] (.Tuple [fa, fb] k2 pt2) pos) (rdS G B W (evS (.asg (.tp [.nm i, .nm j]) (.tup (.cons ea (.cons eb .nil)))))) :=
  s_par rfl g v.hi w.hi hij (lc_of hx) (lc_of hy) (p_cons ha (p_cons hb q_nil h2) h1) hw
theorem r_rai (g : Good X G (some (n + 2)) N sc W) {np : Nat} {sel : List (Str × Nat)} {fs : Es} (ok : ExcOk G x np sel) (v : Gb sc x) (ha : PA X (e :: es) (rd G B W (relEs G) (evEs fs))) (h1 : notStar e = true) (h2 : es.all notStar = true) :
    PS X (.Raise (some (.Call (.Name x p) (e :: es) [] p2)) none pos) (rdS G B W (evS (.rai x np sel fs))) := s_rai g ok v.hl v.hd ha (star_of h1) (plain_of h2)
theorem r_rai0 (g : Good X G (some (n + 2)) N sc W) {sel : List (Str × Nat)} (ok : ExcOk G x 0 sel) (v : Gb sc x) : PS X (.Raise (some (.Call (.Name x p) [] [] p2)) none pos) (rdS G B W (evS (.rai x 0 sel .nil))) := s_rai0 g ok v.hl v.hd
theorem r_try (g : Good X G (some n) N sc W) (T : TopX X) (hB : B.xa = none) {body suite : List Stmt} {b₀ : Stmt} {np pos' : Pos} {yes no : List Str} {ib ih : List S} (ok : TryOk G x yes no) (v : Gb sc x)
    (hb : ∀ (X' : Cx) (W' : WX), Good X' G (some n) N sc W' → TopX X' → PSs X' body (rdS G B W' (evSs ib))) (hs : ∀ (X' : Cx) (B' : Fr0), Good X' G none N sc W0 → PSs X' (b₀ :: suite) (rdS G B' W0 (evSs ih))) :
    PS X (.Try body [.ExceptHandler (some (.Name x np)) none (b₀ :: suite) pos'] [] [] pos) (rdS G B W (evS (.tryS ib yes no none ih))) := by
  obtain ⟨C, h1, h2, h3⟩ := ok.ex
  exact s_try g T hB ⟨show X.env.scope.names.lookup x = some .globalImplicit by rw [g.hsc]; exact v.hl, v.hd, .inl (by rw [g.hmg]; exact h1)⟩ h2 h3 (.inl ⟨rfl, rfl⟩) hb fun X' B' g' _ => hs X' B' g'
theorem r_tryX (g : Good X G (some n) N sc W) (T : TopX X) (hB : B.xa = none) {body suite : List Stmt} {b₀ : Stmt} {np pos' : Pos} {y : Str} {j : Nat} {yes no : List Str} {ib ih : List S} (ok : TryOk G x yes no) (v : Gb sc x) (w : Vr N sc j y) (hy : lcB sc y = true)
    (hb : ∀ (X' : Cx) (W' : WX), Good X' G (some n) N sc W' → TopX X' → PSs X' body (rdS G B W' (evSs ib))) (hs : ∀ (X' : Cx) (B' : Fr0), Good X' G none N sc W0 → SuiX X' B' → PSs X' (b₀ :: suite) (rdS G B' W0 (evSs ih))) :
    PS X (.Try body [.ExceptHandler (some (.Name x np)) (some y) (b₀ :: suite) pos'] [] [] pos) (rdS G B W (evS (.tryS ib yes no (some j) ih))) := by
  obtain ⟨C, h1, h2, h3⟩ := ok.ex
  exact s_try g T hB ⟨show X.env.scope.names.lookup x = some .globalImplicit by rw [g.hsc]; exact v.hl, v.hd, .inl (by rw [g.hmg]; exact h1)⟩ h2 h3 (.inr ⟨y, j, rfl, rfl, w.hi, lc_of hy⟩) hb fun X' B' g' sx => hs X' B' g' (sx rfl)
theorem p_exf (g : Good X G k N sc W) (sx : SuiX X B) {f : Str} {cs : List Str} (ok : XfOk G f cs) (v : Vf N sc i x) : PE X (.Attribute (.Name x px) f pos) (rdE G B W (.exf i f cs)) := q_exf g sx ok.ne v.hi v.vis v.hd v.hcd ok.ex
theorem p_stw {apos : Pos} (ha : PE X a (rdE G B W ea)) (hb : PE X b (rdE G B W eb)) (h : notStar b = true) (hbase : attributeBase a "startswith" X.env (eval a X.env) = eval a X.env) (hline : (apos.endLine == pos.line) = true) : PE X (.Call (.Attribute a "startswith" apos) [b] [] pos) (rdE G B W (.stw ea eb)) := q_stw ha hb (star_of h) hbase hline
theorem p_split {apos : Pos} (ha : PE X a (rdE G B W ea)) (hb : PE X b (rdE G B W eb)) (h : notStar b = true) (hbase : attributeBase a "split" X.env (eval a X.env) = eval a X.env) (hline : (apos.endLine == pos.line) = true) : PE X (.Call (.Attribute a "split" apos) [b] [] pos) (rdM G B W (.split ea eb)) := q_split ha hb (star_of h) hbase hline
end
def esLen : Es → Nat
  | .nil => 0
  | .cons _ r => esLen r + 1
theorem evEs_len : ∀ {fs : Es} {s s' : Sls} {ts : List T}, evEs fs s = .ok ts s' → ts.length = esLen fs
  | .nil, s, s', ts, h => by
    simp only [evEs] at h
    cases h
    rfl
  | .cons e r, s, s', ts, h => by
    simp only [evEs] at h
    cases h1 : evE e s with
    | bad => rw [h1] at h; cases h
    | ex _ _ _ _ => rw [h1] at h; cases h
    | ok t s1 =>
      rw [h1] at h
      simp only [Rs.bind] at h
      cases h2 : evEs r s1 with
      | bad => rw [h2] at h; cases h
      | ex _ _ _ _ => rw [h2] at h; cases h
      | ok us s2 =>
        rw [h2] at h
        cases h
        simp [esLen, evEs_len h2]
section
variable {X : Cx} {G : Gx} {B : Fr0} {W : WX} {k : Option Nat} {N : List Str} {sc : Scope} {pos : Pos} {n : Nat} {a : Expr} {es : List Expr} {x : Str} {p : Pos}
theorem p_callK (g : Good X G (some n) N sc W) {f : FS} {fs gs : Es} {ar : List AK} {kws : List Keyword} {ks : List Str} (hx : f.name = x) (hf : HasFnK G n f (esLen fs) ks ar) (v : Gb sc x) (h : PA X (a :: es) (rd G B W (relEs G) (evEs fs))) (hk : KwR X G B W kws gs) (hl : esLen gs = ks.length)
    (hall : (backToKw pos (keywordEach kws X.env)).all (·.1.isSome) = true) (hks : (backToKw pos (keywordEach kws X.env)).filterMap (·.1) = ks) (h1 : notStar a = true) (h2 : es.all notStar = true) (hnk : (backToKw pos (keywordEach kws X.env)).any (·.1.isNone) = false) :
    PE X (.Call (.Name x p) (a :: es) kws pos) (rdE G B W (.callK f fs gs ar)) :=
  q_callK g hx hf v.hl v.hd h (fun s ts s' e => evEs_len e) hk (fun s ts s' e => (evEs_len e).trans hl) hall hks (star_of h1) (by rw [plain_of (show (a :: es).all notStar = true by rw [List.all_cons, h1, h2]; rfl), hnk]; rfl)
end
end FL

/-! FL28: further side conditions. -/
namespace FL
open PySem PySem.Spec L2
section
variable {X : Cx} {G : Gx} {B : Fr0} {W : WX} {k : Option Nat} {N : List Str} {sc : Scope} {x y : Str} {px py pt pt2 : Pos} {kt k2 : Nat} {fa fb : Expr}
def isStar : Expr → Bool
  | .Starred .. => true
  | _ => false
theorem sw_par (g : Good X G k N sc W) (hk : sc.kind = .function) (hx : lcB sc x = true) (hy : lcB sc y = true) (hn : (x == y) = false) (hl : (py.line == px.line) = true) (hf : [fa, fb].all (foldedForSure 8) = false) (hc : [fa, fb].all (constantsAlone 8) = false) (h1 : notStar fa = true) (h2 : notStar fb = true) :
    swappedStores [.Tuple [.Name x px, .Name y py] kt pt] (.Tuple [fa, fb] k2 pt2) X.env = pure (some [x, y]) := by
  have kx : X.env.kindOf x = some .local := by show X.env.scope.names.lookup x = _; rw [g.hsc]; exact lc_of hx
  have ky : X.env.kindOf y = some .local := by show X.env.scope.names.lookup y = _; rw [g.hsc]; exact lc_of hy
  have hb : X.env.blockKind = .function := by unfold Env.blockKind; rw [g.hsc, hk]; rfl
  have hn2 : (y == x) = false := by
    cases q : y == x with
    | false => rfl
    | true => rw [beq_iff_eq.mp q] at hn; simp at hn
  have ed : [x, y].eraseDups = [x, y] := by
    simp [List.eraseDups_cons, hn2]
  have e1 : (some NameKind.local == some NameKind.local) = true := by decide
  have e2 : (ScopeKind.function != ScopeKind.function) = false := by decide
  unfold swappedStores
  simp only [List.head?_cons, Option.map_some, Option.getD_some, Expr.pos, List.filterMap_cons, List.filterMap_nil, kx, ky, hl, beq_self_eq_true, e1, e2, Bool.and_self, if_true, hb, ed, hf, hc, List.length_cons, List.length_nil, Bool.true_or, Bool.not_true, bne_self_eq_false, Bool.or_self, Bool.or_false, Bool.false_eq_true, if_false, Bool.and_true]
  split
  · rename_i h
    exfalso
    simp only [List.any_cons, List.any_nil, Bool.or_false, Bool.or_eq_true] at h
    rcases h with h | h
    · split at h
      · cases h1
      · cases h
    · split at h
      · cases h2
      · cases h
  · rfl
end
end FL

/-! FL29: facts from the head. -/
namespace FL
open PySem PySem.Spec L2
open PySem.W (Frag)
section
variable {K : Frag} {x qual : Str} {params : Arguments} {body : List Stmt} {scope : Scope} {dvs : List V} {kws : List (Str × V)} {f : Addr} {fd : FuncData} {ps : List Str}
/-- f(e, .., k = v, ..) of a def with defaults and no keyword-only parameters -/
theorem kbn_of (F : FunD K x qual params body scope dvs kws f fd) (n : Nat) (ks : List Str) (g : {α : Type} → List α → List α → List α → List α) (hd : dvs ≠ [])
    (hrel : ∀ {vs ds zs : List V} {us its ws : List Value}, Vals vs us → Vals ds its → Vals zs ws → Vals (g vs ds zs) (g us its ws))
    (h : ∀ (T : Addr) (kV doc pm : Value) (an : Option Addr) (cdv ct : Value) (us its ws : List Value), us.length = n → its.length = dvs.length → ws.length = ks.length →
      ∃ k, bindArgs (PySem.W.fnOf x qual params body scope (.ref T) kV doc pm an cdv ct) ⟨us, ks.zip ws⟩ = seqItems? (.ref T) >>= k ∧ k (some its.toArray) = pure (ps.zip (g us its ws))) :
    ∃ its : List Value, KBn K fd ps n ks (fun us ws => g us its ws) (fun vs zs => g vs dvs zs) := by
  obtain ⟨oc, od, dV, kV, doc, pm, an, cdv, ct, osl, rfl, lk, hcd, hD, hK⟩ := F.ex
  rcases hD with ⟨e, _⟩ | ⟨_, T, o, its, m, rfl, lT, oT, rT⟩
  · exact absurd e hd
  · refine ⟨its, ⟨fun s us ws X l1 l2 => ?_, fun r1 r2 => hrel r1 rT r2⟩⟩
    obtain ⟨k, e1, e2⟩ := h T kV doc pm an cdv ct us its ws l1 rT.length.symm l2
    refine BindsTo.of_looks fun M => ?_
    rw [e1]
    exact looks_items X lT oT (.of_pure e2)
end
theorem vals_one {vs : List V} {us : List Value} (r : Vals vs us) (i : Nat) : Vals ((vs.drop i).take 1) ((us.drop i).take 1) := by
  have r := r.drop i
  generalize vs.drop i = a at r ⊢
  generalize us.drop i = b at r ⊢
  cases r with
  | nil => exact .nil
  | cons a b => exact .cons a .nil
/-- a class's body -/
def clsB : Stmt → List Stmt
  | .ClassDef (body := b) .. => b
  | _ => []
section
variable {P : Program} {w : World} {base h : Heap} {K : Frag} {mg : Str → Option Value}
theorem tryOk_of {c : Str} {yes no : List Str} (hc : mg c = some (.ref (He.ga K c))) (hy : ∀ y ∈ yes, mg y = some (.ref (He.ga K y)) ∧ PySem.W.exmOne K (.ref (He.ga K y)) (.ref (He.ga K c)) = some true)
    (hn : ∀ y ∈ no, mg y = some (.ref (He.ga K y)) ∧ PySem.W.exmOne K (.ref (He.ga K y)) (.ref (He.ga K c)) = some false) : TryOk (mkG P w base K mg) c yes no := by
  refine ⟨He.ga K c, hc, fun y m C' e => ?_, fun y m C' e => ?_⟩
  · obtain ⟨h1, h2⟩ := hy y m
    have e : mg y = some (.ref C') := e
    rw [h1] at e
    cases e
    exact h2
  · obtain ⟨h1, h2⟩ := hn y m
    have e : mg y = some (.ref C') := e
    rw [h1] at e
    cases e
    exact h2
theorem xfOk_of {f : Str} {cs : List Str} (ne : Str.empty ∉ cs) (hy : ∀ y ∈ cs, mg y = some (.ref (He.ga K y)) ∧ XfC K (He.ga K y) ∧ PySem.W.findIn K (.ref (He.ga K y)) f = some none) : XfOk (mkG P w base K mg) f cs := by
  refine ⟨ne, fun y m C' e => ?_⟩
  obtain ⟨h1, h2⟩ := hy y m
  have e : mg y = some (.ref C') := e
  rw [h1] at e
  cases e
  exact h2
theorem gloInt {x : Str} {i : Int} (X : K.In h) (Gm : h.Ns mainGlobals mg) (c : (He.Fa.int x i).ok K = true) : GloOk (mkG P w base K mg) x (.int i) := by
  obtain ⟨t, e⟩ := He.int_ok X Gm c
  exact ⟨.int i, _, e, ⟨t, rfl⟩, fun F => by simp only [Rep]⟩
theorem gloStr {x z : Str} (X : K.In h) (Gm : h.Ns mainGlobals mg) (c : (He.Fa.str x z).ok K = true) : GloOk (mkG P w base K mg) x (.str z) := by
  obtain ⟨t, e⟩ := He.str_ok X Gm c
  exact ⟨.str z, _, e, ⟨t, rfl⟩, fun F => by simp only [Rep]⟩
theorem gloTup {x : Str} {vs : List He.Dv} {ts : List T} (hm : mg x = some (.ref (He.ga K x))) (c : He.tupB K x vs = true) (r : ∀ F : Hp, Reps (mkG P w base K mg) F (vs.map (He.Dv.v K)) ts) : GloOk (mkG P w base K mg) x (.tup ts) :=
  ⟨.ref (He.ga K x), _, hm, rfl, fun F => by
    simp only [Rep]
    exact ⟨_, _, rfl, He.tupB_ok c F, r F⟩⟩
def bltB (K : Frag) (x : Str) (n : String) : Bool := He.eqO (PySem.W.nsIn K mainGlobals x) (some (some (.builtin n)))
theorem blt_ok {x : Str} {n : String} (X : K.In h) (Gm : h.Ns mainGlobals mg) (c : bltB K x n = true) : mg x = some (.builtin n) := PySem.W.mg_of X Gm (He.eqO_ok c)
end
end FL

/-! FL30: the law's end. -/
namespace FL
open PySem PySem.Spec L2
open PySem.W (Frag)
theorem walk_ofX {l : PySem.W.OpenLaw} {n k : Nat} {q : Program} {loose : List Str} {XP : (Str → Option Value) → Heap → Prop} {YP : World → Heap → Prop} {d : DefRec} {CX : World → CXT} {x : Str}
    (hn : l.most = some n) (hn2 : n ≤ sizeLine) (hdf : d.params.defaults = []) (hr : Room k callerA)
    (F : ∀ (w : World) (mg : Str → Option Value) (fa : Addr) (h : Heap), YP w h → h.Ns mainGlobals mg → mg d.name = some (.ref fa) →
      ∃ (K : Frag) (fd : FuncData) (sp : Sp), K.In h ∧ (∀ (s : Shared) (u : Value), BindsTo s fd ⟨[u], []⟩ [(x, u)]) ∧
        (∀ (H : Hp) (a : Addr) (ns : List Int), ns.length ≤ n → (∀ z ∈ ns, Builtin.Int.intBits z ≤ 1048576) → Only H → SqL K H a (ns.map V.int) → sp [.ref a] H (fun v _ => v = .bl true) fun _ _ _ => False) ∧
        ∀ base : Heap, K.In base → base.Ns mainGlobals mg → FnOk l.prog w K mg base (CX w) k fa fd [x] sp)
    (hCX : ∀ (w : World) (H : Hp) (s : Shared) (e : Value) (s' : Shared), CX w [] H s (fun _ _ _ => False) e s' → False) :
    PySem.W.WalkO q loose XP YP l.row.toRowW d [] (fun f vs => PySem.call f vs) := by
  refine Att.attach_callB hn hdf fun w s₀ s₁ mg mb fa o pm cd doc a vs ns G Y ho hd hcd hmg hobj hints hlen hbits hg => ?_
  obtain ⟨K, fd, sp, KX, hb, hsp, hF⟩ := F w mg fa _ Y G.T.g hmg
  exact law_call KX G.T.g G.T.b G.T.builtins G.T.nolimit hg hobj hints (Nat.le_trans hlen hn2) hr hF hb (fun H hO hS => hsp H a ns hlen hbits hO hS) fun H e s' => hCX w H s₁ e s'
theorem cx_false {P : Program} {w : World} {H : Hp} {s : Shared} {e : Value} {s' : Shared} (h : L2.CX P w [] H s (fun _ _ _ => False) e s') : False := by
  obtain ⟨_, _, _, _, _, _, _, _, _, _, _, _, _, z⟩ := h
theorem funD_uniq {K : Frag} {x qual x2 q2 : Str} {params p2 : Arguments} {body b2 : List Stmt} {scope s2 : Scope} {dvs d2 : List V} {kws k2 : List (Str × V)} {f : Addr} {fd fd2 : FuncData} (F : FunD K x qual params body scope dvs kws f fd) (F2 : FunD K x2 q2 p2 b2 s2 d2 k2 f fd2) : fd = fd2 := by
  obtain ⟨_, _, _, _, _, _, _, _, _, _, _, e1, _⟩ := F.ex
  obtain ⟨_, _, _, _, _, _, _, _, _, _, _, e2, _⟩ := F2.ex
  rw [e1] at e2
  cases e2
  rfl
/-- the law's promise, of its meaning -/
theorem law_sp {G : Gx} {f : FS} {H : Hp} {a : Addr} {ns : List Int} (hm : f.mu = none) (hf : f.fresh = false) (hS : SqL G.K H a (ns.map V.int)) (h : ∃ o, f.sem [.scr (ns.map T.int)] = .ok (.bl true) o) :
    spF G f [.ref a] H (fun v _ => v = .bl true) fun _ _ _ => False := by
  obtain ⟨o, h⟩ := h
  have hr : ∀ F : Hp, ∀ ns : List Int, Reps G F (ns.map V.int) (ns.map T.int) := fun F ns => by
    induction ns with
    | nil => simp [Reps]
    | cons n r ih => simp only [List.map_cons]; exact Reps.cons (by simp only [Rep]) ih
  have rr : Reps G H [.ref a] [.scr (ns.map T.int)] := Reps.cons (by simp only [Rep]; exact ⟨a, _, rfl, hS, hr _ _⟩) (by simp only [Reps])
  obtain ⟨s0, k1, k2⟩ := start_im rr (Same.refl H)
  refine ⟨H, [.scr (ns.map T.int)], s0, none, by rw [hm]; exact k1, k2, fun _ => rfl, ?_⟩
  rw [h]
  intro v F' H' cp r
  unfold RetR at r
  rw [hf, if_neg Bool.false_ne_true] at r
  simpa only [Rep] using r
end FL

/-! FL31: sorted, a row of classes in isinstance, defs that call themselves. -/
namespace FL
open PySem PySem.Spec L2
section
variable {X : Cx} {G : Gx} {B : Fr0} {W : WX} {k : Option Nat} {N : List Str} {sc : Scope} {pos : Pos}
variable {a b c e : Expr} {ea eb ec : E} {es : List Expr}
theorem p_isiT (g : Good X G k N sc W) (ho : IsiOk G) {p p2 : Pos} {ys : List Ty} {x1 : Nat} (hk : G.mg "isinstance" = none) (v : Gb sc "isinstance") (ha : PE X a (rdE G B W ea)) (h1 : notStar a = true) (h2 : TyEs X es ys) (hlen : ys.length ≤ 100) :
    PE X (.Call (.Name "isinstance" p) [a, .Tuple es x1 p2] [] pos) (rdE G B W (.isi ea false ys)) :=
  q_isiT g ho hk v.hl ha h2 hlen (star_of h1) (star_of rfl) (plain_of rfl)
/-! ### sorted -/
/-- trees that values stand for -/
def Stands (G : Gx) (F : Hp) (u : Value) (t : T) : Prop := ∃ v, RelV v u ∧ Rep G F v t
theorem each_stands {F : Hp} : ∀ {ts : List T} {vs : List V} {us : List Value}, Reps G F vs ts → Vals vs us → PySem.W.EachIs (Stands G F) us ts
  | [], vs, us, h, r => by
    simp only [Reps] at h
    subst h
    cases r
    exact .nil
  | t :: ts, vs, us, h, r => by
    simp only [Reps] at h
    obtain ⟨v, rs, rfl, h2, h3⟩ := h
    cases r with
    | cons r1 r2 => exact .cons ⟨v, r1, h2⟩ (each_stands h3 r2)
theorem stands_each {F : Hp} : ∀ {ts : List T} {us : List Value}, PySem.W.EachIs (Stands G F) us ts → ∃ vs, Vals vs us ∧ Reps G F vs ts
  | _, _, .nil => ⟨[], .nil, by simp only [Reps]⟩
  | _, _, .cons ⟨v, r, h⟩ t => by
    obtain ⟨vs, h1, h2⟩ := stands_each t
    exact ⟨v :: vs, .cons r h1, Reps.cons h h2⟩
theorem dats_mem {n : Nat} : ∀ {ts : List T}, dats n ts = true → ∀ t ∈ ts, dat n t = true
  | [], _, t, m => by cases m
  | u :: us, h, t, m => by
    simp only [dats, Bool.and_eq_true] at h
    rcases List.mem_cons.mp m with rfl | m
    · exact h.1
    · exact dats_mem h.2 t m
theorem srtT_perm (ts : List T) : (srtT ts).Perm ts := List.mergeSort_perm ..
def rSrt (G : Gx) : List V → Hp → VK → Prop := fun vs H Q => ∃ (a : Addr) (xs : List V) (ts : List T) (F : Hp), vs = [V.ref a] ∧ H a = some (.lst xs) ∧ Same F H ∧ Reps G F xs ts ∧ srtOk ts = true ∧ ∀ ys p, Reps G F ys (srtT ts) → H p = none → Q (.ref p) (upd H p (.lst ys))
theorem call_srt (hK : X.K = G.K) (hu : X.A.units + 65 < cLine) : CallR X (.builtin "sorted") (rSrt G) := by
  intro pins s σ H vs us Q I r h
  obtain ⟨a, xs, ts, F, rfl, ha, sub, rx, ok, q⟩ := h
  unfold srtOk at ok
  simp only [Bool.and_eq_true, Bool.or_eq_true, decide_eq_true_eq] at ok
  obtain ⟨dd, hl, al, so⟩ := ok
  have hs : SqL X.K H a xs := .inl (.inl ha)
  obtain ⟨its, rv, hL, hz⟩ := I.list hs
  rw [Vals.ref1 r]
  have dep : ∀ t ∈ ts, (toD t).depth ≤ 61 := fun t m => (lay_of 60 t (dats_mem dd t m)).2
  refine PySem.W.sorted_data (A := X.A) (enc := toD) (bs := ts) (R := Stands G F) (by simpa using hL.isList) (each_stands rx rv) ?_ ?_ ?_ (by rw [← big_eq]; exact hl) (fun t m => by have := dep t m; omega) fun out ho eo => ?_
  · have hr : ∀ (ts : List T) (vs : List V) (us : List Value), dats 60 ts = true → Reps G F vs ts → Vals vs us → PySem.W.EachIs (fun v b => ∃ as, Reads s.heap v (toD b) as) us ts := by
      intro ts
      induction ts with
      | nil =>
        intro vs us _ h r
        simp only [Reps] at h
        subst h
        cases r
        exact .nil
      | cons t ts ih =>
        intro vs us d h r
        simp only [Reps] at h
        obtain ⟨v, rs, rfl, h2, h3⟩ := h
        simp only [dats, Bool.and_eq_true] at d
        cases r with
        | cons r1 r2 =>
          have d1 : Dp X.K F v (toD t) := by rw [hK]; exact dp_of 60 t v d.1 h2
          exact .cons (Dp.reads I (toD t) v _ (Dp.up sub _ _ d1) r1) (ih _ _ d.2 h3 r2)
    exact hr ts xs its dd rx rv
  · intro d hd d' hd'
    obtain ⟨t, m, rfl⟩ := List.mem_map.mp hd
    obtain ⟨t', m', rfl⟩ := List.mem_map.mp hd'
    exact List.all_eq_true.mp (List.all_eq_true.mp al t m) t' m'
  · rcases so with so | so
    · refine .inl fun d hd => ?_
      obtain ⟨t, m, rfl⟩ := List.mem_map.mp hd
      have z := List.all_eq_true.mp so t m
      cases t with
      | tup us => cases us with
        | nil => cases z
        | cons u us => exact ⟨toD u, toDs us, by simp only [toD, toDs]⟩
      | _ => cases z
    · refine .inr fun d hd => ?_
      obtain ⟨t, m, rfl⟩ := List.mem_map.mp hd
      have z := List.all_eq_true.mp so t m
      have dt := dats_mem dd t m
      cases t with
      | non => cases z
      | tup us => cases z
      | obj _ _ _ => exact (no_obj dt).elim
      | scr _ => exact (no_scr dt).elim
      | _ => simp only [toD]; exact ⟨by simp, by simp⟩
  · obtain ⟨ys, v1, v2⟩ := stands_each eo
    obtain ⟨ep, he'⟩ := PyProof.Rows.sortedAll_at s.heap its (List.toArray out)
    have hlen : ys.length ≤ sizeLine := by
      rw [v2.length, (show (List.mergeSort ts (PySem.W.dataLe false toD)).length = ts.length from List.length_mergeSort ..), ← big_eq]
      exact hl
    exact ⟨.ref _, upd H (s.heap.objs.size + 1) (.lst ys), I.laid (t' := s.toks) (fun _ _ => PyProof.Rows.sortedAll_old) (Nat.le_succ _) ⟨hlen, out, ep, v1, by simpa using he'⟩, rfl, q ys _ v2 (I.hok.fresh (Nat.le_succ _))⟩
theorem p_srt (g : Good X G k N sc W) {p : Pos} (hk : G.mg "sorted" = none) (v : Gb sc "sorted") (ha : PE X a (rdE G B W ea)) (h : notStar a = true) : PE X (.Call (.Name "sorted" p) [a] [] pos) (rdM G B W (.srt ea)) := by
  have hg : Gl X "sorted" := show X.env.scope.names.lookup ("sorted" : Str) = some .globalImplicit by rw [g.hsc]; exact v.hl
  refine PE.imp (pe_callB (call_srt g.hK g.hu) hg (by rw [g.hmg]; exact hk) (by decide +kernel) (pa_cons ha pa_nil (star_of h)) (he := star_of h) (hpl := plain_of rfl)) fun σ H Q hq => ?_
  obtain ⟨F, s, sr, p⟩ := hq
  simp only [evM] at p
  refine ⟨F, s, sr, (Pst.bind p).mono ?_⟩
  rintro x H1 ⟨tx, F1, s1, e1, sr1, rx, p1⟩
  split at p1
  · rename_i ts
    simp only [relE, Rep] at rx
    obtain ⟨a, vs, rfl, h2, h3⟩ := rx
    split at p1
    · rename_i ok
      exact ⟨a, vs, ts, F1, rfl, sr1.sub _ _ h2, sr1.sub, h3, ok, fun ys q r hn => relM_grow sr1 r p1 q hn⟩
    · exact p1.elim
  · exact p1.elim
/-! ### defs that call themselves -/
/-- no run of it is told -/
abbrev irBad : List S := [.whl 0 (.e (.cst .non)) []]
theorem bad_body {bd : List Stmt} {n : Nat} : BodyOk G n N sc bd irBad := fun X W B g T hB => by
  refine ⟨fun pins s σ H D I h => ?_⟩
  obtain ⟨F, sl, sr, p⟩ := h
  have e : evSs irBad sl = .bad := by
    simp only [irBad, evSs, evS, whileL, SO.then]
  rw [e] at p
  exact p.elim
/-- a def that calls itself, so many turns deep -/
def recSem (np n : Nat) (mu : Option Nat) (fresh : Bool) (ir : (List T → FR) → List S) : Nat → List T → FR
  | 0 => mkSem np n mu fresh irBad
  | m + 1 => mkSem np n mu fresh (ir (recSem np n mu fresh ir m))
def recFS (name : Str) (np n : Nat) (mu : Option Nat) (fresh : Bool) (ir : (List T → FR) → List S) (m : Nat) : FS := ⟨name, mu, fresh, recSem np n mu fresh ir m⟩
theorem hasFn_rec {x : Str} {np n L : Nat} {mu : Option Nat} {fresh : Bool} {ir : (List T → FR) → List S} {ds : List T} (h0 : HasFn G (L + 1) (mkFS x np n mu fresh irBad) ds)
    (hs : ∀ m, HasFn G (L + 1 + m) (recFS x np n mu fresh ir m) ds → HasFn G (L + 1 + (m + 1)) (mkFS x np n mu fresh (ir (recSem np n mu fresh ir m))) ds) : ∀ m, HasFn G (L + 1 + m) (recFS x np n mu fresh ir m) ds
  | 0 => h0
  | m + 1 => hs m (hasFn_rec h0 hs m)

/-! ### further side conditions -/
theorem sw_cell (g : Good X G k N sc W) {y : Str} {py p : Pos} {elt : Expr} {gs : List Comprehension} {scope : Scope} {line : Nat} (h : sc.names.lookup y = some .cell) : swapsWith (.ListComp elt gs scope p) (some (.Name y py)) line X.env = pure false := by
  have ky : X.env.kindOf y = some .cell := by show X.env.scope.names.lookup y = _; rw [g.hsc]; exact h
  have e1 : (some NameKind.cell == some NameKind.local) = false := by decide
  unfold swapsWith
  simp only [ky, e1, Bool.and_false, Bool.false_and] <;> rfl
theorem sw_par3 (g : Good X G k N sc W) {x y z : Str} {px py pz pt pt2 : Pos} {kt k2 : Nat} {fa fb fc : Expr} (hk : sc.kind = .function) (hx : lcB sc x = true) (hy : lcB sc y = true) (hz : lcB sc z = true) (hn : (x == y) = false) (hn2 : (x == z) = false) (hn3 : (y == z) = false) (hl : (py.line == px.line) = true) (hl2 : (pz.line == px.line) = true)
    (hf : [fa, fb, fc].all (foldedForSure 8) = false) (hc : [fa, fb, fc].all (constantsAlone 8) = false) (h1 : notStar fa = true) (h2 : notStar fb = true) (h3 : notStar fc = true) :
    swappedStores [.Tuple [.Name x px, .Name y py, .Name z pz] kt pt] (.Tuple [fa, fb, fc] k2 pt2) X.env = pure (some [x, y, z]) := by
  have kx : X.env.kindOf x = some .local := by show X.env.scope.names.lookup x = _; rw [g.hsc]; exact lc_of hx
  have ky : X.env.kindOf y = some .local := by show X.env.scope.names.lookup y = _; rw [g.hsc]; exact lc_of hy
  have kz : X.env.kindOf z = some .local := by show X.env.scope.names.lookup z = _; rw [g.hsc]; exact lc_of hz
  have hb : X.env.blockKind = .function := by unfold Env.blockKind; rw [g.hsc, hk]; rfl
  have sw : ∀ {a b : Str}, (a == b) = false → (b == a) = false := fun {a b} h => by
    cases q : b == a with
    | false => rfl
    | true => rw [beq_iff_eq.mp q] at h; simp at h
  have ed : [x, y, z].eraseDups = [x, y, z] := by
    simp [List.eraseDups_cons, sw hn, sw hn2, sw hn3]
  have e1 : (some NameKind.local == some NameKind.local) = true := by decide
  have e2 : (ScopeKind.function != ScopeKind.function) = false := by decide
  unfold swappedStores
  simp only [List.head?_cons, Option.map_some, Option.getD_some, Expr.pos, List.filterMap_cons, List.filterMap_nil, kx, ky, kz, hl, hl2, beq_self_eq_true, e1, e2, Bool.and_self, if_true, hb, ed, hf, hc, List.length_cons, List.length_nil, Bool.true_or, Bool.or_true, Bool.not_true, bne_self_eq_false, Bool.or_self, Bool.or_false, Bool.false_eq_true, if_false, Bool.and_true]
  split
  · rename_i h
    exfalso
    simp only [List.any_cons, List.any_nil, Bool.or_false, Bool.or_eq_true] at h
    rcases h with h | h | h
    · split at h
      · cases h1
      · cases h
    · split at h
      · cases h2
      · cases h
    · split at h
      · cases h3
      · cases h
  · rfl
theorem sw_fold {ts vs : List Expr} {kt k2 : Nat} {pt pt2 : Pos} {env : Env} (h : vs.all (foldedForSure 8) = true) : swappedStores [.Tuple ts kt pt] (.Tuple vs k2 pt2) env = pure none := by
  unfold swappedStores
  simp only [h, if_true]
  split
  · rfl
  · split
    · rfl
    · split <;> rfl
theorem r_par3 {n i j l : Nat} (g : Good X G (some n) N sc W) {x y z : Str} {px py pz pt pt2 : Pos} {kt k2 : Nat} {fa fb fc : Expr} {ea eb ec : E} (u : Vr N sc i x) (v : Vr N sc j y) (w : Vr N sc l z) (hij : i ≠ j) (hil : i ≠ l) (hjl : j ≠ l) (hx : lcB sc x = true) (hy : lcB sc y = true) (hz : lcB sc z = true)
    (ha : PE X fa (rdE G B W ea)) (hb : PE X fb (rdE G B W eb)) (hc : PE X fc (rdE G B W ec)) (h1 : notStar fa = true) (h2 : notStar fb = true) (h3 : notStar fc = true)
    (hw : swappedStores [.Tuple [.Name x px, .Name y py, .Name z pz] kt pt] (.Tuple [fa, fb, fc] k2 pt2) X.env = pure (some [x, y, z])) :
    PS X (.Assign [.Tuple [.Name x px, .Name y py, .Name z pz] kt pt] (.Tuple [fa, fb, fc] k2 pt2) pos) (rdS G B W (evS (.asg (.tp [.nm i, .nm j, .nm l]) (.tup (.cons ea (.cons eb (.cons ec .nil))))))) :=
  s_par3 rfl g u.hi v.hi w.hi hij hil hjl (lc_of hx) (lc_of hy) (lc_of hz) (p_cons ha (p_cons hb (p_cons hc q_nil h3) h2) h1) hw
end
end FL

/-! FS1: the evaluator stepped by simp. -/
namespace FL
open PySem L2
/-! results -/
@[simp] theorem bind_ok {α β : Type} (a : α) (s : Sls) (k : α → Sls → Rs β) : (Rs.ok a s).bind k = k a s := rfl
@[simp] theorem bind_ex {α β : Type} (c : Str) (ns : List Str) (ts : List T) (s : Sls) (k : α → Sls → Rs β) : (Rs.ex c ns ts s : Rs α).bind k = .ex c ns ts s := rfl
@[simp] theorem so_ok {α : Type} (a : α) (s : Sls) (k : α → Sls → SO) : (Rs.ok a s).so k = k a s := rfl
@[simp] theorem so_ex {α : Type} (c : Str) (ns : List Str) (ts : List T) (s : Sls) (k : α → Sls → SO) : (Rs.ex c ns ts s : Rs α).so k = .ex c ns ts s := rfl
@[simp] theorem of_some {α : Type} (a : α) (s : Sls) : Rs.of (some a) s = .ok a s := rfl
@[simp] theorem then_nx (s : Sls) (k : Sls → SO) : (SO.nx s).then k = k s := rfl
@[simp] theorem then_ret (t : T) (s : Sls) (k : Sls → SO) : (SO.ret t s).then k = .ret t s := rfl
@[simp] theorem then_retF (t : List T) (s : Sls) (k : Sls → SO) : (SO.retF t s).then k = .retF t s := rfl
@[simp] theorem then_brk (s : Sls) (k : Sls → SO) : (SO.brk s).then k = .brk s := rfl
@[simp] theorem then_cnt (s : Sls) (k : Sls → SO) : (SO.cnt s).then k = .cnt s := rfl
@[simp] theorem then_ex (c : Str) (ns : List Str) (ts : List T) (s : Sls) (k : Sls → SO) : (SO.ex c ns ts s).then k = .ex c ns ts s := rfl
/-! terms -/
@[simp] theorem e_var (i : Nat) (s : Sls) : evE (.var i) s = getV s i := rfl
@[simp] theorem e_cst (t : T) (s : Sls) : evE (.cst t) s = .ok t s := rfl
@[simp] theorem e_glo (x : Str) (t : T) (s : Sls) : evE (.glo x t) s = .ok t s := rfl
def kBin2 (op : Bop) (x y : T) (s : Sls) : Rs T := Rs.of (bop op x y) s
def kBin (op : Bop) (b : E) (x : T) (s : Sls) : Rs T := (evE b s).bind (kBin2 op x)
@[simp] theorem kBin2_ (op : Bop) (x y : T) (s : Sls) : kBin2 op x y s = Rs.of (bop op x y) s := rfl
@[simp] theorem kBin_ (op : Bop) (b : E) (x : T) (s : Sls) : kBin op b x s = (evE b s).bind (kBin2 op x) := rfl
@[simp] theorem e_bin (op : Bop) (a b : E) (s : Sls) : evE (.bin op a b) s = (evE a s).bind (kBin op b) := by simp only [evE] <;> rfl
def kNeg (x : T) (s : Sls) : Rs T := match x with | .int i => .ok (.int (-i)) s | _ => .bad
@[simp] theorem kNeg_ (i : Int) (s : Sls) : kNeg (.int i) s = .ok (.int (-i)) s := rfl
@[simp] theorem e_neg (a : E) (s : Sls) : evE (.neg a) s = (evE a s).bind kNeg := by simp only [evE] <;> rfl
def kCmp2 (op : Cop) (x y : T) (s : Sls) : Rs T := Rs.of (cop op x y) s
def kCmp (op : Cop) (b : E) (x : T) (s : Sls) : Rs T := (evE b s).bind (kCmp2 op x)
@[simp] theorem kCmp2_ (op : Cop) (x y : T) (s : Sls) : kCmp2 op x y s = Rs.of (cop op x y) s := rfl
@[simp] theorem kCmp_ (op : Cop) (b : E) (x : T) (s : Sls) : kCmp op b x s = (evE b s).bind (kCmp2 op x) := rfl
@[simp] theorem e_cmp (op : Cop) (a b : E) (s : Sls) : evE (.cmp op a b) s = (evE a s).bind (kCmp op b) := by simp only [evE] <;> rfl
def kCmpB (op : Cop) (i : Nat) (x : T) (s : Sls) : Rs T := match ownAt s i with | some ts => Rs.of (cop op x (.lst ts)) s | none => .bad
@[simp] theorem kCmpB_ (op : Cop) (i : Nat) (x : T) (s : Sls) : kCmpB op i x s = (match ownAt s i with | some ts => Rs.of (cop op x (.lst ts)) s | none => .bad) := rfl
@[simp] theorem e_cmpB (op : Cop) (a : E) (i : Nat) (s : Sls) : evE (.cmpB op a i) s = (evE a s).bind (kCmpB op i) := by simp only [evE] <;> rfl
def kNo2 (b : Bool) (s : Sls) : Rs T := .ok (.bl (!b)) s
@[simp] theorem kNo2_ (b : Bool) (s : Sls) : kNo2 b s = .ok (.bl (!b)) s := rfl
def kNo (x : T) (s : Sls) : Rs T := (truR x s).bind kNo2
@[simp] theorem kNo_ (x : T) (s : Sls) : kNo x s = (truR x s).bind kNo2 := rfl
@[simp] theorem e_no (a : E) (s : Sls) : evE (.no a) s = (evE a s).bind kNo := by simp only [evE] <;> rfl
@[simp] theorem truR_bl (b : Bool) (s : Sls) : truR (.bl b) s = .ok b s := rfl
@[simp] theorem truR_int (i : Int) (s : Sls) : truR (.int i) s = .ok (i != 0) s := rfl
@[simp] theorem truR_tup (ts : List T) (s : Sls) : truR (.tup ts) s = .ok (!ts.isEmpty) s := rfl
@[simp] theorem truR_lst (ts : List T) (s : Sls) : truR (.lst ts) s = .ok (!ts.isEmpty) s := rfl
@[simp] theorem e_bo (ia : Bool) (es : Es) (s : Sls) : evE (.bo ia es) s = evBo ia es s := by simp only [evE]
def kBo (ia : Bool) (es : Es) (x : T) (s : Sls) : Rs T := match x with
  | .bl b => if b = ia then evBo ia es s else .ok (.bl b) s
  | _ => .bad
@[simp] theorem kBo_ (ia : Bool) (es : Es) (b : Bool) (s : Sls) : kBo ia es (.bl b) s = if b = ia then evBo ia es s else .ok (.bl b) s := rfl
@[simp] theorem bo_1 (ia : Bool) (e : E) (s : Sls) : evBo ia (.cons e .nil) s = evE e s := by simp only [evBo]
@[simp] theorem bo_2 (ia : Bool) (e f : E) (es : Es) (s : Sls) : evBo ia (.cons e (.cons f es)) s = (evE e s).bind (kBo ia (.cons f es)) := by simp only [evBo] <;> rfl
def kIte (a b : E) (k : Bool) (s : Sls) : Rs T := if k then evE a s else evE b s
@[simp] theorem kIte_ (a b : E) (k : Bool) (s : Sls) : kIte a b k s = if k then evE a s else evE b s := rfl
@[simp] theorem e_ite (c : C) (a b : E) (s : Sls) : evE (.ite c a b) s = (evC c s).bind (kIte a b) := by simp only [evE] <;> rfl
def kTup (ts : List T) (s : Sls) : Rs T := if ts.length ≤ big then .ok (.tup ts) s else .bad
theorem kTup_ (ts : List T) (s : Sls) (h : ts.length ≤ big) : kTup ts s = .ok (.tup ts) s := if_pos h
@[simp] theorem kTup0 (s : Sls) : kTup [] s = .ok (.tup []) s := rfl
@[simp] theorem kTup1 (a : T) (s : Sls) : kTup [a] s = .ok (.tup [a]) s := rfl
@[simp] theorem kTup2 (a b : T) (s : Sls) : kTup [a, b] s = .ok (.tup [a, b]) s := rfl
@[simp] theorem kTup3 (a b c : T) (s : Sls) : kTup [a, b, c] s = .ok (.tup [a, b, c]) s := rfl
@[simp] theorem kTup4 (a b c d : T) (s : Sls) : kTup [a, b, c, d] s = .ok (.tup [a, b, c, d]) s := rfl
@[simp] theorem e_tup (es : Es) (s : Sls) : evE (.tup es) s = (evEs es s).bind kTup := by simp only [evE] <;> rfl
def kEs2 (x : T) (xs : List T) (s : Sls) : Rs (List T) := .ok (x :: xs) s
def kEs (es : Es) (x : T) (s : Sls) : Rs (List T) := (evEs es s).bind (kEs2 x)
@[simp] theorem kEs2_ (x : T) (xs : List T) (s : Sls) : kEs2 x xs s = .ok (x :: xs) s := rfl
@[simp] theorem kEs_ (es : Es) (x : T) (s : Sls) : kEs es x s = (evEs es s).bind (kEs2 x) := rfl
@[simp] theorem es_nil (s : Sls) : evEs .nil s = .ok [] s := by simp only [evEs]
@[simp] theorem es_cons (e : E) (es : Es) (s : Sls) : evEs (.cons e es) s = (evE e s).bind (kEs es) := by simp only [evEs] <;> rfl
def kIdx2 (x y : T) (s : Sls) : Rs T := Rs.of (idxT x y) s
def kIdx (b : E) (x : T) (s : Sls) : Rs T := (evE b s).bind (kIdx2 x)
@[simp] theorem kIdx2_ (x y : T) (s : Sls) : kIdx2 x y s = Rs.of (idxT x y) s := rfl
@[simp] theorem kIdx_ (b : E) (x : T) (s : Sls) : kIdx b x s = (evE b s).bind (kIdx2 x) := rfl
@[simp] theorem e_idx (a b : E) (s : Sls) : evE (.idx a b) s = (evE a s).bind (kIdx b) := by simp only [evE] <;> rfl
def kIdxB (i : Nat) (y : T) (s : Sls) : Rs T := match ownAt s i with | some ts => Rs.of (idxT (.lst ts) y) s | none => .bad
@[simp] theorem kIdxB_ (i : Nat) (y : T) (s : Sls) : kIdxB i y s = (match ownAt s i with | some ts => Rs.of (idxT (.lst ts) y) s | none => .bad) := rfl
@[simp] theorem e_idxB (i : Nat) (b : E) (s : Sls) : evE (.idxB i b) s = (match ownAt s i with | some _ => (evE b s).bind (kIdxB i) | none => .bad) := by simp only [evE] <;> rfl
@[simp] theorem e_bi (b : Bi) (es : Es) (s : Sls) : evE (.bi b es) s = (evEs es s).bind (fun ts s => Rs.of (biF b ts) s) := by simp only [evE]
@[simp] theorem e_lenB (i : Nat) (s : Sls) : evE (.lenB i) s = (match ownAt s i with | some ts => .ok (.int ts.length) s | none => .bad) := by simp only [evE] <;> rfl
@[simp] theorem e_tupB (i : Nat) (s : Sls) : evE (.tupB i) s = (match ownAt s i with | some ts => .ok (.tup ts) s | none => .bad) := by simp only [evE] <;> rfl
def kIsi (ks : List Ty) (x : T) (s : Sls) : Rs T := match x with
  | .scr _ => .bad
  | _ => .ok (.bl (ks.any (isTy x))) s
@[simp] theorem e_isi (a : E) (o : Bool) (ks : List Ty) (s : Sls) : evE (.isi a o ks) s = (evE a s).bind (kIsi ks) := by simp only [evE] <;> rfl
@[simp] theorem kIsi_int (ks : List Ty) (i : Int) (s : Sls) : kIsi ks (.int i) s = .ok (.bl (ks.any (isTy (.int i)))) s := rfl
@[simp] theorem kIsi_bl (ks : List Ty) (i : Bool) (s : Sls) : kIsi ks (.bl i) s = .ok (.bl (ks.any (isTy (.bl i)))) s := rfl
@[simp] theorem kIsi_str (ks : List Ty) (i : Str) (s : Sls) : kIsi ks (.str i) s = .ok (.bl (ks.any (isTy (.str i)))) s := rfl
@[simp] theorem kIsi_tup (ks : List Ty) (i : List T) (s : Sls) : kIsi ks (.tup i) s = .ok (.bl (ks.any (isTy (.tup i)))) s := rfl
@[simp] theorem kIsi_lst (ks : List Ty) (i : List T) (s : Sls) : kIsi ks (.lst i) s = .ok (.bl (ks.any (isTy (.lst i)))) s := rfl
@[simp] theorem kIsi_non (ks : List Ty) (s : Sls) : kIsi ks .non s = .ok (.bl (ks.any (isTy .non))) s := rfl
def kFrz (ts : List T) (s : Sls) : Rs T := .ok (.lst ts) s
@[simp] theorem kFrz_ (ts : List T) (s : Sls) : kFrz ts s = .ok (.lst ts) s := rfl
@[simp] theorem e_frz (m : M) (s : Sls) : evE (.frz m) s = (evM m s).bind kFrz := by simp only [evE] <;> rfl
def kCall (g : FS) (ds : List T) (fin : Bool) (avs : List AV) (s : Sls) : Rs T := after g avs ds s fin
@[simp] theorem kCall_ (g : FS) (ds : List T) (fin : Bool) (avs : List AV) (s : Sls) : kCall g ds fin avs s = after g avs ds s fin := rfl
@[simp] theorem e_call (g : FS) (as : As) (ds : List T) (s : Sls) : evE (.call g as ds) s = if g.fresh then .bad else (evAs as s).bind (kCall g ds false) := by simp only [evE] <;> rfl
def kAs2 (x : AV) (xs : List AV) (s : Sls) : Rs (List AV) := .ok (x :: xs) s
def kAs (as : As) (x : T) (s : Sls) : Rs (List AV) := (evAs as s).bind (kAs2 (.v x))
@[simp] theorem kAs2_ (x : AV) (xs : List AV) (s : Sls) : kAs2 x xs s = .ok (x :: xs) s := rfl
@[simp] theorem kAs_ (as : As) (x : T) (s : Sls) : kAs as x s = (evAs as s).bind (kAs2 (.v x)) := rfl
@[simp] theorem as_nil (s : Sls) : evAs .nil s = .ok [] s := by simp only [evAs]
@[simp] theorem as_e (e : E) (as : As) (s : Sls) : evAs (.e e as) s = (evE e s).bind (kAs as) := by simp only [evAs] <;> rfl
@[simp] theorem as_b (i : Nat) (as : As) (s : Sls) : evAs (.b i as) s = (match ownAt s i with | some _ => (evAs as s).bind (kAs2 (.r i)) | none => .bad) := by simp only [evAs] <;> rfl
/-- a call by values alone -/
@[simp] theorem after_v (g : FS) (hm : g.mu = none) (ts ds : List T) (s : Sls) (fin : Bool) : after g (ts.map .v) ds s fin = (match g.sem (ts ++ ds) with
    | .ok t _ => .ok t s
    | .ex c ns es _ => .ex c ns es s
    | .bad => .bad) := by
  have hf : fill (ts.map .v) s = some ts := by
    induction ts with
    | nil => rfl
    | cons t r ih => simp [fill, ih]
  have hl : ∀ k, lent (ts.map .v) k none = [] := by
    induction ts with
    | nil => intro k; rfl
    | cons t r ih =>
      intro k
      have : fill (r.map .v) s = some r := by
        clear ih hf
        induction r with
        | nil => rfl
        | cons t r ih => simp [fill, ih]
      simp [lent, ih this]
  unfold after
  rw [hf, hm]
  simp only [muAt, hl, hasMi, Bool.false_eq_true, if_false, retOk, excOk, List.isEmpty_nil, Bool.true_or, if_true, putMi] <;> rfl
/-! conditions -/
@[simp] theorem c_e (e : E) (s : Sls) : evC (.e e) s = (evE e s).bind truR := by simp only [evC]
def kCC2 (op : Cop) (x y : T) (s : Sls) : Rs Bool := isB (cop op x y) s
def kCC (op : Cop) (b : E) (x : T) (s : Sls) : Rs Bool := (evE b s).bind (kCC2 op x)
@[simp] theorem kCC2_ (op : Cop) (x y : T) (s : Sls) : kCC2 op x y s = isB (cop op x y) s := rfl
@[simp] theorem kCC_ (op : Cop) (b : E) (x : T) (s : Sls) : kCC op b x s = (evE b s).bind (kCC2 op x) := rfl
@[simp] theorem c_cmp (op : Cop) (a b : E) (s : Sls) : evC (.cmp op a b) s = (evE a s).bind (kCC op b) := by simp only [evC] <;> rfl
def kCCB (op : Cop) (i : Nat) (x : T) (s : Sls) : Rs Bool := match ownAt s i with | some ts => isB (cop op x (.lst ts)) s | none => .bad
@[simp] theorem kCCB_ (op : Cop) (i : Nat) (x : T) (s : Sls) : kCCB op i x s = (match ownAt s i with | some ts => isB (cop op x (.lst ts)) s | none => .bad) := rfl
@[simp] theorem c_cmpB (op : Cop) (a : E) (i : Nat) (s : Sls) : evC (.cmpB op a i) s = (evE a s).bind (kCCB op i) := by simp only [evC] <;> rfl
@[simp] theorem isB_some (b : Bool) (s : Sls) : isB (some (.bl b)) s = .ok b s := rfl
def kNoC (b : Bool) (s : Sls) : Rs Bool := .ok (!b) s
@[simp] theorem kNoC_ (b : Bool) (s : Sls) : kNoC b s = .ok (!b) s := rfl
@[simp] theorem c_no (c : C) (s : Sls) : evC (.no c) s = (evC c s).bind kNoC := by simp only [evC] <;> rfl
@[simp] theorem c_bo (ia : Bool) (cs : Cs) (s : Sls) : evC (.bo ia cs) s = evCs ia cs s := by simp only [evC]
def kCs (ia : Bool) (cs : Cs) (b : Bool) (s : Sls) : Rs Bool := if b = ia then evCs ia cs s else .ok b s
@[simp] theorem kCs_ (ia : Bool) (cs : Cs) (b : Bool) (s : Sls) : kCs ia cs b s = if b = ia then evCs ia cs s else .ok b s := rfl
@[simp] theorem cs_1 (ia : Bool) (c : C) (s : Sls) : evCs ia (.cons c .nil) s = evC c s := by simp only [evCs]
@[simp] theorem cs_2 (ia : Bool) (c d : C) (cs : Cs) (s : Sls) : evCs ia (.cons c (.cons d cs)) s = (evC c s).bind (kCs ia (.cons d cs)) := by simp only [evCs] <;> rfl
@[simp] theorem c_trB (i : Nat) (s : Sls) : evC (.trB i) s = (match ownAt s i with | some ts => .ok (!ts.isEmpty) s | none => .bad) := by simp only [evC] <;> rfl
/-! statements -/
@[simp] theorem ss_nil_ (s : Sls) : evSs [] s = .nx s := by simp only [evSs]
@[simp] theorem ss_cons_ (x : S) (xs : List S) (s : Sls) : evSs (x :: xs) s = (evS x s).then (evSs xs) := by simp only [evSs]
def kAsg (g : Tg) (t : T) (s : Sls) : SO := match setTg g t s with | some s => .nx s | none => .bad
@[simp] theorem kAsg_ (g : Tg) (t : T) (s : Sls) : kAsg g t s = (match setTg g t s with | some s => .nx s | none => .bad) := rfl
@[simp] theorem s_asg_ (g : Tg) (e : E) (s : Sls) : evS (.asg g e) s = (evE e s).so (kAsg g) := by simp only [evS] <;> rfl
def kAsgM (i : Nat) (ts : List T) (s : Sls) : SO := if isMp s i then .bad else .nx (s.set i (.mu ts))
@[simp] theorem kAsgM_ (i : Nat) (ts : List T) (s : Sls) : kAsgM i ts s = if isMp s i then .bad else .nx (s.set i (.mu ts)) := rfl
@[simp] theorem s_asgM_ (i : Nat) (m : M) (s : Sls) : evS (.asgM i m) s = (evM m s).so (kAsgM i) := by simp only [evS] <;> rfl
@[simp] theorem s_ret_ (e : E) (s : Sls) : evS (.ret e) s = (evE e s).so SO.ret := by simp only [evS]
@[simp] theorem s_retM_ (m : M) (s : Sls) : evS (.retM m) s = (evM m s).so SO.retF := by simp only [evS]
@[simp] theorem s_retN_ (s : Sls) : evS .retN s = .ret .non s := by simp only [evS]
@[simp] theorem s_pass_ (s : Sls) : evS .pass s = .nx s := by simp only [evS]
@[simp] theorem s_brk_ (s : Sls) : evS .brk s = .brk s := by simp only [evS]
@[simp] theorem s_cnt_ (s : Sls) : evS .cnt s = .cnt s := by simp only [evS]
def kIf (a b : List S) (k : Bool) (s : Sls) : SO := if k then evSs a s else evSs b s
@[simp] theorem kIf_ (a b : List S) (k : Bool) (s : Sls) : kIf a b k s = if k then evSs a s else evSs b s := rfl
@[simp] theorem s_if_ (c : C) (a b : List S) (s : Sls) : evS (.ifS c a b) s = (evC c s).so (kIf a b) := by simp only [evS] <;> rfl
def kFor (g : Tg) (b : List S) (xs : List T) (s : Sls) : SO := forL g (evSs b) xs s
@[simp] theorem kFor_ (g : Tg) (b : List S) (xs : List T) (s : Sls) : kFor g b xs s = forL g (evSs b) xs s := rfl
@[simp] theorem s_for_ (g : Tg) (it : It) (b : List S) (s : Sls) : evS (.forS g it b) s = (evIt it s).so (kFor g b) := by simp only [evS] <;> rfl
@[simp] theorem s_whl_ (n : Nat) (c : C) (b : List S) (s : Sls) : evS (.whl n c b) s = whileL (evC c) (evSs b) n s := by simp only [evS]
def kRai (c : Str) (np : Nat) (sel : List (Str × Nat)) (ts : List T) (s : Sls) : SO := if ts.length = np then (match selV sel ts with | some us => .ex c (sel.map (·.1)) us s | none => .bad) else .bad
@[simp] theorem kRai_ (c : Str) (np : Nat) (sel : List (Str × Nat)) (ts : List T) (s : Sls) : kRai c np sel ts s = if ts.length = np then (match selV sel ts with | some us => .ex c (sel.map (·.1)) us s | none => .bad) else .bad := rfl
@[simp] theorem s_rai_ (c : Str) (np : Nat) (sel : List (Str × Nat)) (es : Es) (s : Sls) : evS (.rai c np sel es) s = (evEs es s).so (kRai c np sel) := by simp only [evS] <;> rfl
def kApp (i : Nat) (t : T) (s : Sls) : SO := match ownAt s i with
      | some ts => if ts.length < big then .nx (putOwn s i (ts ++ [t])) else .bad
      | none => .bad
@[simp] theorem kApp_ (i : Nat) (t : T) (s : Sls) : kApp i t s = (match ownAt s i with
      | some ts => if ts.length < big then .nx (putOwn s i (ts ++ [t])) else .bad
      | none => .bad) := rfl
@[simp] theorem s_app_ (i : Nat) (e : E) (s : Sls) : evS (.app i e) s = (match ownAt s i with | some _ => (evE e s).so (kApp i) | none => .bad) := by simp only [evS] <;> rfl
/-! items -/
theorem ixN_lit {n : Nat} {i : Int} (h0 : 0 ≤ i) (h1 : i < n) : ixN n i = some i.toNat := by
  unfold ixN
  rw [if_pos h0, if_pos h1]
@[simp] theorem atI_0 (x : T) (xs : List T) : atI (x :: xs) 0 = some x := by
  unfold atI
  rw [ixN_lit (by omega) (by simp only [List.length_cons]; omega)]
  rfl
@[simp] theorem atI_1 (x y : T) (xs : List T) : atI (x :: y :: xs) 1 = some y := by
  unfold atI
  rw [ixN_lit (by omega) (by simp only [List.length_cons]; omega)]
  rfl
@[simp] theorem atI_2 (x y z : T) (xs : List T) : atI (x :: y :: z :: xs) 2 = some z := by
  unfold atI
  rw [ixN_lit (by omega) (by simp only [List.length_cons]; omega)]
  rfl
@[simp] theorem atI_3 (x y z w : T) (xs : List T) : atI (x :: y :: z :: w :: xs) 3 = some w := by
  unfold atI
  rw [ixN_lit (by omega) (by simp only [List.length_cons]; omega)]
  rfl
@[simp] theorem idx_tup (ts : List T) (i : Int) : idxT (.tup ts) (.int i) = atI ts i := rfl
@[simp] theorem idx_lst (ts : List T) (i : Int) : idxT (.lst ts) (.int i) = atI ts i := rfl
/-! operators -/
@[simp] theorem b_add (i j : Int) : bop .add (.int i) (.int j) = some (.int (i + j)) := rfl
@[simp] theorem b_sub (i j : Int) : bop .sub (.int i) (.int j) = some (.int (i - j)) := rfl
theorem b_mul (i j : Int) (h : MulOk i j = true) : bop .mul (.int i) (.int j) = some (.int (i * j)) := if_pos h
theorem b_fdiv (i j : Int) (h : j ≠ 0) (h2 : j.natAbs.log2 < 9000) : bop .fdiv (.int i) (.int j) = some (.int (i.fdiv j)) := if_pos ⟨h, h2⟩
theorem b_mod (i j : Int) (h : j ≠ 0) : bop .mod (.int i) (.int j) = some (.int (i.fmod j)) := if_pos h
@[simp] theorem c_lt (i j : Int) : cop .lt (.int i) (.int j) = some (.bl (decide (i < j))) := rfl
@[simp] theorem c_le (i j : Int) : cop .le (.int i) (.int j) = some (.bl (decide (i ≤ j))) := rfl
@[simp] theorem c_gt (i j : Int) : cop .gt (.int i) (.int j) = some (.bl (decide (j < i))) := rfl
@[simp] theorem c_ge (i j : Int) : cop .ge (.int i) (.int j) = some (.bl (decide (j ≤ i))) := rfl
@[simp] theorem c_eqI (i j : Int) : cop .eq (.int i) (.int j) = some (.bl (i == j)) := rfl
@[simp] theorem c_neI (i j : Int) : cop .ne (.int i) (.int j) = some (.bl (!(i == j))) := rfl
end FL

/-! FS2: more steps: try, lists that are changed, loops, iterables. -/
namespace FL
open PySem L2
def kTry (yes no : List Str) (x : Option Nat) (h : List S) : SO → SO
  | .ex c ns ts s1 => if yes.contains c then (match x with
        | none => noEx (evSs h s1)
        | some i => if isMp s1 i then .bad else leaveX i (evSs h (s1.set i (.xc c ns ts)))) else if no.contains c then .ex c ns ts s1 else .bad
  | r => r
@[simp] theorem s_try_ (b : List S) (yes no : List Str) (x : Option Nat) (h : List S) (s : Sls) : evS (.tryS b yes no x h) s = kTry yes no x h (evSs b s) := by
  simp only [evS]
  cases evSs b s <;> rfl
@[simp] theorem kTry_nx (yes no : List Str) (x : Option Nat) (h : List S) (s : Sls) : kTry yes no x h (.nx s) = .nx s := rfl
@[simp] theorem kTry_ret (yes no : List Str) (x : Option Nat) (h : List S) (t : T) (s : Sls) : kTry yes no x h (.ret t s) = .ret t s := rfl
@[simp] theorem kTry_ex (yes no : List Str) (i : Nat) (h : List S) (c : Str) (ns : List Str) (ts : List T) (s1 : Sls) (hy : yes.contains c = true) (hm : isMp s1 i = false) : kTry yes no (some i) h (.ex c ns ts s1) = leaveX i (evSs h (s1.set i (.xc c ns ts))) := by
  unfold kTry
  simp only [hy, if_true, hm, Bool.false_eq_true, if_false]
@[simp] theorem leaveX_ret (i : Nat) (t : T) (s : Sls) (h : noXc (s.set i .un) = true) : leaveX i (.ret t s) = .ret t (s.set i .un) := if_pos h
@[simp] theorem leaveX_nx (i : Nat) (s : Sls) (h : noXc (s.set i .un) = true) : leaveX i (.nx s) = .nx (s.set i .un) := if_pos h
theorem e_exf (i : Nat) (f : Str) (cs : List Str) (s : Sls) : evE (.exf i f cs) s = (match s[i]? with
    | some (.xc c ns ts) => if cs.contains c then Rs.of (fldT f ns ts) s else .bad
    | _ => .bad) := by simp only [evE] <;> rfl
def kDisp (ts : List T) (s : Sls) : Rs (List T) := if ts.length ≤ big then .ok ts s else .bad
theorem kDisp_ (ts : List T) (s : Sls) (h : ts.length ≤ big) : kDisp ts s = .ok ts s := if_pos h
@[simp] theorem m_disp (es : Es) (s : Sls) : evM (.disp es) s = (evEs es s).bind kDisp := by simp only [evM] <;> rfl
def kCat2 (x y : T) (s : Sls) : Rs (List T) := match x, y with
    | .lst xs, .lst ys => if xs.length + ys.length ≤ big then .ok (xs ++ ys) s else .bad
    | _, _ => .bad
def kCat (b : E) (x : T) (s : Sls) : Rs (List T) := (evE b s).bind (kCat2 x)
@[simp] theorem kCat_ (b : E) (x : T) (s : Sls) : kCat b x s = (evE b s).bind (kCat2 x) := rfl
@[simp] theorem kCat2_ (xs ys : List T) (s : Sls) : kCat2 (.lst xs) (.lst ys) s = if xs.length + ys.length ≤ big then .ok (xs ++ ys) s else .bad := rfl
@[simp] theorem m_cat (a b : E) (s : Sls) : evM (.cat a b) s = (evE a s).bind (kCat b) := by simp only [evM] <;> rfl
@[simp] theorem m_lstB (i : Nat) (s : Sls) : evM (.lstB i) s = Rs.of (ownAt s i) s := by simp only [evM]
@[simp] theorem m_call (g : FS) (as : As) (ds : List T) (s : Sls) : evM (.call g as ds) s = if g.fresh then (evAs as s).bind fun avs s => (after g avs ds s true).bind fun t s => match t with
    | .lst ts => .ok ts s
    | _ => .bad else .bad := by simp only [evM] <;> rfl
def kSeq (x : T) (s : Sls) : Rs (List T) := match x with
    | .str z => .ok (signs z) s
    | _ => Rs.of (items x) s
@[simp] theorem kSeq_lst (ts : List T) (s : Sls) : kSeq (.lst ts) s = .ok ts s := rfl
@[simp] theorem kSeq_tup (ts : List T) (s : Sls) : kSeq (.tup ts) s = .ok ts s := rfl
@[simp] theorem kSeq_scr (ts : List T) (s : Sls) : kSeq (.scr ts) s = .ok ts s := rfl
@[simp] theorem kSeq_str (z : Str) (s : Sls) : kSeq (.str z) s = .ok (signs z) s := rfl
@[simp] theorem i_seq_ (e : E) (s : Sls) : evIt (.seq e) s = (evE e s).bind kSeq := by simp only [evIt] <;> rfl
def kRng (x : T) (s : Sls) : Rs (List T) := match x with
    | .int j => if -(2 ^ 62) ≤ j ∧ j < 2 ^ 62 then .ok ((List.range j.toNat).map fun k => .int (k : Nat)) s else .bad
    | _ => .bad
theorem kRng_ (j : Int) (s : Sls) (h : -(2 ^ 62) ≤ j ∧ j < 2 ^ 62) : kRng (.int j) s = .ok ((List.range j.toNat).map fun k => .int (k : Nat)) s := if_pos h
@[simp] theorem i_rng_ (e : E) (s : Sls) : evIt (.rng1 e) s = (evE e s).bind kRng := by simp only [evIt] <;> rfl
def kSetI2 (i : Nat) (t x : T) (s : Sls) : SO := match ownAt s i, x with
      | some ts, .int j => (match ixN ts.length j with | some n => .nx (putOwn s i (ts.set n t)) | none => .bad)
      | _, _ => .bad
def kSetI (i : Nat) (k : E) (t : T) (s : Sls) : SO := match ownAt s i with
    | some _ => (evE k s).so (kSetI2 i t)
    | none => .bad
@[simp] theorem kSetI2_ (i : Nat) (t : T) (j : Int) (s : Sls) : kSetI2 i t (.int j) s = (match ownAt s i with
      | some ts => (match ixN ts.length j with | some n => .nx (putOwn s i (ts.set n t)) | none => .bad)
      | none => .bad) := by
  unfold kSetI2
  cases ownAt s i <;> rfl
@[simp] theorem kSetI_ (i : Nat) (k : E) (t : T) (s : Sls) : kSetI i k t s = (match ownAt s i with
    | some _ => (evE k s).so (kSetI2 i t)
    | none => .bad) := rfl
@[simp] theorem s_setI_ (i : Nat) (k e : E) (s : Sls) : evS (.setI i k e) s = (evE e s).so (kSetI i k) := by simp only [evS] <;> rfl
@[simp] theorem s_expr_ (e : E) (s : Sls) : evS (.expr e) s = (evE e s).so fun _ s => .nx s := by simp only [evS]
/-- a call that changes its first argument -/
theorem after_r0 {g : FS} (hm : g.mu = some 0) {i : Nat} {ts : List T} {vs : List T} {s : Sls} {t : T} {o : List T} (h : ownAt s i = some ts) (e : g.sem (.lst ts :: vs) = .ok t o) : after g (.r i :: vs.map .v) [] s false = .ok t (putOwn s i o) := by
  have hf : fill (vs.map .v) s = some vs := by
    induction vs with
    | nil => rfl
    | cons t r ih => 
      have : ∀ vs : List T, fill (vs.map .v) s = some vs := fun vs => by
        induction vs with
        | nil => rfl
        | cons t r ih => simp [fill, ih]
      exact this _
  have hl : ∀ (vs : List T) k, lent (vs.map .v) k (some 0) = [] := fun vs => by
    induction vs with
    | nil => intro k; rfl
    | cons t r ih => intro k; simp [lent, ih]
  unfold after
  simp only [fill, h, hf, hm, Option.map_some, muAt, List.getElem?_cons_zero, lent, if_true, hl, hasMi, List.contains_nil, Bool.false_eq_true, if_false, List.append_nil, e, retOk, List.isEmpty_nil, Bool.true_or, putMi]
theorem seq_nx {x : S} {xs : List S} {s s1 : Sls} {r : SO} (h : evS x s = .nx s1) (h2 : evSs xs s1 = r) : evSs (x :: xs) s = r := by
  rw [ss_cons_, h, then_nx, h2]
theorem seq_ret {x : S} {xs : List S} {s s1 : Sls} {t : T} (h : evS x s = .ret t s1) : evSs (x :: xs) s = .ret t s1 := by
  rw [ss_cons_, h, then_ret]
/-- a def's meaning from its body's end -/
theorem sem_ret {name : Str} {np n : Nat} {mu : Option Nat} {body : List S} {ts : List T} {s0 s1 : Sls} {t : T} {o : List T} (hl : ts.length = np) (h0 : startS mu ts 0 = some s0) (hb : evSs body (s0 ++ List.replicate n .un) = .ret t s1) (ho : outS mu s1 = some o) :
    (mkFS name np n mu false body).sem ts = .ok t o := by
  show mkSem np n mu false body ts = _
  unfold mkSem
  rw [if_pos hl, h0]
  simp only
  rw [hb]
  simp only [Bool.false_eq_true, if_false, ho]
theorem sem_retF {name : Str} {np n : Nat} {mu : Option Nat} {body : List S} {ts us : List T} {s0 s1 : Sls} {o : List T} (hl : ts.length = np) (h0 : startS mu ts 0 = some s0) (hb : evSs body (s0 ++ List.replicate n .un) = .retF us s1) (ho : outS mu s1 = some o) :
    (mkFS name np n mu true body).sem ts = .ok (.lst us) o := by
  show mkSem np n mu true body ts = _
  unfold mkSem
  rw [if_pos hl, h0]
  simp only
  rw [hb]
  simp only [if_true, ho]
theorem sem_ex {name : Str} {np n : Nat} {mu : Option Nat} {fr : Bool} {body : List S} {ts us : List T} {s0 s1 : Sls} {o : List T} {c : Str} {ns : List Str} (hl : ts.length = np) (h0 : startS mu ts 0 = some s0) (hb : evSs body (s0 ++ List.replicate n .un) = .ex c ns us s1) (ho : outS mu s1 = some o) :
    (mkFS name np n mu fr body).sem ts = .ex c ns us o := by
  show mkSem np n mu fr body ts = _
  unfold mkSem
  rw [if_pos hl, h0]
  simp only
  rw [hb]
  simp only [ho]
theorem seq_ex {x : S} {xs : List S} {s s1 : Sls} {c : Str} {ns : List Str} {ts : List T} (h : evS x s = .ex c ns ts s1) : evSs (x :: xs) s = .ex c ns ts s1 := by
  rw [ss_cons_, h, then_ex]
theorem forL_step {g : Tg} {body : Sls → SO} {x : T} {xs : List T} {s s1 s2 : Sls} (h1 : setTg g x s = some s1) (h2 : body s1 = .nx s2) : forL g body (x :: xs) s = forL g body xs s2 := by
  rw [forL, h1]
  simp only
  rw [h2]
theorem forL_ret {g : Tg} {body : Sls → SO} {x : T} {xs : List T} {s s1 s2 : Sls} {t : T} (h1 : setTg g x s = some s1) (h2 : body s1 = .ret t s2) : forL g body (x :: xs) s = .ret t s2 := by
  rw [forL, h1]
  simp only
  rw [h2]
theorem forL_nil {g : Tg} {body : Sls → SO} {s : Sls} : forL g body [] s = .nx s := by rw [forL]
end FL

/-! FS3: comprehensions, loops, picks: what every plain law uses. -/
namespace FL
open PySem L2
theorem step_ {x : S} {xs : List S} {s s1 : Sls} (h : evS x s = .nx s1) : evSs (x :: xs) s = evSs xs s1 := by
  rw [ss_cons_, h, then_nx]
theorem seq_retF {x : S} {xs : List S} {s s1 : Sls} {t : List T} (h : evS x s = .retF t s1) : evSs (x :: xs) s = .retF t s1 := by
  rw [ss_cons_, h, then_retF]
theorem setTg_nm (i : Nat) (t : T) (s : Sls) : setTg (.nm i) t s = if isMp s i then none else some (s.set i (.im t)) := by simp only [setTg]
theorem setTg_tup (gs : List Tg) (ts : List T) (s : Sls) : setTg (.tp gs) (.tup ts) s = setTgs gs ts s := by simp only [setTg]
theorem setTg_lst (gs : List Tg) (ts : List T) (s : Sls) : setTg (.tp gs) (.lst ts) s = setTgs gs ts s := by simp only [setTg]
/-- a call by values -/
theorem callV {g : FS} (hm : g.mu = none) {ts : List T} {avs : List AV} (e : avs = ts.map .v) {t : T} {o : List T} (h : g.sem ts = .ok t o) (s : Sls) (fin : Bool) : after g avs [] s fin = .ok t s := by
  subst e
  rw [after_v g hm, List.append_nil, h]
theorem callVd {g : FS} (hm : g.mu = none) {ts ds : List T} {avs : List AV} (e : avs = ts.map .v) {t : T} {o : List T} (h : g.sem (ts ++ ds) = .ok t o) (s : Sls) (fin : Bool) : after g avs ds s fin = .ok t s := by
  subst e
  rw [after_v g hm, h]
theorem callE {g : FS} (hm : g.mu = none) {ts ds : List T} {avs : List AV} (e : avs = ts.map .v) {c : Str} {ns : List Str} {es o : List T} (h : g.sem (ts ++ ds) = .ex c ns es o) (s : Sls) (fin : Bool) : after g avs ds s fin = .ex c ns es s := by
  subst e
  rw [after_v g hm, h]
/-- a call by a slot's own list, which it only reads -/
theorem callB {g : FS} (hm : g.mu = none) {i : Nat} {ts : List T} {s : Sls} {t : T} {o : List T} (h : ownAt s i = some ts) (e : g.sem [.lst ts] = .ok t o) (hn : noL t = true) (ho : noLs o = true) : after g [.r i] [] s false = .ok t s := by
  unfold after
  simp only [fill, h, hm, Option.map_some, muAt, lent, reduceCtorEq, if_false, hasMi, Bool.false_eq_true, List.append_nil, e, retOk, ho, hn, Bool.and_self, Bool.or_true, if_true, putMi]
/-! ### comprehensions -/
theorem compMap {own : List Nat} {s0 s : Sls} {g : Tg} {tst : Sls → Rs Bool} {elt : Sls → Rs T} {f : T → T} : ∀ (xs acc : List T), acc.length + xs.length ≤ big → (∀ x ∈ xs, ∃ s1 s2, setTg g x s = some s1 ∧ tst s1 = .ok true s1 ∧ elt s1 = .ok (f x) s2 ∧ wipeS s2 own = s) → compL own s0 g tst elt xs acc s = .ok (acc ++ xs.map f) s := by
  intro xs
  induction xs with
  | nil => intro acc h _; simp [compL]
  | cons x xs ih =>
    intro acc hl h
    obtain ⟨s1, s2, h1, h2, h3, h4⟩ := h x (by simp)
    rw [compL, h1]
    simp only [h2, h3]
    rw [if_pos (by simp at hl; omega)]
    rw [show compL.wipeS s2 own = s from h4]
    rw [ih (acc ++ [f x]) (by simp at hl ⊢; omega) (fun y hy => h y (List.mem_cons_of_mem _ hy))]
    simp
theorem comp_map {own : List Nat} {g : Tg} {it : FL.It} {elt : E} {s s0 : Sls} {xs : List T} {f : T → T} (hit : evIt it s0 = .ok xs s) (hno : noOwn s own = true) (hw : wipeS s own = s) (hb : backS s s own = s) (hl : xs.length ≤ big) (h : ∀ x ∈ xs, ∃ s1 s2, setTg g x s = some s1 ∧ evE elt s1 = .ok (f x) s2 ∧ wipeS s2 own = s) : evM (.comp own g it .nil elt) s0 = .ok (xs.map f) s := by
  simp only [evM, hit, bind_ok, hno, if_true]
  rw [hw]
  rw [compMap (f := f) xs [] (by simpa using hl) (fun x hx => by
    obtain ⟨s1, s2, h1, h2, h3⟩ := h x hx
    exact ⟨s1, s2, h1, by simp only [evTs], h2, h3⟩)]
  simp only [bind_ok, hb, List.nil_append]
/-- with a test: those that pass -/
theorem compIf {own : List Nat} {s0 s : Sls} {g : Tg} {tst : Sls → Rs Bool} {elt : Sls → Rs T} {f : T → T} {p : T → Bool} : ∀ (xs acc : List T), acc.length + xs.length ≤ big → (∀ x ∈ xs, ∃ s1 s2 s3, setTg g x s = some s1 ∧ tst s1 = .ok (p x) s2 ∧ wipeS s2 own = s ∧ (p x = true → elt s2 = .ok (f x) s3 ∧ wipeS s3 own = s)) → compL own s0 g tst elt xs acc s = .ok (acc ++ (xs.filter p).map f) s := by
  intro xs
  induction xs with
  | nil => intro acc h _; simp [compL]
  | cons x xs ih =>
    intro acc hl h
    obtain ⟨s1, s2, s3, h1, h2, h3, h4⟩ := h x (by simp)
    rw [compL, h1]
    simp only [h2]
    cases hp : p x with
    | true =>
      obtain ⟨h5, h6⟩ := h4 hp
      simp only [h5]
      rw [if_pos (by simp at hl; omega), show compL.wipeS s3 own = s from h6, ih (acc ++ [f x]) (by simp at hl ⊢; omega) (fun y hy => h y (List.mem_cons_of_mem _ hy))]
      simp [hp]
    | false =>
      simp only
      rw [show compL.wipeS s2 own = s from h3, ih acc (by simp at hl ⊢; omega) (fun y hy => h y (List.mem_cons_of_mem _ hy))]
      simp [hp]
theorem comp_if {own : List Nat} {g : Tg} {it : FL.It} {c : C} {elt : E} {s s0 : Sls} {xs : List T} {f : T → T} {p : T → Bool} (hit : evIt it s0 = .ok xs s) (hno : noOwn s own = true) (hw : wipeS s own = s) (hb : backS s s own = s) (hl : xs.length ≤ big) (h : ∀ x ∈ xs, ∃ s1 s2 s3, setTg g x s = some s1 ∧ evC c s1 = .ok (p x) s2 ∧ wipeS s2 own = s ∧ (p x = true → evE elt s2 = .ok (f x) s3 ∧ wipeS s3 own = s)) : evM (.comp own g it (.cons c .nil) elt) s0 = .ok ((xs.filter p).map f) s := by
  simp only [evM, hit, bind_ok, hno, if_true]
  rw [hw]
  rw [compIf (f := f) (p := p) xs [] (by simpa using hl) (fun x hx => by
    obtain ⟨s1, s2, s3, h1, h2, h3, h4⟩ := h x hx
    exact ⟨s1, s2, s3, h1, by simp only [evTs]; exact h2, h3, h4⟩)]
  simp only [bind_ok, hb, List.nil_append]
/-- none passes the test -/
theorem comp_none {own : List Nat} {g : Tg} {it : FL.It} {c : C} {elt : E} {s s0 : Sls} {xs : List T} (hit : evIt it s0 = .ok xs s) (hno : noOwn s own = true) (hw : wipeS s own = s) (hb : backS s s own = s) (hl : xs.length ≤ big) (h : ∀ x ∈ xs, ∃ s1 s2, setTg g x s = some s1 ∧ evC c s1 = .ok false s2 ∧ wipeS s2 own = s) : evM (.comp own g it (.cons c .nil) elt) s0 = .ok [] s := by
  have := comp_if (elt := elt) (f := fun x => x) (p := fun _ => false) hit hno hw hb hl (fun x hx => by
    obtain ⟨s1, s2, h1, h2, h3⟩ := h x hx
    exact ⟨s1, s2, s2, h1, h2, h3, fun z => by cases z⟩)
  have e : xs.filter (fun _ => false) = [] := by
    induction xs with
    | nil => rfl
    | cons _ _ ih => simp
  rw [e] at this
  exact this
/-- elements that change slots: by an invariant -/
theorem compRel {own : List Nat} {s0 : Sls} {g : Tg} {tst : Sls → Rs Bool} {elt : Sls → Rs T} {P : Sls → Prop} {Q : T → Prop} : ∀ (xs acc : List T) (s : Sls), acc.length + xs.length ≤ big → P s → (∀ s, P s → ∀ x ∈ xs, ∃ s1 s2 y, setTg g x s = some s1 ∧ tst s1 = .ok true s1 ∧ elt s1 = .ok y s2 ∧ Q y ∧ P (wipeS s2 own)) → ∃ ys s', ys.length = xs.length ∧ (∀ y ∈ ys, Q y) ∧ P s' ∧ compL own s0 g tst elt xs acc s = .ok (acc ++ ys) s' := by
  intro xs
  induction xs with
  | nil => intro acc s h hp _; exact ⟨[], s, rfl, by simp, hp, by simp [compL]⟩
  | cons x xs ih =>
    intro acc s hl hp h
    obtain ⟨s1, s2, y, h1, h2, h3, h4, h5⟩ := h s hp x (by simp)
    obtain ⟨ys, s', a1, a2, a3, a4⟩ := ih (acc ++ [y]) (wipeS s2 own) (by simp at hl ⊢; omega) h5 (fun s hs z hz => h s hs z (List.mem_cons_of_mem _ hz))
    refine ⟨y :: ys, s', by simp [a1], fun z hz => ?_, a3, ?_⟩
    · rcases List.mem_cons.mp hz with rfl | hz
      · exact h4
      · exact a2 z hz
    · rw [compL, h1]
      simp only [h2, h3]
      rw [if_pos (by simp at hl; omega)]
      refine a4.trans ?_
      simp
theorem comp_rel {own : List Nat} {g : Tg} {it : FL.It} {elt : E} {s s1 : Sls} {xs : List T} {P : Sls → Prop} {Q : T → Prop} (hit : evIt it s = .ok xs s1) (hno : noOwn s1 own = true) (hl : xs.length ≤ big) (hp : P (wipeS s1 own)) (h : ∀ s, P s → ∀ x ∈ xs, ∃ s1 s2 y, setTg g x s = some s1 ∧ evE elt s1 = .ok y s2 ∧ Q y ∧ P (wipeS s2 own)) : ∃ ys s', ys.length = xs.length ∧ (∀ y ∈ ys, Q y) ∧ P s' ∧ evM (.comp own g it .nil elt) s = .ok ys (backS s1 s' own) := by
  obtain ⟨ys, s', a1, a2, a3, a4⟩ := compRel (own := own) (s0 := s1) (g := g) (tst := evTs .nil) (elt := evE elt) (P := P) (Q := Q) xs [] (wipeS s1 own) (by simpa using hl) hp (fun s hs x hx => by
    obtain ⟨s1, s2, y, b1, b2, b3, b4⟩ := h s hs x hx
    exact ⟨s1, s2, y, b1, by simp only [evTs], b2, b3, b4⟩)
  refine ⟨ys, s', a1, a2, a3, ?_⟩
  simp only [evM, hit, bind_ok, hno, if_true]
  rw [a4]
  simp only [bind_ok, List.nil_append]
/-- a list told by what its items stand for -/
theorem list_of {α : Type} {f : α → T} {Q : α → Prop} : ∀ ys : List T, (∀ y ∈ ys, ∃ p, Q p ∧ y = f p) → ∃ ps : List α, ys = ps.map f ∧ ∀ p ∈ ps, Q p
  | [], _ => ⟨[], rfl, by simp⟩
  | y :: ys, h => by
    obtain ⟨z, hz, rfl⟩ := h y (by simp)
    obtain ⟨zs, rfl, h2⟩ := list_of ys (fun u hu => h u (List.mem_cons_of_mem _ hu))
    exact ⟨z :: zs, rfl, fun u hu => by
      rcases List.mem_cons.mp hu with rfl | hu
      · exact hz
      · exact h2 u hu⟩
/-! ### loops -/
/-- a loop whose turns keep an invariant over what has been seen -/
theorem forL_inv {g : Tg} {body : Sls → SO} {P : List T → Sls → Prop} : ∀ (xs seen : List T) (s : Sls), P seen s → (∀ pre x post s, pre ++ x :: post = seen ++ xs → P pre s → ∃ s1 s2, setTg g x s = some s1 ∧ body s1 = .nx s2 ∧ P (pre ++ [x]) s2) → ∃ s', P (seen ++ xs) s' ∧ forL g body xs s = .nx s' := by
  intro xs
  induction xs with
  | nil => intro seen s h _; exact ⟨s, by simpa using h, forL_nil⟩
  | cons x xs ih =>
    intro seen s h hs
    obtain ⟨s1, s2, h1, h2, h3⟩ := hs seen x xs s rfl h
    obtain ⟨s', a1, a2⟩ := ih (seen ++ [x]) s2 h3 (fun pre y post s e hp => hs pre y post s (by rw [e]; simp) hp)
    exact ⟨s', by simpa using a1, (forL_step h1 h2).trans a2⟩
/-- an item at an index in bounds -/
theorem atF {α : Type} {f : α → T} {xs : List α} {z : Int} (h0 : 0 ≤ z) (h1 : z < xs.length) : ∃ x ∈ xs, L2.atI (xs.map f) z = some (f x) := by
  have hn : z.toNat < xs.length := by omega
  refine ⟨xs[z.toNat], List.getElem_mem _, ?_⟩
  unfold L2.atI
  rw [ixN_lit h0 (by rw [List.length_map]; exact h1)]
  simp [hn]
theorem atN {α : Type} {f : α → T} {xs : List α} {n : Nat} (h : n < xs.length) : L2.atI (xs.map f) (n : Int) = some (f xs[n]) := by
  unfold L2.atI
  rw [ixN_lit (by omega) (by rw [List.length_map]; omega)]
  simp [h]
theorem atT {ts : List T} {n : Nat} (h : n < ts.length) : L2.atI ts (n : Int) = some ts[n] := by
  unfold L2.atI
  rw [ixN_lit (by omega) (by omega)]
  simp [h]
/-- the last item -/
theorem at_last {ts : List T} (h : ts ≠ []) : L2.atI ts (-1) = some (ts.getLast h) := by
  have hl := List.length_pos_iff.mpr h
  unfold L2.atI ixN
  rw [if_neg (by omega)]
  rw [if_pos (by omega)]
  have : ((-1 : Int) + ts.length).toNat = ts.length - 1 := by omega
  rw [this]
  show ts[ts.length - 1]? = _
  rw [List.getLast_eq_getElem, List.getElem?_eq_getElem]
/-- a slot that holds no list of its own -/
def pl : Sl → Bool
  | .un => true
  | .im _ => true
  | _ => false
theorem pl_mp {x : Sl} (h : pl x = true) : isMp [x] 0 = false := by
  cases x <;> first | rfl | cases h
theorem pl_xc {x : Sl} {r : Sls} (h : pl x = true) : noXc (x :: r) = noXc r := by
  cases x <;> first | rfl | cases h
theorem s_forB_ (g : Tg) (i : Nat) (b : List S) (s : Sls) : evS (.forB g i b) s = (match s[i]? with
    | some (.mu ts) => finB i ts (forL g (evSs b) ts (s.set i (.xc Str.empty [] [])))
    | _ => .bad) := by simp only [evS] <;> rfl
theorem s_retB_ (i : Nat) (s : Sls) : evS (.retB i) s = (match s[i]? with
    | some (.mu ts) => .retF ts (s.set i .un)
    | _ => .bad) := by simp only [evS] <;> rfl
theorem copNB (a b : Bool) : cop .notB (.bl a) (.bl b) = some (.bl (!decide (a = b))) := rfl
theorem copIB (a b : Bool) : cop .isB (.bl a) (.bl b) = some (.bl (decide (a = b))) := rfl
mutual
theorem eqT_refl : ∀ (n : Nat) (t : T), dat n t = true → eqT t t = true
  | _, .non, _ => by simp [eqT]
  | _, .bl _, _ => by simp [eqT]
  | _, .int _, _ => by simp [eqT]
  | _, .str _, _ => by simp [eqT]
  | 0, .tup ts, h => by simp [dat] at h
  | 0, .lst ts, h => by simp [dat] at h
  | n + 1, .tup ts, h => by
    simp only [eqT]
    exact eqTs_refl n ts (by simpa [dat] using h)
  | n + 1, .lst ts, h => by
    simp only [eqT]
    exact eqTs_refl n ts (by simpa [dat] using h)
  | _, .scr ts, h => (no_scr h).elim
  | _, .obj _ _ _, h => (no_obj h).elim
theorem eqTs_refl : ∀ (n : Nat) (ts : List T), dats n ts = true → eqTs ts ts = true
  | _, [], _ => by simp [eqTs]
  | n, t :: ts, h => by
    simp only [dats, Bool.and_eq_true] at h
    simp only [eqTs, eqT_refl n t h.1, eqTs_refl n ts h.2, Bool.and_self]
end
theorem ne_self {t : T} (h : dat 60 t = true) : cop .ne t t = some (.bl false) := by
  have e := eqT_refl 60 t h
  have c : cop .ne t t = if dat 60 t && dat 60 t then some (.bl (!eqT t t)) else none := by
    cases t <;> rfl
  rw [c, h, e]
  rfl
theorem eq_self' {t : T} (h : dat 60 t = true) : cop .eq t t = some (.bl true) := by
  have e := eqT_refl 60 t h
  have c : cop .eq t t = if dat 60 t && dat 60 t then some (.bl (eqT t t)) else none := by
    cases t <;> rfl
  rw [c, h, e]
  rfl
theorem dats_map {α : Type} {f : α → T} {n : Nat} : ∀ (xs : List α), (∀ x ∈ xs, dat n (f x) = true) → dats n (xs.map f) = true
  | [], _ => by simp [dats]
  | x :: xs, h => by
    simp only [List.map_cons, dats, h x (by simp), dats_map xs (fun y hy => h y (List.mem_cons_of_mem _ hy)), Bool.and_self]
end FL

namespace KS
open PySem PySem.Spec L2 FL
abbrev ir_Lhand : List S := [.asg (.nm 1) (.bin .add (.bi .len (.cons (.var 0) (.nil))) (.cst (.int 31))),
    .asgM 2 (.disp (.nil)),
    .forS (.nm 3) (.seq (.var 0)) [.asg (.nm 1) (.bin .mod (.bi .int (.cons (.bin .add (.bin .mul (.var 1) (.cst (.int 1019))) (.bi .int (.cons (.var 3) (.nil)))) (.nil))) (.cst (.int 2147483629))),
    .app 2 (.ite (.cmp .ge (.var 3) (.cst (.int 0))) (.bi .int (.cons (.var 3) (.nil))) (.neg (.bi .int (.cons (.var 3) (.nil)))))],
    .retM (.disp (.cons (.var 2) (.cons (.cst (.int 0)) (.cons (.cst (.int 0)) (.cons (.var 1) (.nil))))))]
def f_Lhand : FS := mkFS ("_law_hand" : Str) 1 3 none true ir_Lhand
abbrev ir_Lcompare : List S := [.asg (.tp [.nm 2, .nm 3]) (.tup (.cons (.bin .mul (.idx (.var 0) (.cst (.int 0))) (.idx (.var 1) (.cst (.int 1)))) (.cons (.bin .mul (.idx (.var 1) (.cst (.int 0))) (.idx (.var 0) (.cst (.int 1)))) .nil))),
    .ret (.ite (.cmp .lt (.var 2) (.var 3)) (.neg (.cst (.int 1))) (.ite (.cmp .gt (.var 2) (.var 3)) (.cst (.int 1)) (.cst (.int 0))))]
def f_Lcompare : FS := mkFS ("_law_compare" : Str) 2 2 none false ir_Lcompare
abbrev ir_Lmixed : List S := [.asg (.nm 2) (.bin .mod (.bi .int (.cons (.bin .add (.bin .add (.bin .mul (.var 0) (.cst (.int 48271))) (.bin .mul (.var 1) (.cst (.int 7919)))) (.cst (.int 65537))) (.nil))) (.cst (.int 2147483647))),
    .asg (.nm 3) (.bin .mod (.bi .int (.cons (.bin .add (.bin .add (.bin .mul (.var 2) (.var 2)) (.bin .mul (.var 1) (.cst (.int 104729)))) (.bin .fdiv (.var 2) (.cst (.int 127)))) (.nil))) (.cst (.int 2147483629))),
    .ret (.bin .fdiv (.bi .int (.cons (.bin .mod (.bi .int (.cons (.bin .add (.bin .mul (.var 3) (.cst (.int 69621))) (.bin .fdiv (.var 2) (.cst (.int 5)))) (.nil))) (.cst (.int 2147483587))) (.nil))) (.cst (.int 16)))]
def f_Lmixed : FS := mkFS ("_law_mixed" : Str) 2 2 none false ir_Lmixed
abbrev ir_Ltake : List S := [.ifS (.bo true (.cons (.cmp .eq (.idxB 0 (.cst (.int 2))) (.cst (.int 0))) (.cons (.cmp .lt (.idxB 0 (.cst (.int 1))) (.bi .len (.cons (.idxB 0 (.cst (.int 0))) (.nil)))) (.nil)))) [.asg (.nm 2) (.idx (.idxB 0 (.cst (.int 0))) (.idxB 0 (.cst (.int 1)))),
    .setI 0 (.cst (.int 1)) (.bin .add (.idxB 0 (.cst (.int 1))) (.cst (.int 1))),
    .ifS (.cmp .lt (.var 2) (.bin .pow (.cst (.int 10)) (.cst (.int 18)))) [.ret (.bin .mod (.bi .int (.cons (.call f_Lmixed (.e (.bin .mod (.bi .int (.cons (.var 2) (.nil))) (.cst (.int 2147483647))) (.e (.idxB 0 (.cst (.int 1))) (.nil))) []) (.nil))) (.var 1))] [],
    .setI 0 (.cst (.int 2)) (.var 2)] [],
    .ifS (.cmp .gt (.idxB 0 (.cst (.int 2))) (.cst (.int 0))) [.asg (.nm 3) (.idxB 0 (.cst (.int 2))),
    .setI 0 (.cst (.int 2)) (.bin .fdiv (.bi .int (.cons (.var 3) (.nil))) (.var 1)),
    .ret (.bin .mod (.bi .int (.cons (.var 3) (.nil))) (.var 1))] [],
    .setI 0 (.cst (.int 3)) (.bin .mod (.bi .int (.cons (.bin .add (.idxB 0 (.cst (.int 3))) (.cst (.int 1))) (.nil))) (.cst (.int 2147483629))),
    .ret (.bin .mod (.bi .int (.cons (.call f_Lmixed (.e (.idxB 0 (.cst (.int 3))) (.e (.idxB 0 (.cst (.int 1))) (.nil))) []) (.nil))) (.var 1))]
def f_Ltake : FS := mkFS ("_law_take" : Str) 2 2 (some 0) false ir_Ltake
abbrev ir_Lnumber : List S := [.asg (.nm 1) (.call f_Ltake (.b 0 (.e (.cst (.int 9)) (.nil))) []),
    .ifS (.cmp .lt (.var 1) (.cst (.int 6))) [.ret (.bin .sub (.call f_Ltake (.b 0 (.e (.cst (.int 25)) (.nil))) []) (.cst (.int 12)))] [],
    .asg (.nm 2) (.cst (.int 0)),
    .forS (.nm 3) (.rng1 (.ite (.cmp .lt (.var 1) (.cst (.int 8))) (.cst (.int 1)) (.cst (.int 5)))) [.asg (.nm 2) (.bin .add (.bin .mul (.var 2) (.bin .pow (.cst (.int 10)) (.cst (.int 9)))) (.call f_Ltake (.b 0 (.e (.bin .pow (.cst (.int 10)) (.cst (.int 9))) (.nil))) []))],
    .ret (.bin .mul (.var 2) (.bin .sub (.cst (.int 1)) (.bin .mul (.cst (.int 2)) (.call f_Ltake (.b 0 (.e (.cst (.int 2)) (.nil))) []))))]
def f_Lnumber : FS := mkFS ("_law_number" : Str) 1 3 (some 0) false ir_Lnumber
abbrev ir_in_lowest : List S := [.asg (.nm 2) (.bi .gcd (.cons (.var 0) (.cons (.var 1) (.nil)))),
    .ifS (.cmp .lt (.var 1) (.cst (.int 0))) [.asg (.nm 2) (.neg (.var 2))] [],
    .ret (.tup (.cons (.bin .fdiv (.var 0) (.var 2)) (.cons (.bin .fdiv (.var 1) (.var 2)) (.nil))))]
def f_in_lowest : FS := mkFS ("in_lowest" : Str) 2 1 none false ir_in_lowest
abbrev ir_is_whole : List S := [.ifS (.bo false (.cons (.e (.isi (.var 0) true [.bool])) (.cons (.no (.e (.isi (.var 0) true [.int]))) (.nil)))) [.ret (.cst (.bl false))] [],
    .ifS (.bo true (.cons (.cmp .notN (.var 1) (.cst .non)) (.cons (.cmp .lt (.var 0) (.var 1)) (.nil)))) [.ret (.cst (.bl false))] [],
    .ret (.bo false (.cons (.cmp .isN (.var 2) (.cst .non)) (.cons (.cmp .le (.var 0) (.var 2)) (.nil))))]
def f_is_whole : FS := mkFS ("is_whole" : Str) 3 0 none false ir_is_whole
abbrev ir_make_ratio : List S := [.ifS (.no (.e (.call f_is_whole (.e (.var 0) (.nil)) [.non, .non]))) [.rai ("BadRatio" : Str) 1 [(("what" : Str), 0)] (.cons (.cst (.str ("top" : Str))) (.nil))] [],
    .ifS (.bo false (.cons (.no (.e (.call f_is_whole (.e (.var 1) (.nil)) [.non, .non]))) (.cons (.cmp .eq (.var 1) (.cst (.int 0))) (.nil)))) [.rai ("BadRatio" : Str) 1 [(("what" : Str), 0)] (.cons (.cst (.str ("bottom" : Str))) (.nil))] [],
    .ret (.call f_in_lowest (.e (.var 0) (.e (.var 1) (.nil))) [])]
def f_make_ratio : FS := mkFS ("make_ratio" : Str) 2 0 none false ir_make_ratio
abbrev ir_Lmade_ratio : List S := [.tryS [.asg (.nm 2) (.call f_make_ratio (.e (.var 0) (.e (.var 1) (.nil))) [])] [("BadRatio" : Str)] [] (some 3) [.ret (.frz (.disp (.cons (.cst (.str ("refused" : Str))) (.cons (.exf 3 ("what" : Str) [("BadRatio" : Str)]) (.nil)))))],
    .ret (.var 2)]
def f_Lmade_ratio : FS := mkFS ("_law_made_ratio" : Str) 2 2 none false ir_Lmade_ratio
abbrev ir_Lgcd : List S := [.asg (.tp [.nm 0, .nm 1]) (.tup (.cons (.bi .abs (.cons (.var 0) (.nil))) (.cons (.bi .abs (.cons (.var 1) (.nil))) .nil))),
    .whl (2 ^ 6000) (.e (.var 1)) [.asg (.tp [.nm 0, .nm 1]) (.tup (.cons (.var 1) (.cons (.bin .mod (.bi .int (.cons (.var 0) (.nil))) (.var 1)) .nil)))],
    .ret (.var 0)]
def f_Lgcd : FS := mkFS ("_law_gcd" : Str) 2 0 none false ir_Lgcd
abbrev ir_Lratio : List S := [.asg (.nm 2) (.call f_Lgcd (.e (.var 0) (.e (.var 1) (.nil))) []),
    .ifS (.cmp .lt (.var 1) (.cst (.int 0))) [.asg (.nm 2) (.neg (.var 2))] [],
    .ret (.tup (.cons (.bin .fdiv (.var 0) (.var 2)) (.cons (.bin .fdiv (.var 1) (.var 2)) (.nil))))]
def f_Lratio : FS := mkFS ("_law_ratio" : Str) 2 1 none false ir_Lratio
abbrev ir_over : List S := [.ifS (.cmp .eq (.idx (.var 1) (.cst (.int 0))) (.cst (.int 0))) [.rai ("BadRatio" : Str) 1 [(("what" : Str), 0)] (.cons (.cst (.str ("zero" : Str))) (.nil))] [],
    .ret (.call f_in_lowest (.e (.bin .mul (.idx (.var 0) (.cst (.int 0))) (.idx (.var 1) (.cst (.int 1)))) (.e (.bin .mul (.idx (.var 0) (.cst (.int 1))) (.idx (.var 1) (.cst (.int 0)))) (.nil))) [])]
def f_over : FS := mkFS ("over" : Str) 2 0 none false ir_over
abbrev ir_Ldivided : List S := [.tryS [.asg (.nm 2) (.call f_over (.e (.var 0) (.e (.var 1) (.nil))) [])] [("BadRatio" : Str)] [] (some 3) [.ret (.frz (.disp (.cons (.cst (.str ("refused" : Str))) (.cons (.exf 3 ("what" : Str) [("BadRatio" : Str)]) (.nil)))))],
    .ret (.var 2)]
def f_Ldivided : FS := mkFS ("_law_divided" : Str) 2 2 none false ir_Ldivided
abbrev ir_Lplus : List S := [.ret (.call f_Lratio (.e (.bin .add (.bin .mul (.idx (.var 0) (.cst (.int 0))) (.idx (.var 1) (.cst (.int 1)))) (.bin .mul (.idx (.var 1) (.cst (.int 0))) (.idx (.var 0) (.cst (.int 1))))) (.e (.bin .mul (.idx (.var 0) (.cst (.int 1))) (.idx (.var 1) (.cst (.int 1)))) (.nil))) [])]
def f_Lplus : FS := mkFS ("_law_plus" : Str) 2 0 none false ir_Lplus
abbrev ir_compare : List S := [.asg (.nm 2) (.bin .mul (.idx (.var 0) (.cst (.int 0))) (.idx (.var 1) (.cst (.int 1)))),
    .asg (.nm 3) (.bin .mul (.idx (.var 1) (.cst (.int 0))) (.idx (.var 0) (.cst (.int 1)))),
    .ifS (.cmp .eq (.var 2) (.var 3)) [.ret (.cst (.int 0))] [],
    .ret (.ite (.cmp .lt (.var 2) (.var 3)) (.neg (.cst (.int 1))) (.cst (.int 1)))]
def f_compare : FS := mkFS ("compare" : Str) 2 2 none false ir_compare
abbrev ir_least_of : List S := [.asg (.nm 1) (.idx (.var 0) (.cst (.int 0))),
    .forS (.nm 2) (.seq (.var 0)) [.ifS (.cmp .lt (.call f_compare (.e (.var 2) (.e (.var 1) (.nil))) []) (.cst (.int 0))) [.asg (.nm 1) (.var 2)] []],
    .ret (.var 1)]
def f_least_of : FS := mkFS ("least_of" : Str) 1 2 none false ir_least_of
abbrev ir_greatest_of : List S := [.asg (.nm 1) (.idx (.var 0) (.cst (.int 0))),
    .forS (.nm 2) (.seq (.var 0)) [.ifS (.cmp .gt (.call f_compare (.e (.var 2) (.e (.var 1) (.nil))) []) (.cst (.int 0))) [.asg (.nm 1) (.var 2)] []],
    .ret (.var 1)]
def f_greatest_of : FS := mkFS ("greatest_of" : Str) 1 2 none false ir_greatest_of
abbrev ir_is_ratio : List S := [.ifS (.bo false (.cons (.no (.e (.isi (.var 0) true [.tuple]))) (.cons (.cmp .ne (.bi .len (.cons (.var 0) (.nil))) (.cst (.int 2))) (.nil)))) [.ret (.cst (.bl false))] [],
    .ifS (.bo false (.cons (.no (.e (.call f_is_whole (.e (.idx (.var 0) (.cst (.int 0))) (.nil)) [.non, .non]))) (.cons (.no (.e (.call f_is_whole (.e (.idx (.var 0) (.cst (.int 1))) (.e (.cst (.int 1)) (.nil))) [.non]))) (.nil)))) [.ret (.cst (.bl false))] [],
    .ret (.cmp .eq (.bi .gcd (.cons (.idx (.var 0) (.cst (.int 0))) (.cons (.idx (.var 0) (.cst (.int 1))) (.nil)))) (.cst (.int 1)))]
def f_is_ratio : FS := mkFS ("is_ratio" : Str) 1 0 none false ir_is_ratio
abbrev ir_Lkinds : List S := [.asg (.nm 2) (.frz (.disp (.cons (.var 0) (.cons (.tup (.cons (.var 1) (.cons (.cst (.int 1)) (.nil)))) (.cons (.tup (.cons (.cst (.int 0)) (.cons (.cst (.int 1)) (.nil)))) (.cons (.tup (.cons (.neg (.cst (.int 1))) (.cons (.cst (.int 2)) (.nil)))) (.nil))))))),
    .asg (.nm 3) (.frz (.disp (.cons (.tup (.cons (.bin .mul (.idx (.var 0) (.cst (.int 0))) (.cst (.int 2))) (.cons (.bin .mul (.idx (.var 0) (.cst (.int 1))) (.cst (.int 2))) (.nil)))) (.cons (.frz (.disp (.cons (.idx (.var 0) (.cst (.int 0))) (.cons (.idx (.var 0) (.cst (.int 1))) (.nil))))) (.cons (.tup (.cons (.idx (.var 0) (.cst (.int 0))) (.cons (.neg (.idx (.var 0) (.cst (.int 1)))) (.nil)))) (.cons (.tup (.cons (.idx (.var 0) (.cst (.int 0))) (.cons (.cst (.int 0)) (.nil)))) (.cons (.tup (.cons (.cst (.bl true)) (.cons (.cst (.int 1)) (.nil)))) (.cons (.tup (.cons (.var 1) (.cons (.cst (.bl true)) (.nil)))) (.nil))))))))),
    .asg (.nm 3) (.frz (.cat (.var 3) (.frz (.disp (.cons (.var 1) (.cons (.cst .non) (.cons (.tup (.cons (.idx (.var 0) (.cst (.int 0))) (.cons (.idx (.var 0) (.cst (.int 1))) (.cons (.cst (.int 1)) (.nil))))) (.cons (.cst (.str ("1/2" : Str))) (.cons (.tup (.cons (.cst (.int 0)) (.cons (.cst (.int 2)) (.nil)))) (.cons (.tup (.nil)) (.cons (.tup (.cons (.cst (.int 3)) (.cons (.cst (.int 3)) (.nil)))) (.nil)))))))))))),
    .forS (.nm 4) (.seq (.var 2)) [.ifS (.cmp .notB (.call f_is_ratio (.e (.var 4) (.nil)) []) (.cst (.bl true))) [.ret (.cst (.bl false))] []],
    .forS (.nm 4) (.seq (.var 3)) [.ifS (.cmp .notB (.call f_is_ratio (.e (.var 4) (.nil)) []) (.cst (.bl false))) [.ret (.cst (.bl false))] []],
    .ifS (.bo false (.cons (.cmp .notB (.call f_is_whole (.e (.var 1) (.nil)) [.non, .non]) (.cst (.bl true))) (.cons (.cmp .notB (.call f_is_whole (.e (.cst (.bl true)) (.nil)) [.non, .non]) (.cst (.bl false))) (.cons (.cmp .notB (.call f_is_whole (.e (.var 0) (.nil)) [.non, .non]) (.cst (.bl false))) (.cons (.cmp .notB (.call f_is_whole (.e (.cst (.str ("1" : Str))) (.nil)) [.non, .non]) (.cst (.bl false))) (.nil)))))) [.ret (.cst (.bl false))] [],
    .asg (.nm 5) (.frz (.disp (.cons (.call f_is_whole (.e (.var 1) (.e (.var 1) (.nil))) [.non]) (.cons (.call f_is_whole (.e (.var 1) (.e (.bin .add (.var 1) (.cst (.int 1))) (.nil))) [.non]) (.cons (.call f_is_whole (.e (.var 1) (.e (.bin .sub (.var 1) (.cst (.int 3))) (.e (.var 1) (.nil)))) []) (.cons (.call f_is_whole (.e (.var 1) (.e (.bin .sub (.var 1) (.cst (.int 3))) (.e (.bin .sub (.var 1) (.cst (.int 1))) (.nil)))) []) (.nil))))))),
    .ret (.bo true (.cons (.cmp .eq (.var 5) (.frz (.disp (.cons (.cst (.bl true)) (.cons (.cst (.bl false)) (.cons (.cst (.bl true)) (.cons (.cst (.bl false)) (.nil)))))))) (.cons (.cmp .isB (.callK f_is_whole (.cons (.var 1) (.nil)) (.cons (.var 1) (.nil)) [.p 0, .d (.non), .k 0]) (.cst (.bl true))) (.cons (.cmp .isB (.call f_is_whole (.e (.cst (.bl false)) (.e (.cst (.int 0)) (.e (.cst (.int 1)) (.nil)))) []) (.cst (.bl false))) (.nil)))))]
def f_Lkinds : FS := mkFS ("_law_kinds" : Str) 2 4 none false ir_Lkinds
abbrev ir_Lplain : List S := [.ret (.bo true (.cons (.isi (.var 0) true [.tuple]) (.cons (.cmp .eq (.var 0) (.var 1)) (.cons (.isi (.idx (.var 0) (.cst (.int 0))) true [.int]) (.cons (.no (.isi (.idx (.var 0) (.cst (.int 0))) true [.bool])) (.cons (.no (.isi (.idx (.var 0) (.cst (.int 1))) true [.bool])) (.nil)))))))]
def f_Lplain : FS := mkFS ("_law_plain" : Str) 2 0 none false ir_Lplain
abbrev ir_plus : List S := [.ret (.call f_in_lowest (.e (.bin .add (.bin .mul (.idx (.var 0) (.cst (.int 0))) (.idx (.var 1) (.cst (.int 1)))) (.bin .mul (.idx (.var 1) (.cst (.int 0))) (.idx (.var 0) (.cst (.int 1))))) (.e (.bin .mul (.idx (.var 0) (.cst (.int 1))) (.idx (.var 1) (.cst (.int 1)))) (.nil))) [])]
def f_plus : FS := mkFS ("plus" : Str) 2 0 none false ir_plus
abbrev ir_sum_of : List S := [.asg (.nm 1) (.glo ("ZERO" : Str) (.tup [.int 0, .int 1])),
    .forS (.nm 2) (.seq (.var 0)) [.asg (.nm 1) (.call f_plus (.e (.var 1) (.e (.var 2) (.nil))) [])],
    .ret (.var 1)]
def f_sum_of : FS := mkFS ("sum_of" : Str) 1 2 none false ir_sum_of
abbrev ir_minus : List S := [.ret (.call f_in_lowest (.e (.bin .sub (.bin .mul (.idx (.var 0) (.cst (.int 0))) (.idx (.var 1) (.cst (.int 1)))) (.bin .mul (.idx (.var 1) (.cst (.int 0))) (.idx (.var 0) (.cst (.int 1))))) (.e (.bin .mul (.idx (.var 0) (.cst (.int 1))) (.idx (.var 1) (.cst (.int 1)))) (.nil))) [])]
def f_minus : FS := mkFS ("minus" : Str) 2 0 none false ir_minus
abbrev ir_Lless : List S := [.ret (.call f_Lratio (.e (.bin .sub (.bin .mul (.idx (.var 0) (.cst (.int 0))) (.idx (.var 1) (.cst (.int 1)))) (.bin .mul (.idx (.var 1) (.cst (.int 0))) (.idx (.var 0) (.cst (.int 1))))) (.e (.bin .mul (.idx (.var 0) (.cst (.int 1))) (.idx (.var 1) (.cst (.int 1)))) (.nil))) [])]
def f_Lless : FS := mkFS ("_law_less" : Str) 2 0 none false ir_Lless
abbrev ir_times : List S := [.ret (.call f_in_lowest (.e (.bin .mul (.idx (.var 0) (.cst (.int 0))) (.idx (.var 1) (.cst (.int 0)))) (.e (.bin .mul (.idx (.var 0) (.cst (.int 1))) (.idx (.var 1) (.cst (.int 1)))) (.nil))) [])]
def f_times : FS := mkFS ("times" : Str) 2 0 none false ir_times
abbrev ir_Ltimes : List S := [.ret (.call f_Lratio (.e (.bin .mul (.idx (.var 0) (.cst (.int 0))) (.idx (.var 1) (.cst (.int 0)))) (.e (.bin .mul (.idx (.var 0) (.cst (.int 1))) (.idx (.var 1) (.cst (.int 1)))) (.nil))) [])]
def f_Ltimes : FS := mkFS ("_law_times" : Str) 2 0 none false ir_Ltimes
abbrev ir_negative : List S := [.ret (.tup (.cons (.neg (.idx (.var 0) (.cst (.int 0)))) (.cons (.idx (.var 0) (.cst (.int 1))) (.nil))))]
def f_negative : FS := mkFS ("negative" : Str) 1 0 none false ir_negative
abbrev ir_Lway : List S := [.asg (.nm 1) (.frz (.disp (.cons (.tup (.cons (.cst (.int 1)) (.cons (.cst (.int 0)) (.nil)))) (.cons (.tup (.cons (.cst (.int 0)) (.cons (.cst (.int 1)) (.nil)))) (.cons (.tup (.cons (.neg (.cst (.int 1))) (.cons (.cst (.int 0)) (.nil)))) (.cons (.tup (.cons (.cst (.int 0)) (.cons (.neg (.cst (.int 1))) (.nil)))) (.cons (.tup (.cons (.cst (.int 1)) (.cons (.cst (.int 1)) (.nil)))) (.cons (.tup (.cons (.neg (.cst (.int 1))) (.cons (.cst (.int 1)) (.nil)))) (.cons (.tup (.cons (.neg (.cst (.int 1))) (.cons (.neg (.cst (.int 1))) (.nil)))) (.cons (.tup (.cons (.cst (.int 1)) (.cons (.neg (.cst (.int 1))) (.nil)))) (.nil))))))))))),
    .asg (.nm 1) (.frz (.cat (.var 1) (.frz (.disp (.cons (.tup (.cons (.cst (.int 2)) (.cons (.cst (.int 1)) (.nil)))) (.cons (.tup (.cons (.cst (.int 1)) (.cons (.cst (.int 2)) (.nil)))) (.cons (.tup (.cons (.neg (.cst (.int 1))) (.cons (.cst (.int 2)) (.nil)))) (.cons (.tup (.cons (.neg (.cst (.int 2))) (.cons (.cst (.int 1)) (.nil)))) (.cons (.tup (.cons (.neg (.cst (.int 2))) (.cons (.neg (.cst (.int 1))) (.nil)))) (.cons (.tup (.cons (.neg (.cst (.int 1))) (.cons (.neg (.cst (.int 2))) (.nil)))) (.cons (.tup (.cons (.cst (.int 1)) (.cons (.neg (.cst (.int 2))) (.nil)))) (.cons (.tup (.cons (.cst (.int 2)) (.cons (.neg (.cst (.int 1))) (.nil)))) (.nil))))))))))))),
    .ret (.idx (.var 1) (.call f_Ltake (.b 0 (.e (.cst (.int 16)) (.nil))) []))]
def f_Lway : FS := mkFS ("_law_way" : Str) 1 1 (some 0) false ir_Lway
abbrev ir_Ldirection : List S := [.asg (.nm 2) (.call f_Lgcd (.e (.var 0) (.e (.var 1) (.nil))) []),
    .ret (.tup (.cons (.bin .fdiv (.var 0) (.var 2)) (.cons (.bin .fdiv (.var 1) (.var 2)) (.nil))))]
def f_Ldirection : FS := mkFS ("_law_direction" : Str) 2 1 none false ir_Ldirection
abbrev ir_Lany_way : List S := [.ifS (.e (.call f_Ltake (.b 0 (.e (.cst (.int 3)) (.nil))) [])) [.ret (.call f_Lway (.b 0 (.nil)) [])] [],
    .asg (.tp [.nm 1, .nm 2]) (.tup (.cons (.call f_Lnumber (.b 0 (.nil)) []) (.cons (.call f_Lnumber (.b 0 (.nil)) []) .nil))),
    .ret (.ite (.bo true (.cons (.cmp .eq (.var 1) (.cst (.int 0))) (.cons (.cmp .eq (.var 2) (.cst (.int 0))) (.nil)))) (.tup (.cons (.cst (.int 0)) (.cons (.neg (.cst (.int 1))) (.nil)))) (.call f_Ldirection (.e (.var 1) (.e (.var 2) (.nil))) []))]
def f_Lany_way : FS := mkFS ("_law_any_way" : Str) 1 2 (some 0) false ir_Lany_way
abbrev sf_Ltuples (r : List T → FR) : FS := ⟨("_law_tuples" : Str), none, false, r⟩
abbrev ir_Ltuples (r : List T → FR) : List S := [.ifS (.e (.isi (.var 0) true [.tuple])) [.ret (.no (.frz (.comp (List.map (·.2) ([(("item" : Str), 1)] : List (Str × Nat))) (.nm 1) (.seq (.var 0)) (.cons (.no (.e (.call (sf_Ltuples r) (.e (.var 1) (.nil)) []))) .nil) (.cst (.int 1)))))] [],
    .ret (.bo true (.cons (.isi (.var 0) true [.int]) (.cons (.no (.isi (.var 0) true [.bool])) (.nil))))]
def f_Ltuples : FS := recFS ("_law_tuples" : Str) 1 1 none false ir_Ltuples 8
abbrev ir_shortened : List S := [.asg (.nm 2) (.bi .gcd (.cons (.var 0) (.cons (.var 1) (.nil)))),
    .ifS (.cmp .eq (.var 2) (.cst (.int 0))) [.rai ("BadDirection" : Str) 0 [] .nil] [],
    .ret (.tup (.cons (.bin .fdiv (.var 0) (.var 2)) (.cons (.bin .fdiv (.var 1) (.var 2)) (.nil))))]
def f_shortened : FS := mkFS ("shortened" : Str) 2 1 none false ir_shortened
abbrev ir_direction_of : List S := [.ret (.call f_shortened (.e (.bin .mul (.idx (.idx (.var 0) (.cst (.int 0))) (.cst (.int 0))) (.idx (.idx (.var 0) (.cst (.int 1))) (.cst (.int 1)))) (.e (.bin .mul (.idx (.idx (.var 0) (.cst (.int 1))) (.cst (.int 0))) (.idx (.idx (.var 0) (.cst (.int 0))) (.cst (.int 1)))) (.nil))) [])]
def f_direction_of : FS := mkFS ("direction_of" : Str) 1 0 none false ir_direction_of
abbrev ir_is_direction : List S := [.ifS (.bo false (.cons (.no (.e (.isi (.var 0) false [.list, .tuple]))) (.cons (.cmp .ne (.bi .len (.cons (.var 0) (.nil))) (.cst (.int 2))) (.nil)))) [.ret (.cst (.bl false))] [],
    .ret (.bo true (.cons (.call f_is_whole (.e (.idx (.var 0) (.cst (.int 0))) (.nil)) [.non, .non]) (.cons (.call f_is_whole (.e (.idx (.var 0) (.cst (.int 1))) (.nil)) [.non, .non]) (.cons (.cmp .eq (.bi .gcd (.cons (.idx (.var 0) (.cst (.int 0))) (.cons (.idx (.var 0) (.cst (.int 1))) (.nil)))) (.cst (.int 1))) (.nil)))))]
def f_is_direction : FS := mkFS ("is_direction" : Str) 1 0 none false ir_is_direction
abbrev ir_amount_at : List S := [.asg (.tp [.tp [.nm 2, .nm 3], .tp [.nm 4, .nm 5]]) (.var 1),
    .ret (.call f_in_lowest (.e (.bin .add (.bin .mul (.bin .mul (.idx (.var 0) (.cst (.int 0))) (.var 2)) (.var 5)) (.bin .mul (.bin .mul (.idx (.var 0) (.cst (.int 1))) (.var 4)) (.var 3))) (.e (.bin .mul (.var 3) (.var 5)) (.nil))) [])]
def f_amount_at : FS := mkFS ("amount_at" : Str) 2 4 none false ir_amount_at
abbrev ir_step_from : List S := [.ret (.tup (.cons (.call f_minus (.e (.idx (.var 1) (.cst (.int 0))) (.e (.idx (.var 0) (.cst (.int 0))) (.nil))) []) (.cons (.call f_minus (.e (.idx (.var 1) (.cst (.int 1))) (.e (.idx (.var 0) (.cst (.int 1))) (.nil))) []) (.nil))))]
def f_step_from : FS := mkFS ("step_from" : Str) 2 0 none false ir_step_from
abbrev ir_Lsmall : List S := [.ret (.call f_Lratio (.e (.bin .sub (.call f_Ltake (.b 0 (.e (.cst (.int 13)) (.nil))) []) (.cst (.int 6))) (.e (.bin .add (.cst (.int 1)) (.call f_Ltake (.b 0 (.e (.cst (.int 4)) (.nil))) [])) (.nil))) [])]
def f_Lsmall : FS := mkFS ("_law_small" : Str) 1 0 (some 0) false ir_Lsmall
abbrev ir_Lplace : List S := [.ifS (.e (.call f_Ltake (.b 0 (.e (.cst (.int 4)) (.nil))) [])) [.ret (.tup (.cons (.call f_Lsmall (.b 0 (.nil)) []) (.cons (.call f_Lsmall (.b 0 (.nil)) []) (.nil))))] [],
    .ret (.tup (.cons (.call f_Lratio (.e (.call f_Lnumber (.b 0 (.nil)) []) (.e (.bin .add (.cst (.int 1)) (.call f_Ltake (.b 0 (.e (.cst (.int 7)) (.nil))) [])) (.nil))) []) (.cons (.call f_Lratio (.e (.call f_Lnumber (.b 0 (.nil)) []) (.e (.bin .add (.cst (.int 1)) (.call f_Ltake (.b 0 (.e (.cst (.int 7)) (.nil))) [])) (.nil))) []) (.nil))))]
def f_Lplace : FS := mkFS ("_law_place" : Str) 1 0 (some 0) false ir_Lplace
abbrev ir_check_amount : List S := [.ifS (.no (.e (.call f_is_ratio (.e (.var 0) (.nil)) []))) [.rai ("BadAmount" : Str) 0 [] .nil] [],
    .ret (.var 0)]
def f_check_amount : FS := mkFS ("check_amount" : Str) 1 0 none false ir_check_amount
abbrev ir_check_size : List S := [.ifS (.bo false (.cons (.no (.e (.call f_is_ratio (.e (.var 0) (.nil)) []))) (.cons (.cmp .le (.idx (.var 0) (.cst (.int 0))) (.cst (.int 0))) (.nil)))) [.rai ("BadSize" : Str) 0 [] .nil] [],
    .ret (.var 0)]
def f_check_size : FS := mkFS ("check_size" : Str) 1 0 none false ir_check_size
abbrev ir_is_couple : List S := [.ret (.bo true (.cons (.isi (.var 0) false [.list, .tuple]) (.cons (.cmp .eq (.bi .len (.cons (.var 0) (.nil))) (.cst (.int 2))) (.cons (.call f_is_ratio (.e (.idx (.var 0) (.cst (.int 0))) (.nil)) []) (.cons (.call f_is_ratio (.e (.idx (.var 0) (.cst (.int 1))) (.nil)) []) (.nil))))))]
def f_is_couple : FS := mkFS ("is_couple" : Str) 1 0 none false ir_is_couple
abbrev ir_check_place : List S := [.ifS (.no (.e (.call f_is_couple (.e (.var 0) (.nil)) []))) [.rai ("BadPlace" : Str) 0 [] .nil] [],
    .ret (.bi .tuple (.cons (.var 0) (.nil)))]
def f_check_place : FS := mkFS ("check_place" : Str) 1 0 none false ir_check_place
abbrev ir_Lrefuses_place : List S := [.tryS [.expr (.call f_check_place (.e (.var 0) (.nil)) [])] [("BadPlace" : Str)] [("BadDirection" : Str), ("BadAmount" : Str), ("BadSize" : Str)] none [.ret (.cst (.bl true))],
    .ret (.cst (.bl false))]
def f_Lrefuses_place : FS := mkFS ("_law_refuses_place" : Str) 1 0 none false ir_Lrefuses_place
abbrev ir_Lrefuses_amount : List S := [.tryS [.expr (.call f_check_amount (.e (.var 0) (.nil)) [])] [("BadAmount" : Str)] [("BadPlace" : Str), ("BadDirection" : Str), ("BadSize" : Str)] none [.ret (.cst (.bl true))],
    .ret (.cst (.bl false))]
def f_Lrefuses_amount : FS := mkFS ("_law_refuses_amount" : Str) 1 0 none false ir_Lrefuses_amount
abbrev ir_Lrefuses_size : List S := [.tryS [.expr (.call f_check_size (.e (.var 0) (.nil)) [])] [("BadSize" : Str)] [("BadPlace" : Str), ("BadDirection" : Str), ("BadAmount" : Str)] none [.ret (.cst (.bl true))],
    .ret (.cst (.bl false))]
def f_Lrefuses_size : FS := mkFS ("_law_refuses_size" : Str) 1 0 none false ir_Lrefuses_size
abbrev ir_Lchecks : List S := [.ifS (.bo false (.cons (.cmp .ne (.call f_check_place (.e (.frz (.lst (.var 0))) (.nil)) []) (.var 0)) (.cons (.no (.e (.isi (.call f_check_place (.e (.frz (.lst (.var 0))) (.nil)) []) true [.tuple]))) (.cons (.cmp .ne (.call f_check_place (.e (.var 0) (.nil)) []) (.var 0)) (.nil))))) [.ret (.cst (.bl false))] [],
    .forS (.nm 2) (.seq (.frz (.disp (.cons (.bin .add (.var 0) (.tup (.cons (.var 1) (.nil)))) (.cons (.tup (.cons (.idx (.var 0) (.cst (.int 0))) (.nil))) (.cons (.tup (.cons (.idx (.var 0) (.cst (.int 0))) (.cons (.cst (.int 1)) (.nil)))) (.cons (.tup (.cons (.frz (.disp (.cons (.cst (.int 0)) (.cons (.cst (.int 1)) (.nil))))) (.cons (.idx (.var 0) (.cst (.int 1))) (.nil)))) (.cons (.tup (.cons (.idx (.var 0) (.cst (.int 0))) (.cons (.tup (.cons (.cst (.int 2)) (.cons (.cst (.int 4)) (.nil)))) (.nil)))) (.cons (.cst .non) (.cons (.cst (.str ("ab" : Str))) (.cons (.cst (.int 3)) (.cons (.tup (.cons (.idx (.var 0) (.cst (.int 0))) (.cons (.cst .non) (.nil)))) (.cons (.frz (.disp (.cons (.cst (.int 1)) (.cons (.cst (.int 2)) (.nil))))) (.cons (.tup (.cons (.idx (.var 0) (.cst (.int 0))) (.cons (.tup (.cons (.cst (.bl true)) (.cons (.cst (.int 1)) (.nil)))) (.nil)))) (.nil))))))))))))))) [.ifS (.no (.e (.call f_Lrefuses_place (.e (.var 2) (.nil)) []))) [.ret (.cst (.bl false))] []],
    .ifS (.cmp .ne (.call f_check_amount (.e (.var 1) (.nil)) []) (.var 1)) [.ret (.cst (.bl false))] [],
    .forS (.nm 2) (.seq (.frz (.disp (.cons (.idx (.var 1) (.cst (.int 0))) (.cons (.frz (.lst (.var 1))) (.cons (.tup (.cons (.bin .mul (.idx (.var 1) (.cst (.int 0))) (.cst (.int 2))) (.cons (.bin .mul (.idx (.var 1) (.cst (.int 1))) (.cst (.int 2))) (.nil)))) (.cons (.cst .non) (.cons (.cst (.bl true)) (.cons (.cst (.str ("1" : Str))) (.cons (.tup (.cons (.idx (.var 1) (.cst (.int 0))) (.cons (.cst (.int 0)) (.nil)))) (.nil))))))))))) [.ifS (.no (.e (.call f_Lrefuses_amount (.e (.var 2) (.nil)) []))) [.ret (.cst (.bl false))] []],
    .forS (.nm 2) (.seq (.frz (.disp (.cons (.tup (.cons (.cst (.int 0)) (.cons (.cst (.int 1)) (.nil)))) (.cons (.tup (.cons (.neg (.cst (.int 1))) (.cons (.cst (.int 3)) (.nil)))) (.cons (.cst (.int 2)) (.cons (.frz (.disp (.cons (.cst (.int 1)) (.cons (.cst (.int 2)) (.nil))))) (.cons (.tup (.cons (.cst (.int 2)) (.cons (.cst (.int 2)) (.nil)))) (.cons (.cst .non) (.nil)))))))))) [.ifS (.no (.e (.call f_Lrefuses_size (.e (.var 2) (.nil)) []))) [.ret (.cst (.bl false))] []],
    .ret (.cmp .eq (.call f_check_size (.e (.tup (.cons (.cst (.int 1)) (.cons (.cst (.int 7)) (.nil)))) (.nil)) []) (.tup (.cons (.cst (.int 1)) (.cons (.cst (.int 7)) (.nil)))))]
def f_Lchecks : FS := mkFS ("_law_checks" : Str) 2 1 none false ir_Lchecks
abbrev ir_Lstep : List S := [.ret (.tup (.cons (.call f_Lless (.e (.idx (.var 1) (.cst (.int 0))) (.e (.idx (.var 0) (.cst (.int 0))) (.nil))) []) (.cons (.call f_Lless (.e (.idx (.var 1) (.cst (.int 1))) (.e (.idx (.var 0) (.cst (.int 1))) (.nil))) []) (.nil))))]
def f_Lstep : FS := mkFS ("_law_step" : Str) 2 0 none false ir_Lstep
abbrev ir_place_by : List S := [.ret (.tup (.cons (.call f_plus (.e (.idx (.var 0) (.cst (.int 0))) (.e (.idx (.var 1) (.cst (.int 0))) (.nil))) []) (.cons (.call f_plus (.e (.idx (.var 0) (.cst (.int 1))) (.e (.idx (.var 1) (.cst (.int 1))) (.nil))) []) (.nil))))]
def f_place_by : FS := mkFS ("place_by" : Str) 2 0 none false ir_place_by
abbrev ir_Lby : List S := [.ret (.tup (.cons (.call f_Lplus (.e (.idx (.var 0) (.cst (.int 0))) (.e (.idx (.var 1) (.cst (.int 0))) (.nil))) []) (.cons (.call f_Lplus (.e (.idx (.var 0) (.cst (.int 1))) (.e (.idx (.var 1) (.cst (.int 1))) (.nil))) []) (.nil))))]
def f_Lby : FS := mkFS ("_law_by" : Str) 2 0 none false ir_Lby
abbrev ir_place_on : List S := [.asg (.nm 3) (.call f_step_from (.e (.var 0) (.e (.var 1) (.nil))) []),
    .ret (.tup (.cons (.call f_plus (.e (.idx (.var 0) (.cst (.int 0))) (.e (.call f_times (.e (.var 2) (.e (.idx (.var 3) (.cst (.int 0))) (.nil))) []) (.nil))) []) (.cons (.call f_plus (.e (.idx (.var 0) (.cst (.int 1))) (.e (.call f_times (.e (.var 2) (.e (.idx (.var 3) (.cst (.int 1))) (.nil))) []) (.nil))) []) (.nil))))]
def f_place_on : FS := mkFS ("place_on" : Str) 3 1 none false ir_place_on
abbrev ir_cross_at : List S := [.asg (.nm 3) (.call f_step_from (.e (.var 0) (.e (.var 1) (.nil))) []),
    .asg (.nm 4) (.call f_step_from (.e (.var 0) (.e (.var 2) (.nil))) []),
    .ret (.call f_minus (.e (.call f_times (.e (.idx (.var 3) (.cst (.int 0))) (.e (.idx (.var 4) (.cst (.int 1))) (.nil))) []) (.e (.call f_times (.e (.idx (.var 3) (.cst (.int 1))) (.e (.idx (.var 4) (.cst (.int 0))) (.nil))) []) (.nil))) [])]
def f_cross_at : FS := mkFS ("cross_at" : Str) 3 2 none false ir_cross_at
abbrev ir_Lcross : List S := [.asg (.nm 3) (.tup (.cons (.call f_Lless (.e (.idx (.var 1) (.cst (.int 0))) (.e (.idx (.var 0) (.cst (.int 0))) (.nil))) []) (.cons (.call f_Lless (.e (.idx (.var 1) (.cst (.int 1))) (.e (.idx (.var 0) (.cst (.int 1))) (.nil))) []) (.nil)))),
    .asg (.nm 4) (.tup (.cons (.call f_Lless (.e (.idx (.var 2) (.cst (.int 0))) (.e (.idx (.var 0) (.cst (.int 0))) (.nil))) []) (.cons (.call f_Lless (.e (.idx (.var 2) (.cst (.int 1))) (.e (.idx (.var 0) (.cst (.int 1))) (.nil))) []) (.nil)))),
    .ret (.call f_Lless (.e (.call f_Ltimes (.e (.idx (.var 3) (.cst (.int 0))) (.e (.idx (.var 4) (.cst (.int 1))) (.nil))) []) (.e (.call f_Ltimes (.e (.idx (.var 3) (.cst (.int 1))) (.e (.idx (.var 4) (.cst (.int 0))) (.nil))) []) (.nil))) [])]
def f_Lcross : FS := mkFS ("_law_cross" : Str) 3 2 none false ir_Lcross
abbrev ir_mean_place : List S := [.asg (.nm 1) (.tup (.cons (.glo ("ZERO" : Str) (.tup [.int 0, .int 1])) (.cons (.glo ("ZERO" : Str) (.tup [.int 0, .int 1])) (.nil)))),
    .forS (.nm 2) (.seq (.var 0)) [.asg (.nm 1) (.call f_place_by (.e (.var 1) (.e (.var 2) (.nil))) [])],
    .asg (.nm 3) (.tup (.cons (.cst (.int 1)) (.cons (.bi .len (.cons (.var 0) (.nil))) (.nil)))),
    .ret (.tup (.cons (.call f_times (.e (.idx (.var 1) (.cst (.int 0))) (.e (.var 3) (.nil))) []) (.cons (.call f_times (.e (.idx (.var 1) (.cst (.int 1))) (.e (.var 3) (.nil))) []) (.nil))))]
def f_mean_place : FS := mkFS ("mean_place" : Str) 1 3 none false ir_mean_place
abbrev ir_turn_place : List S := [.ret (.tup (.cons (.call f_negative (.e (.idx (.var 0) (.cst (.int 1))) (.nil)) []) (.cons (.idx (.var 0) (.cst (.int 0))) (.nil))))]
def f_turn_place : FS := mkFS ("turn_place" : Str) 1 0 none false ir_turn_place
abbrev ir_mirror_place : List S := [.ret (.tup (.cons (.call f_negative (.e (.idx (.var 0) (.cst (.int 0))) (.nil)) []) (.cons (.idx (.var 0) (.cst (.int 1))) (.nil))))]
def f_mirror_place : FS := mkFS ("mirror_place" : Str) 1 0 none false ir_mirror_place
abbrev ir_grow_place : List S := [.ret (.tup (.cons (.call f_times (.e (.idx (.var 0) (.cst (.int 0))) (.e (.var 1) (.nil))) []) (.cons (.call f_times (.e (.idx (.var 0) (.cst (.int 1))) (.e (.var 1) (.nil))) []) (.nil))))]
def f_grow_place : FS := mkFS ("grow_place" : Str) 2 0 none false ir_grow_place
abbrev ir_side_normal : List S := [.asg (.nm 2) (.call f_direction_of (.e (.call f_step_from (.e (.var 0) (.e (.var 1) (.nil))) []) (.nil)) []),
    .ret (.tup (.cons (.idx (.var 2) (.cst (.int 1))) (.cons (.neg (.idx (.var 2) (.cst (.int 0)))) (.nil))))]
def f_side_normal : FS := mkFS ("side_normal" : Str) 2 1 none false ir_side_normal
abbrev ir_Lnormal : List S := [.tryS [.asg (.nm 2) (.call f_side_normal (.e (.var 0) (.e (.var 1) (.nil))) [])] [("BadDirection" : Str)] [("BadPlace" : Str), ("BadAmount" : Str), ("BadSize" : Str)] none [.ret (.cst (.str ("refused" : Str)))],
    .ret (.var 2)]
def f_Lnormal : FS := mkFS ("_law_normal" : Str) 2 1 none false ir_Lnormal
abbrev ir_Lamount : List S := [.ret (.call f_Lplus (.e (.call f_Ltimes (.e (.tup (.cons (.idx (.var 0) (.cst (.int 0))) (.cons (.cst (.int 1)) (.nil)))) (.e (.idx (.var 1) (.cst (.int 0))) (.nil))) []) (.e (.call f_Ltimes (.e (.tup (.cons (.idx (.var 0) (.cst (.int 1))) (.cons (.cst (.int 1)) (.nil)))) (.e (.idx (.var 1) (.cst (.int 1))) (.nil))) []) (.nil))) [])]
def f_Lamount : FS := mkFS ("_law_amount" : Str) 2 0 none false ir_Lamount
end KS

namespace KS
open PySem FL
/-! ## numbers -/
theorem log2_lt {n k : Nat} (hk : 0 < k) (h : n < 2 ^ k) : n.log2 < k := by
  by_cases hn : n = 0
  · subst hn; simpa using hk
  · exact (Nat.log2_lt hn).mpr h
theorem mul_ok {i j : Int} {k l : Nat} (hi : i.natAbs < 2 ^ k) (hj : j.natAbs < 2 ^ l) (h : k + l < 1000000) (hk : 0 < k) (hl : 0 < l) : FL.MulOk i j = true := by
  unfold FL.MulOk
  have := log2_lt hk hi
  have := log2_lt hl hj
  exact decide_eq_true (by omega)
abbrev qt (a b : Int) : T := .tup [.int a, .int b]
/-- the sign of the divisor with the gcd -/
def part (a b : Int) : Int := if b < 0 then -(Nat.gcd a.natAbs b.natAbs : Int) else (Nat.gcd a.natAbs b.natAbs : Int)
def nm (a b : Int) : T := qt (a.fdiv (part a b)) (b.fdiv (part a b))
theorem gcd_pos {a b : Int} (h : b ≠ 0) : 0 < Nat.gcd a.natAbs b.natAbs := Nat.gcd_pos_of_pos_right _ (Int.natAbs_pos.mpr h)
theorem part_ne {a b : Int} (h : b ≠ 0) : part a b ≠ 0 := by
  have := gcd_pos (a := a) h
  unfold part
  split <;> omega
theorem part_abs (a b : Int) : (part a b).natAbs = Nat.gcd a.natAbs b.natAbs := by
  unfold part
  split <;> omega
theorem part_le {a b : Int} (h : b ≠ 0) : (part a b).natAbs ≤ b.natAbs := by
  rw [part_abs]
  exact Nat.le_of_dvd (Int.natAbs_pos.mpr h) (Nat.gcd_dvd_right _ _)
theorem log2_mono {a b k : Nat} (h : a ≤ b) (hb : b < 2 ^ k) (hk : 0 < k) : a.log2 < k := log2_lt hk (Nat.lt_of_le_of_lt h hb)
theorem w_in_lowest (a b : Int) (h : b ≠ 0) (hl : b.natAbs < 2 ^ 9000) : f_in_lowest.sem [.int a, .int b] = .ok (nm a b) [] := by
  have h1 := part_ne (a := a) h
  have h2 : (part a b).natAbs.log2 < 9000 := log2_mono (part_le h) hl (by decide)
  by_cases hb : b < 0
  · have e : part a b = -(Nat.gcd a.natAbs b.natAbs : Int) := if_pos hb
    rw [e] at h1 h2
    simp [f_in_lowest, mkFS, mkSem, startS, getV, outS, biF, setTg, isMp, hb, b_fdiv _ _ h1 h2, nm, e]
  · have e : part a b = (Nat.gcd a.natAbs b.natAbs : Int) := if_neg hb
    rw [e] at h1 h2
    simp [f_in_lowest, mkFS, mkSem, startS, getV, outS, biF, setTg, isMp, hb, b_fdiv _ _ h1 h2, nm, e]
/-! ## the law's own gcd -/
theorem gcd_loop : ∀ (n : Nat) (a b : Int), 0 ≤ a → 0 ≤ b → b.natAbs < n → ∃ s, whileL (evC (.e (.var 1))) (evSs [.asg (.tp [.nm 0, .nm 1]) (.tup (.cons (.var 1) (.cons (.bin .mod (.bi .int (.cons (.var 0) .nil)) (.var 1)) .nil)))]) n [.im (.int a), .im (.int b)] = .nx s ∧ s[0]? = some (.im (.int (Nat.gcd a.natAbs b.natAbs : Nat))) := by
  intro n
  induction n with
  | zero => intro a b _ _ h; omega
  | succ n ih =>
    intro a b ha hb h
    by_cases h0 : b = 0
    · subst h0
      refine ⟨_, by unfold whileL; simp [getV]; rfl, ?_⟩
      simp; omega
    · have hm := b_mod a b h0
      obtain ⟨s, h1, h2⟩ := ih b (a.fmod b) hb (Int.fmod_nonneg ha hb) (by
        have := Int.fmod_lt_of_pos a (show 0 < b by omega)
        have := Int.fmod_nonneg ha hb
        omega)
      refine ⟨s, ?_, ?_⟩
      · unfold whileL
        simp only [c_e, e_var, getV, List.getElem?_cons_succ, List.getElem?_cons_zero, bind_ok, truR_int, so_ok]
        have : (b != 0) = true := by simpa using h0
        rw [this]
        simp [getV, biF, hm, setTg, setTgs, isMp]
        exact h1
      · rw [h2]
        have e : Nat.gcd b.natAbs (a.fmod b).natAbs = Nat.gcd a.natAbs b.natAbs := by
          have e1 : (a.fmod b).natAbs = a.natAbs % b.natAbs := by
            rw [Int.fmod_eq_emod_of_nonneg _ hb]
            have := Int.natAbs_emod_of_nonneg ha b
            omega
          rw [e1, Nat.gcd_comm a.natAbs b.natAbs, Nat.gcd_rec b.natAbs a.natAbs, Nat.gcd_comm]
        rw [e]
theorem w_Lgcd (a b : Int) (h : b.natAbs < 2 ^ 6000) : f_Lgcd.sem [.int a, .int b] = .ok (.int (Nat.gcd a.natAbs b.natAbs : Nat)) [] := by
  obtain ⟨s, h1, h2⟩ := gcd_loop (2 ^ 6000) (if a < 0 then -a else a) (if b < 0 then -b else b) (by split <;> omega) (by split <;> omega) (by split <;> omega)
  have e1 : (if a < 0 then -a else a).natAbs = a.natAbs := by split <;> omega
  have e2 : (if b < 0 then -b else b).natAbs = b.natAbs := by split <;> omega
  rw [e1, e2] at h2
  simp [f_Lgcd, mkFS, mkSem, startS, getV, outS, biF, setTg, setTgs, isMp]
  rw [h1]
  simp [getV, h2]
end KS

namespace KS
open PySem FL
abbrev tq (p : Int × Int) : T := qt p.1 p.2
def nmP (a b : Int) : Int × Int := (a.fdiv (part a b), b.fdiv (part a b))
theorem nm_tq (a b : Int) : nm a b = tq (nmP a b) := rfl
theorem part_dvd_l (a b : Int) : part a b ∣ a := by
  have h : (Nat.gcd a.natAbs b.natAbs : Int) ∣ a := Int.ofNat_dvd_left.mpr (Nat.gcd_dvd_left _ _)
  unfold part
  split
  · exact Int.neg_dvd.mpr h
  · exact h
theorem part_dvd_r (a b : Int) : part a b ∣ b := by
  have h : (Nat.gcd a.natAbs b.natAbs : Int) ∣ b := Int.ofNat_dvd_left.mpr (Nat.gcd_dvd_right _ _)
  unfold part
  split
  · exact Int.neg_dvd.mpr h
  · exact h
/-- the parts are what they are times the shared one -/
theorem nmP_l (a b : Int) : (nmP a b).1 * part a b = a := Int.fdiv_mul_cancel (part_dvd_l a b)
theorem nmP_r (a b : Int) : (nmP a b).2 * part a b = b := Int.fdiv_mul_cancel (part_dvd_r a b)
theorem nmP_pos {a b : Int} (h : b ≠ 0) : 0 < (nmP a b).2 := by
  have h1 := nmP_r a b
  have h2 := gcd_pos (a := a) h
  unfold part at h1
  split at h1
  · rename_i hb
    rcases Int.lt_trichotomy (nmP a b).2 0 with z | z | z
    · have := Int.mul_pos_of_neg_of_neg z (show -(Nat.gcd a.natAbs b.natAbs : Int) < 0 by omega)
      omega
    · rw [z] at h1; omega
    · exact z
  · rename_i hb
    rcases Int.lt_trichotomy (nmP a b).2 0 with z | z | z
    · have := Int.mul_neg_of_neg_of_pos z (show 0 < (Nat.gcd a.natAbs b.natAbs : Int) by omega)
      omega
    · rw [z] at h1; omega
    · exact z
theorem nmP_cop {a b : Int} (h : b ≠ 0) : Nat.gcd (nmP a b).1.natAbs (nmP a b).2.natAbs = 1 := by
  have h1 := congrArg Int.natAbs (nmP_l a b)
  have h2 := congrArg Int.natAbs (nmP_r a b)
  rw [Int.natAbs_mul, part_abs] at h1 h2
  have hg := gcd_pos (a := a) h
  have e : Nat.gcd ((nmP a b).1.natAbs * Nat.gcd a.natAbs b.natAbs) ((nmP a b).2.natAbs * Nat.gcd a.natAbs b.natAbs) = Nat.gcd a.natAbs b.natAbs := by rw [h1, h2]
  rw [Nat.gcd_mul_right] at e
  exact Nat.eq_of_mul_eq_mul_right hg (by omega)
theorem nmP_le {a b : Int} (h : b ≠ 0) : (nmP a b).1.natAbs ≤ a.natAbs ∧ (nmP a b).2.natAbs ≤ b.natAbs := by
  have h1 := congrArg Int.natAbs (nmP_l a b)
  have h2 := congrArg Int.natAbs (nmP_r a b)
  rw [Int.natAbs_mul, part_abs] at h1 h2
  have hg := gcd_pos (a := a) h
  exact ⟨by rw [← h1]; exact Nat.le_mul_of_pos_right _ hg, by rw [← h2]; exact Nat.le_mul_of_pos_right _ hg⟩
/-- numbers of less than k bits -/
def Bd (k : Nat) (x : Int) : Prop := x.natAbs < 2 ^ k
theorem Bd.mul {k l : Nat} {x y : Int} (h : Bd k x) (h' : Bd l y) : Bd (k + l) (x * y) := by
  unfold Bd at *
  rw [Int.natAbs_mul, Nat.pow_add]
  exact Nat.mul_lt_mul'' h h'
theorem Bd.up {k l : Nat} {x : Int} (h : Bd k x) (l' : k ≤ l) : Bd l x := Nat.lt_of_lt_of_le h (Nat.pow_le_pow_right (by decide) l')
theorem Bd.add {k : Nat} {x y : Int} (h : Bd k x) (h' : Bd k y) : Bd (k + 1) (x + y) := by
  unfold Bd at *
  rw [Nat.pow_succ]
  have := Int.natAbs_add_le x y
  omega
theorem Bd.sub {k : Nat} {x y : Int} (h : Bd k x) (h' : Bd k y) : Bd (k + 1) (x - y) := by
  unfold Bd at *
  rw [Nat.pow_succ]
  have := Int.natAbs_sub_le x y
  omega
theorem Bd.mulOk {k l : Nat} {x y : Int} (h : Bd k x) (h' : Bd l y) (a : 0 < k ∧ 0 < l ∧ k + l < 1000000) : FL.MulOk x y = true := mul_ok h h' a.2.2 a.1 a.2.1
/-- a ratio's parts -/
structure Rt (k : Nat) (p : Int × Int) : Prop where
  n : Bd k p.1
  d : Bd k p.2
  ne : p.2 ≠ 0
theorem Rt.up {k l : Nat} {p : Int × Int} (h : Rt k p) (l' : k ≤ l) : Rt l p := ⟨h.n.up l', h.d.up l', h.ne⟩
theorem Rt.nm {k : Nat} {a b : Int} (ha : Bd k a) (hb : Bd k b) (h : b ≠ 0) : Rt k (nmP a b) :=
  ⟨Nat.lt_of_le_of_lt (nmP_le h).1 ha, Nat.lt_of_le_of_lt (nmP_le h).2 hb, by have := nmP_pos (a := a) h; omega⟩
theorem w_Lratio (a b : Int) (h : b ≠ 0) (hl : b.natAbs < 2 ^ 6000) : f_Lratio.sem [.int a, .int b] = .ok (nm a b) [] := by
  have h1 := part_ne (a := a) h
  have h2 : (part a b).natAbs.log2 < 9000 := log2_mono (part_le h) (Nat.lt_of_lt_of_le hl (Nat.pow_le_pow_right (by decide) (by decide))) (by decide)
  have hg := w_Lgcd a b hl
  have ha := after_v f_Lgcd rfl [.int a, .int b] []
  simp only [List.map_cons, List.map_nil, List.cons_append, List.nil_append, hg] at ha
  by_cases hb : b < 0
  · have e : part a b = -(Nat.gcd a.natAbs b.natAbs : Int) := if_pos hb
    rw [e] at h1 h2
    simp [f_Lratio, mkFS, mkSem, startS, getV, outS, setTg, isMp, hb, b_fdiv _ _ h1 h2, nm, e, ha, show f_Lgcd.fresh = false from rfl]
  · have e : part a b = (Nat.gcd a.natAbs b.natAbs : Int) := if_neg hb
    rw [e] at h1 h2
    simp [f_Lratio, mkFS, mkSem, startS, getV, outS, setTg, isMp, hb, b_fdiv _ _ h1 h2, nm, e, ha, show f_Lgcd.fresh = false from rfl]
/-- a call by values -/
theorem call_v {g : FS} (hm : g.mu = none) {ts : List T} {avs : List AV} (e : avs = ts.map .v) {t : T} {o : List T} (h : g.sem ts = .ok t o) (s : Sls) : after g avs [] s false = .ok t s := by
  subst e
  rw [after_v g hm, List.append_nil, h]
variable {p r : Int × Int}
theorem w_plus (hp : Rt 2900 p) (hr : Rt 2900 r) : f_plus.sem [tq p, tq r] = .ok (tq (nmP (p.1 * r.2 + r.1 * p.2) (p.2 * r.2))) [] := by
  have m1 := b_mul p.1 r.2 (hp.n.mulOk hr.d (by decide))
  have m2 := b_mul r.1 p.2 (hr.n.mulOk hp.d (by decide))
  have m3 := b_mul p.2 r.2 (hp.d.mulOk hr.d (by decide))
  have hc := call_v (avs := [.v (.int (p.1 * r.2 + r.1 * p.2)), .v (.int (p.2 * r.2))]) rfl rfl (w_in_lowest (p.1 * r.2 + r.1 * p.2) (p.2 * r.2) (Int.mul_ne_zero hp.ne hr.ne) (((hp.d.mul hr.d)).up (l := 9000) (by decide)))
  simp [f_plus, mkFS, mkSem, startS, getV, outS, m1, m2, m3, hc, show f_in_lowest.fresh = false from rfl, nm_tq]
theorem w_Lplus (hp : Rt 2900 p) (hr : Rt 2900 r) : f_Lplus.sem [tq p, tq r] = .ok (tq (nmP (p.1 * r.2 + r.1 * p.2) (p.2 * r.2))) [] := by
  have m1 := b_mul p.1 r.2 (hp.n.mulOk hr.d (by decide))
  have m2 := b_mul r.1 p.2 (hr.n.mulOk hp.d (by decide))
  have m3 := b_mul p.2 r.2 (hp.d.mulOk hr.d (by decide))
  have hc := call_v (avs := [.v (.int (p.1 * r.2 + r.1 * p.2)), .v (.int (p.2 * r.2))]) rfl rfl (w_Lratio (p.1 * r.2 + r.1 * p.2) (p.2 * r.2) (Int.mul_ne_zero hp.ne hr.ne) (((hp.d.mul hr.d)).up (l := 6000) (by decide)))
  simp [f_Lplus, mkFS, mkSem, startS, getV, outS, m1, m2, m3, hc, show f_Lratio.fresh = false from rfl, nm_tq]
theorem w_minus (hp : Rt 2900 p) (hr : Rt 2900 r) : f_minus.sem [tq p, tq r] = .ok (tq (nmP (p.1 * r.2 - r.1 * p.2) (p.2 * r.2))) [] := by
  have m1 := b_mul p.1 r.2 (hp.n.mulOk hr.d (by decide))
  have m2 := b_mul r.1 p.2 (hr.n.mulOk hp.d (by decide))
  have m3 := b_mul p.2 r.2 (hp.d.mulOk hr.d (by decide))
  have hc := call_v (avs := [.v (.int (p.1 * r.2 - r.1 * p.2)), .v (.int (p.2 * r.2))]) rfl rfl (w_in_lowest (p.1 * r.2 - r.1 * p.2) (p.2 * r.2) (Int.mul_ne_zero hp.ne hr.ne) (((hp.d.mul hr.d)).up (l := 9000) (by decide)))
  simp [f_minus, mkFS, mkSem, startS, getV, outS, m1, m2, m3, hc, show f_in_lowest.fresh = false from rfl, nm_tq]
theorem w_Lless (hp : Rt 2900 p) (hr : Rt 2900 r) : f_Lless.sem [tq p, tq r] = .ok (tq (nmP (p.1 * r.2 - r.1 * p.2) (p.2 * r.2))) [] := by
  have m1 := b_mul p.1 r.2 (hp.n.mulOk hr.d (by decide))
  have m2 := b_mul r.1 p.2 (hr.n.mulOk hp.d (by decide))
  have m3 := b_mul p.2 r.2 (hp.d.mulOk hr.d (by decide))
  have hc := call_v (avs := [.v (.int (p.1 * r.2 - r.1 * p.2)), .v (.int (p.2 * r.2))]) rfl rfl (w_Lratio (p.1 * r.2 - r.1 * p.2) (p.2 * r.2) (Int.mul_ne_zero hp.ne hr.ne) (((hp.d.mul hr.d)).up (l := 6000) (by decide)))
  simp [f_Lless, mkFS, mkSem, startS, getV, outS, m1, m2, m3, hc, show f_Lratio.fresh = false from rfl, nm_tq]
theorem w_times (hp : Rt 2900 p) (hr : Rt 2900 r) : f_times.sem [tq p, tq r] = .ok (tq (nmP (p.1 * r.1) (p.2 * r.2))) [] := by
  have m1 := b_mul p.1 r.1 (hp.n.mulOk hr.n (by decide))
  have m3 := b_mul p.2 r.2 (hp.d.mulOk hr.d (by decide))
  have hc := call_v (avs := [.v (.int (p.1 * r.1)), .v (.int (p.2 * r.2))]) rfl rfl (w_in_lowest (p.1 * r.1) (p.2 * r.2) (Int.mul_ne_zero hp.ne hr.ne) (((hp.d.mul hr.d)).up (l := 9000) (by decide)))
  simp [f_times, mkFS, mkSem, startS, getV, outS, m1, m3, hc, show f_in_lowest.fresh = false from rfl, nm_tq]
theorem w_Ltimes (hp : Rt 2900 p) (hr : Rt 2900 r) : f_Ltimes.sem [tq p, tq r] = .ok (tq (nmP (p.1 * r.1) (p.2 * r.2))) [] := by
  have m1 := b_mul p.1 r.1 (hp.n.mulOk hr.n (by decide))
  have m3 := b_mul p.2 r.2 (hp.d.mulOk hr.d (by decide))
  have hc := call_v (avs := [.v (.int (p.1 * r.1)), .v (.int (p.2 * r.2))]) rfl rfl (w_Lratio (p.1 * r.1) (p.2 * r.2) (Int.mul_ne_zero hp.ne hr.ne) (((hp.d.mul hr.d)).up (l := 6000) (by decide)))
  simp [f_Ltimes, mkFS, mkSem, startS, getV, outS, m1, m3, hc, show f_Lratio.fresh = false from rfl, nm_tq]
theorem w_negative : f_negative.sem [tq p] = .ok (tq (-p.1, p.2)) [] := by
  simp [f_negative, mkFS, mkSem, startS, getV, outS]
def cmpP (p r : Int × Int) : Int := if p.1 * r.2 < r.1 * p.2 then -1 else if r.1 * p.2 < p.1 * r.2 then 1 else 0
theorem w_compare (hp : Rt 2900 p) (hr : Rt 2900 r) : f_compare.sem [tq p, tq r] = .ok (.int (cmpP p r)) [] := by
  have m1 := b_mul p.1 r.2 (hp.n.mulOk hr.d (by decide))
  have m2 := b_mul r.1 p.2 (hr.n.mulOk hp.d (by decide))
  unfold cmpP
  by_cases h1 : p.1 * r.2 = r.1 * p.2
  · simp [f_compare, mkFS, mkSem, startS, getV, outS, m1, m2, setTg, isMp, h1]
  · by_cases h2 : p.1 * r.2 < r.1 * p.2
    · simp [f_compare, mkFS, mkSem, startS, getV, outS, m1, m2, setTg, isMp, h1, h2]
    · have h3 : r.1 * p.2 < p.1 * r.2 := by omega
      simp [f_compare, mkFS, mkSem, startS, getV, outS, m1, m2, setTg, isMp, h1, h2, h3]
theorem w_Lcompare (hp : Rt 2900 p) (hr : Rt 2900 r) : f_Lcompare.sem [tq p, tq r] = .ok (.int (cmpP p r)) [] := by
  have m1 := b_mul p.1 r.2 (hp.n.mulOk hr.d (by decide))
  have m2 := b_mul r.1 p.2 (hr.n.mulOk hp.d (by decide))
  unfold cmpP
  by_cases h2 : p.1 * r.2 < r.1 * p.2
  · simp [f_Lcompare, mkFS, mkSem, startS, getV, outS, m1, m2, setTg, setTgs, isMp, h2]
  · by_cases h3 : r.1 * p.2 < p.1 * r.2
    · simp [f_Lcompare, mkFS, mkSem, startS, getV, outS, m1, m2, setTg, setTgs, isMp, h2, h3]
    · simp [f_Lcompare, mkFS, mkSem, startS, getV, outS, m1, m2, setTg, setTgs, isMp, h2, h3]
end KS

namespace KS
open PySem FL
/-! ## the script's hand -/
theorem mulS {x y : Int} (hx : x.natAbs < 2 ^ 60) (hy : y.natAbs < 2 ^ 60) : FL.MulOk x y = true := mul_ok hx hy (by decide) (by decide) (by decide)
theorem fdiv_nn {a b : Int} (ha : 0 ≤ a) (hb : 0 < b) : 0 ≤ a.fdiv b ∧ a.fdiv b ≤ a := by
  rw [Int.fdiv_eq_ediv_of_nonneg _ (by omega)]
  exact ⟨Int.ediv_nonneg ha (by omega), Int.ediv_le_self _ ha⟩
theorem fmod_nn {a b : Int} (hb : 0 < b) : 0 ≤ a.fmod b ∧ a.fmod b < b := ⟨by rw [Int.fmod_eq_emod_of_nonneg _ (by omega)]; exact Int.emod_nonneg _ (by omega), Int.fmod_lt_of_pos _ hb⟩
theorem w_Lmixed (a b : Int) (ha : 0 ≤ a ∧ a < 2 ^ 40) (hb : 0 ≤ b ∧ b < 2 ^ 20) : ∃ z, 0 ≤ z ∧ f_Lmixed.sem [.int a, .int b] = .ok (.int z) [] := by
  have m1 := b_mul a 48271 (mulS (by omega) (by decide))
  have m2 := b_mul b 7919 (mulS (by omega) (by decide))
  have q1 := b_mod (a * 48271 + b * 7919 + 65537) 2147483647 (by decide)
  obtain ⟨o1, o2⟩ := fmod_nn (a := a * 48271 + b * 7919 + 65537) (b := 2147483647) (by decide)
  generalize (a * 48271 + b * 7919 + 65537).fmod 2147483647 = o at q1 o1 o2
  have m3 := b_mul o o (mulS (by omega) (by omega))
  have m4 := b_mul b 104729 (mulS (by omega) (by decide))
  have d1 := b_fdiv o 127 (by decide) (by decide)
  have q2 := b_mod (o * o + b * 104729 + o.fdiv 127) 2147483629 (by decide)
  obtain ⟨t1, t2⟩ := fmod_nn (a := o * o + b * 104729 + o.fdiv 127) (b := 2147483629) (by decide)
  generalize (o * o + b * 104729 + o.fdiv 127).fmod 2147483629 = t at q2 t1 t2
  have m5 := b_mul t 69621 (mulS (by omega) (by decide))
  have d2 := b_fdiv o 5 (by decide) (by decide)
  have q3 := b_mod (t * 69621 + o.fdiv 5) 2147483587 (by decide)
  obtain ⟨u1, u2⟩ := fmod_nn (a := t * 69621 + o.fdiv 5) (b := 2147483587) (by decide)
  generalize (t * 69621 + o.fdiv 5).fmod 2147483587 = u at q3 u1 u2
  have d3 := b_fdiv u 16 (by decide) (by decide)
  refine ⟨u.fdiv 16, (fdiv_nn u1 (by decide)).1, ?_⟩
  simp [f_Lmixed, mkFS, mkSem, startS, getV, outS, biF, setTg, isMp, m1, m2, q1, m3, m4, d1, q2, m5, d2, q3, d3]
/-- the hand's list -/
structure HandOk (h : List T) : Prop where
  ex : ∃ (cells : List Int) (pos rest mix : Int), h = [.lst (cells.map T.int), .int pos, .int rest, .int mix] ∧ cells.length ≤ 63 ∧ (∀ c ∈ cells, 0 ≤ c) ∧ 0 ≤ pos ∧ pos ≤ cells.length ∧ 0 ≤ rest ∧ 0 ≤ mix ∧ mix < 2 ^ 40
theorem atI_map {l : List Int} {i : Int} (h0 : 0 ≤ i) (h : i < l.length) : ∃ c, c ∈ l ∧ L2.atI (l.map T.int) i = some (.int c) := by
  unfold L2.atI
  rw [ixN_lit h0 (by rw [List.length_map]; exact h)]
  have hi : i.toNat < l.length := by omega
  exact ⟨l[i.toNat], List.getElem_mem hi, by simp [hi]⟩
theorem ix4_1 : L2.ixN 4 1 = some 1 := rfl
theorem ix4_2 : L2.ixN 4 2 = some 2 := rfl
theorem ix4_3 : L2.ixN 4 3 = some 3 := rfl
theorem pow18 : bop .pow (.int 10) (.int 18) = some (.int (10 ^ 18)) := rfl
theorem pow9 : bop .pow (.int 10) (.int 9) = some (.int (10 ^ 9)) := rfl
def takeHead : S := ir_Ltake.headD .pass
def takeTail : List S := ir_Ltake.tail
theorem w_Ltake {h : List T} (hh : HandOk h) (m : Int) (hm : 1 ≤ m ∧ m < 2 ^ 60) : ∃ z h', HandOk h' ∧ 0 ≤ z ∧ z < m ∧ f_Ltake.sem [.lst h, .int m] = .ok (.int z) h' := by
  obtain ⟨cells, pos, rest, mix, rfl, hl, hc, p0, p1, r0, x0, x1⟩ := hh.ex
  have dm : ∀ a : Int, bop .fdiv (.int a) (.int m) = some (.int (a.fdiv m)) := fun a => b_fdiv a m (by omega) (by
    have : m.natAbs < 2 ^ 9000 := Nat.lt_of_lt_of_le (show m.natAbs < 2 ^ 60 by omega) (Nat.pow_le_pow_right (by decide) (by decide))
    exact log2_lt (by decide) this)
  have mm : ∀ a : Int, bop .mod (.int a) (.int m) = some (.int (a.fmod m)) := fun a => b_mod a m (by omega)
  have z0 : ∀ a : Int, 0 ≤ a.fmod m ∧ a.fmod m < m := fun a => fmod_nn (by omega)
  -- what is done with a rest
  have tail : ∀ (pos rest : Int), 0 ≤ pos → pos ≤ cells.length → 0 ≤ rest → ∀ s2, ∃ z h' s', HandOk h' ∧ 0 ≤ z ∧ z < m ∧ outS (some 0) s' = some h' ∧
      evSs takeTail [.mp [.lst (cells.map T.int), .int pos, .int rest, .int mix], .im (.int m), s2, .un] = .ret (.int z) s' := by
    intro pos rest p0 p1 r0 s2
    by_cases hr : 0 < rest
    · refine ⟨rest.fmod m, [.lst (cells.map T.int), .int pos, .int (rest.fdiv m), .int mix], _, ⟨cells, pos, _, mix, rfl, hl, hc, p0, p1, (fdiv_nn r0 (by omega)).1, x0, x1⟩, (z0 _).1, (z0 _).2, ?_, by
        simp [takeTail, ir_Ltake, getV, ownAt, Sl.own, hr, setTg, isMp, biF, dm, mm, ix4_2, putOwn]; rfl⟩
      rfl
    · have q1 := b_mod (mix + 1) 2147483629 (by decide)
      obtain ⟨u1, u2⟩ := fmod_nn (a := mix + 1) (b := 2147483629) (by decide)
      generalize (mix + 1).fmod 2147483629 = u at q1 u1 u2
      obtain ⟨z, hz, hx⟩ := w_Lmixed u pos ⟨u1, by omega⟩ ⟨p0, by omega⟩
      have hcall := call_v (g := f_Lmixed) (avs := [.v (.int u), .v (.int pos)]) rfl rfl hx
      refine ⟨z.fmod m, [.lst (cells.map T.int), .int pos, .int rest, .int u], _, ⟨cells, pos, rest, u, rfl, hl, hc, p0, p1, r0, u1, by omega⟩, (z0 _).1, (z0 _).2, ?_, by
        simp [takeTail, ir_Ltake, getV, ownAt, Sl.own, hr, setTg, isMp, biF, mm, ix4_3, putOwn, q1, hcall, show f_Lmixed.fresh = false from rfl]; rfl⟩
      rfl
  have fin : ∀ (st2 : Sls) (s' : Sls) (z : Int) (h' : List T), evS takeHead [.mp [.lst (cells.map T.int), .int pos, .int rest, .int mix], .im (.int m), .un, .un] = .nx st2 → evSs takeTail st2 = .ret (.int z) s' → outS (some 0) s' = some h' → f_Ltake.sem [.lst [.lst (cells.map T.int), .int pos, .int rest, .int mix], .int m] = .ok (.int z) h' := by
    intro st2 s' z h' e1 e2 e3
    have e : evSs ir_Ltake [.mp [.lst (cells.map T.int), .int pos, .int rest, .int mix], .im (.int m), .un, .un] = .ret (.int z) s' := by
      show evSs (takeHead :: takeTail) _ = _
      rw [ss_cons_, e1, then_nx, e2]
    simp only [f_Ltake, mkFS, mkSem, startS, List.length_cons, List.length_nil, if_true, Option.map_some, Option.some.injEq, Nat.zero_ne_one, if_false]
    simp [startS, e, e3, List.replicate]
  by_cases hr : rest = 0
  · subst hr
    by_cases hp : pos < cells.length
    · obtain ⟨c, hcm, hat⟩ := atI_map p0 hp
      have c0 := hc c hcm
      by_cases hlt : c < 10 ^ 18
      · have q1 := b_mod c 2147483647 (by decide)
        obtain ⟨u1, u2⟩ := fmod_nn (a := c) (b := 2147483647) (by decide)
        generalize c.fmod 2147483647 = u at q1 u1 u2
        obtain ⟨z, hz, hx⟩ := w_Lmixed u (pos + 1) ⟨u1, by omega⟩ ⟨by omega, by omega⟩
        have hcall := call_v (g := f_Lmixed) (avs := [.v (.int u), .v (.int (pos + 1))]) rfl rfl hx
        refine ⟨z.fmod m, [.lst (cells.map T.int), .int (pos + 1), .int 0, .int mix], ⟨cells, pos + 1, 0, mix, rfl, hl, hc, by omega, by omega, by omega, x0, x1⟩, (z0 _).1, (z0 _).2, ?_⟩
        have hlt' : c < 1000000000000000000 := hlt
        simp [f_Ltake, mkFS, mkSem, startS, getV, ownAt, Sl.own, biF, hp, hat, setTg, isMp, ix4_1, putOwn, pow18, hlt', q1, hcall, mm, outS, show f_Lmixed.fresh = false from rfl]
      · obtain ⟨z, h', s', a1, a2, a3, a5, a4⟩ := tail (pos + 1) c (by omega) (by omega) c0 (.im (.int c))
        have hlt' : ¬ c < 1000000000000000000 := hlt
        refine ⟨z, h', a1, a2, a3, fin _ s' z h' ?_ a4 a5⟩
        simp [takeHead, ir_Ltake, getV, ownAt, Sl.own, biF, hp, hat, setTg, isMp, ix4_1, ix4_2, putOwn, pow18, hlt']
    · obtain ⟨z, h', s', a1, a2, a3, a5, a4⟩ := tail pos 0 p0 p1 (by omega) .un
      refine ⟨z, h', a1, a2, a3, fin _ s' z h' ?_ a4 a5⟩
      simp [takeHead, ir_Ltake, getV, ownAt, Sl.own, biF, hp]
  · obtain ⟨z, h', s', a1, a2, a3, a5, a4⟩ := tail pos rest p0 p1 r0 .un
    refine ⟨z, h', a1, a2, a3, fin _ s' z h' ?_ a4 a5⟩
    simp [takeHead, ir_Ltake, getV, ownAt, Sl.own, biF, hr]
end KS

namespace KS
open PySem FL
theorem take_at {s : Sls} {i : Nat} {h : List T} (ho : ownAt s i = some h) (hh : HandOk h) {e : E} {m : Int} (he : evE e s = .ok (.int m) s) (hm : 1 ≤ m ∧ m < 2 ^ 60) :
    ∃ z h', HandOk h' ∧ 0 ≤ z ∧ z < m ∧ evE (.call f_Ltake (.b i (.e e .nil)) []) s = .ok (.int z) (putOwn s i h') := by
  obtain ⟨z, h', a1, a2, a3, a4⟩ := w_Ltake hh m hm
  refine ⟨z, h', a1, a2, a3, ?_⟩
  have ha := after_r0 (g := f_Ltake) (i := i) (vs := [.int m]) (s := s) rfl ho a4
  simp only [List.map_cons, List.map_nil] at ha
  simp [show f_Ltake.fresh = false from rfl, ho, he, ha]
/-- four slots, the first is the hand -/
theorem num_loop {n : Nat} : ∀ (xs : List T) (h : List T) (t : Int) (a b : Sl), xs.length = n → isMp [Sl.mp h, a, .im (.int t), b] 3 = false → HandOk h → ∀ k, Bd k t → 0 < k → k + 31 * n < 10000 → 0 ≤ t → ∃ h' t' b', HandOk h' ∧ Bd (k + 31 * n) t' ∧ 0 ≤ t' ∧
    forL (.nm 3) (evSs [.asg (.nm 2) (.bin .add (.bin .mul (.var 2) (.bin .pow (.cst (.int 10)) (.cst (.int 9)))) (.call f_Ltake (.b 0 (.e (.bin .pow (.cst (.int 10)) (.cst (.int 9))) (.nil))) []))]) xs [.mp h, a, .im (.int t), b] = .nx [.mp h', a, .im (.int t'), b'] := by
  induction n with
  | zero =>
    intro xs h t a b hl hb hh k hk hk0 hkn ht
    obtain rfl : xs = [] := List.length_eq_zero_iff.mp hl
    exact ⟨h, t, b, hh, hk, ht, forL_nil⟩
  | succ n ih =>
    intro xs h t a b hl hb hh k hk hk0 hkn ht
    cases xs with
    | nil => simp at hl
    | cons x xs =>
      obtain ⟨z, h', z1, z2, z3, z4⟩ := take_at (s := [.mp h, a, .im (.int t), .im x]) (i := 0) rfl hh (e := .bin .pow (.cst (.int 10)) (.cst (.int 9))) (m := 10 ^ 9) (by simp [pow9]) (by decide)
      have m1 := b_mul t 1000000000 (hk.mulOk (show Bd 60 1000000000 by unfold Bd; decide) (by omega))
      have hb2 : Bd (k + 31) (t * 1000000000 + z) := by
        have h1 : Bd (k + 30) (t * 1000000000) := hk.mul (show Bd 30 1000000000 by unfold Bd; decide)
        have h2 : Bd (k + 30) z := by
          have : Bd 30 z := by unfold Bd; omega
          exact this.up (by omega)
        exact h1.add h2
      obtain ⟨h2, t2, b2, y1, y2, y3, y4⟩ := ih xs h' (t * 1000000000 + z) a (.im x) (by simpa using hl) rfl z1 (k + 31) hb2 (by omega) (by omega) (by have := Int.mul_nonneg ht (show (0 : Int) ≤ 1000000000 by decide); omega)
      refine ⟨h2, t2, b2, y1, by rw [show k + 31 * (n + 1) = k + 31 + 31 * n by omega]; exact y2, y3, ?_⟩
      have z4' : evE (.call f_Ltake (.b 0 (.e (.bin .pow (.cst (.int 10)) (.cst (.int 9))) (.nil))) []) [.mp h, a, .im (.int t), .im x] = .ok (.int z) [.mp h', a, .im (.int t), .im x] := z4
      have st : setTg (.nm 3) x [.mp h, a, .im (.int t), b] = some [.mp h, a, .im (.int t), .im x] := by
        simp only [setTg, hb, Bool.false_eq_true, if_false]
        rfl
      have bd : evSs [.asg (.nm 2) (.bin .add (.bin .mul (.var 2) (.bin .pow (.cst (.int 10)) (.cst (.int 9)))) (.call f_Ltake (.b 0 (.e (.bin .pow (.cst (.int 10)) (.cst (.int 9))) (.nil))) []))] [.mp h, a, .im (.int t), .im x] = .nx [.mp h', a, .im (.int (t * 1000000000 + z)), .im x] := by
        simp only [ss_cons_, ss_nil_, s_asg_, e_bin, e_var, kBin_, kBin2_, z4', bind_ok, getV, List.getElem?_cons_succ, List.getElem?_cons_zero, e_cst, pow9, of_some, show (10 : Int) ^ 9 = 1000000000 from rfl, m1, b_add, so_ok, kAsg_, setTg, isMp, Bool.false_eq_true, if_false, then_nx]
        rfl
      rw [forL_step st bd]
      exact y4
theorem w_Lnumber {h : List T} (hh : HandOk h) : ∃ z h', HandOk h' ∧ Bd 160 z ∧ f_Lnumber.sem [.lst h] = .ok (.int z) h' := by
  obtain ⟨k, h1, a1, a2, a3, a4⟩ := take_at (s := [.mp h, .un, .un, .un]) (i := 0) rfl hh (e := .cst (.int 9)) (m := 9) rfl (by decide)
  have a4' : evE (.call f_Ltake (.b 0 (.e (.cst (.int 9)) .nil)) []) [.mp h, .un, .un, .un] = .ok (.int k) [.mp h1, .un, .un, .un] := a4
  by_cases hk : k < 6
  · obtain ⟨z, h2, b1, b2, b3, b4⟩ := take_at (s := [.mp h1, .im (.int k), .un, .un]) (i := 0) rfl a1 (e := .cst (.int 25)) (m := 25) rfl (by decide)
    have b4' : evE (.call f_Ltake (.b 0 (.e (.cst (.int 25)) .nil)) []) [.mp h1, .im (.int k), .un, .un] = .ok (.int z) [.mp h2, .im (.int k), .un, .un] := b4
    refine ⟨z - 12, h2, b1, by unfold Bd; omega, ?_⟩
    simp only [f_Lnumber, mkFS, mkSem, startS, List.length_cons, List.length_nil, if_true, Option.map_some, List.cons_append, List.nil_append, List.replicate, ir_Lnumber, ss_cons_, s_asg_, a4', so_ok, kAsg_, setTg, isMp, Bool.false_eq_true, if_false]
    simp [hk, getV, isMp, setTg, b4', outS, evSs, -e_call]
  · have hb : ∃ n : Nat, n ≤ 5 ∧ evIt (.rng1 (.ite (.cmp .lt (.var 1) (.cst (.int 8))) (.cst (.int 1)) (.cst (.int 5)))) [.mp h1, .im (.int k), .im (.int 0), .un] = .ok ((List.range n).map fun k => .int (k : Nat)) [.mp h1, .im (.int k), .im (.int 0), .un] := by
      by_cases h8 : k < 8
      · refine ⟨1, by decide, ?_⟩
        have := kRng_ 1 [.mp h1, .im (.int k), .im (.int 0), .un] (by decide)
        simp [getV, h8, this]
      · refine ⟨5, by decide, ?_⟩
        have := kRng_ 5 [.mp h1, .im (.int k), .im (.int 0), .un] (by decide)
        simp [getV, h8, this]
    obtain ⟨n, hn, hi⟩ := hb
    obtain ⟨h2, t, b', c1, c2, c3, c4⟩ := num_loop (n := n) ((List.range n).map fun k => .int (k : Nat)) h1 0 (.im (.int k)) .un (by simp) rfl a1 1 (by unfold Bd; decide) (by decide) (by omega) (by decide)
    obtain ⟨s, h3, d1, d2, d3, d4⟩ := take_at (s := [.mp h2, .im (.int k), .im (.int t), b']) (i := 0) rfl c1 (e := .cst (.int 2)) (m := 2) rfl (by decide)
    have d4' : evE (.call f_Ltake (.b 0 (.e (.cst (.int 2)) .nil)) []) [.mp h2, .im (.int k), .im (.int t), b'] = .ok (.int s) [.mp h3, .im (.int k), .im (.int t), b'] := d4
    have m1 := b_mul 2 s (mulS (by decide) (by omega))
    have m2 := b_mul t (1 - 2 * s) (c2.mulOk (show Bd 60 (1 - 2 * s) by unfold Bd; omega) (by omega))
    refine ⟨t * (1 - 2 * s), h3, d1, ?_, ?_⟩
    · have h1 : Bd (1 + 31 * n + 3) (t * (1 - 2 * s)) := c2.mul (show Bd 3 (1 - 2 * s) by unfold Bd; omega)
      exact h1.up (by omega)
    · refine sem_ret (s0 := [.mp h]) (s1 := [.mp h3, .im (.int k), .im (.int t), b']) rfl rfl ?_ rfl
      show evSs ir_Lnumber [.mp h, .un, .un, .un] = _
      refine seq_nx (s1 := [.mp h1, .im (.int k), .un, .un]) (by rw [s_asg_, a4', so_ok]; rfl) ?_
      refine seq_nx (s1 := [.mp h1, .im (.int k), .un, .un]) (by simp [getV, hk]) ?_
      refine seq_nx (s1 := [.mp h1, .im (.int k), .im (.int 0), .un]) (by rfl) ?_
      refine seq_nx (s1 := [.mp h2, .im (.int k), .im (.int t), b']) (by rw [s_for_, hi, so_ok, kFor_, c4]) ?_
      refine seq_ret ?_
      simp only [s_ret_, e_bin, e_var, getV, List.getElem?_cons_succ, List.getElem?_cons_zero, bind_ok, kBin_, e_cst, kBin2_, d4', m1, of_some, b_sub, m2, so_ok]
end KS

namespace KS
open PySem FL
abbrev handBody : List S := [.asg (.nm 1) (.bin .mod (.bi .int (.cons (.bin .add (.bin .mul (.var 1) (.cst (.int 1019))) (.bi .int (.cons (.var 3) (.nil)))) (.nil))) (.cst (.int 2147483629))),
    .app 2 (.ite (.cmp .ge (.var 3) (.cst (.int 0))) (.bi .int (.cons (.var 3) (.nil))) (.neg (.bi .int (.cons (.var 3) (.nil)))))]
theorem hand_loop (sc : T) : ∀ (ns : List Int) (cs : List Int) (t : Int) (b : Sl), isMp [.im sc, .im (.int t), .mu (cs.map T.int), b] 3 = false → ns.length + cs.length ≤ 1000 → (∀ c ∈ cs, 0 ≤ c) → 0 ≤ t → t < 2 ^ 40 → ∃ (cs' : List Int) (t' : Int) (b' : Sl), cs'.length = cs.length + ns.length ∧ (∀ c ∈ cs', 0 ≤ c) ∧ 0 ≤ t' ∧ t' < 2 ^ 40 ∧
    forL (.nm 3) (evSs handBody) (ns.map T.int) [.im sc, .im (.int t), .mu (cs.map T.int), b] = .nx [.im sc, .im (.int t'), .mu (cs'.map T.int), b'] := by
  intro ns
  induction ns with
  | nil => intro cs t b hb hl hc t0 t1; exact ⟨cs, t, b, rfl, hc, t0, t1, forL_nil⟩
  | cons n ns ih =>
    intro cs t b hb hl hc t0 t1
    rw [List.length_cons] at hl
    have m1 := b_mul t 1019 (mulS (by omega) (by decide))
    have q1 := b_mod (t * 1019 + n) 2147483629 (by decide)
    obtain ⟨u1, u2⟩ := fmod_nn (a := t * 1019 + n) (b := 2147483629) (by decide)
    generalize (t * 1019 + n).fmod 2147483629 = u at q1 u1 u2
    obtain ⟨cs', t', b', h1, h2, h3, h4, h5⟩ := ih (cs ++ [(n.natAbs : Int)]) u (.im (.int n)) rfl (by simp; omega) (fun c hm => by
      rcases List.mem_append.mp hm with hm | hm
      · exact hc c hm
      · simp at hm; omega) u1 (by omega)
    refine ⟨cs', t', b', by rw [h1]; simp; omega, h2, h3, h4, ?_⟩
    rw [List.map_cons]
    have st : setTg (.nm 3) (.int n) [.im sc, .im (.int t), .mu (cs.map T.int), b] = some [.im sc, .im (.int t), .mu (cs.map T.int), .im (.int n)] := by
      simp only [setTg, hb, Bool.false_eq_true, if_false]
      rfl
    refine (forL_step st (s2 := [.im sc, .im (.int u), .mu ((cs ++ [(n.natAbs : Int)]).map T.int), .im (.int n)]) ?_).trans h5
    refine seq_nx (s1 := [.im sc, .im (.int u), .mu (cs.map T.int), .im (.int n)]) (by simp [getV, biF, m1, q1, setTg, isMp]) ?_
    have hlen : (cs.map T.int).length < big := by rw [List.length_map]; have : big = 16777216 := rfl; omega
    rw [List.length_map] at hlen
    by_cases hn : 0 ≤ n
    · have e : (n.natAbs : Int) = n := by omega
      simp [ownAt, Sl.own, getV, hn, biF, hlen, putOwn, e]
    · have e : (n.natAbs : Int) = -n := by omega
      simp [ownAt, Sl.own, getV, hn, biF, hlen, putOwn, e]
theorem w_Lhand (ns : List Int) (hl : ns.length ≤ 63) : ∃ h, HandOk h ∧ f_Lhand.sem [.scr (ns.map T.int)] = .ok (.lst h) [] := by
  obtain ⟨cs, t, b', h1, h2, h3, h4, h5⟩ := hand_loop (.scr (ns.map T.int)) ns [] (ns.length + 31) .un rfl (by simp; omega) (by simp) (by omega) (by omega)
  refine ⟨[.lst (cs.map T.int), .int 0, .int 0, .int t], ⟨cs, 0, 0, t, rfl, by simp at h1; omega, h2, by decide, by omega, by decide, h3, h4⟩, ?_⟩
  have hb : evSs ir_Lhand [.im (.scr (ns.map T.int)), .un, .un, .un] = .retF [.lst (cs.map T.int), .int 0, .int 0, .int t] [.im (.scr (ns.map T.int)), .im (.int t), .im (.lst (cs.map T.int)), b'] := by
    refine seq_nx (s1 := [.im (.scr (ns.map T.int)), .im (.int (ns.length + 31)), .un, .un]) (by simp [getV, biF, setTg, isMp]) ?_
    refine seq_nx (s1 := [.im (.scr (ns.map T.int)), .im (.int (ns.length + 31)), .mu [], .un]) (by rfl) ?_
    refine seq_nx (s1 := [.im (.scr (ns.map T.int)), .im (.int t), .mu (cs.map T.int), b']) (by rw [s_for_]; simp only [i_seq_, e_var, getV, List.getElem?_cons_zero, bind_ok, kSeq_scr, so_ok, kFor_]; exact h5) ?_
    simp [getV, kDisp]
    rfl
  exact sem_retF (s0 := [.im (.scr (ns.map T.int))]) rfl rfl hb rfl
end KS

namespace KS
open PySem FL
/-! ## checks, refusals -/
theorem call_vd {g : FS} (hm : g.mu = none) {ts ds : List T} {avs : List AV} (e : avs = ts.map .v) {t : T} {o : List T} (h : g.sem (ts ++ ds) = .ok t o) (s : Sls) : after g avs ds s false = .ok t s := by
  subst e
  rw [after_v g hm, h]
theorem call_ex {g : FS} (hm : g.mu = none) {ts : List T} {avs : List AV} (e : avs = ts.map .v) {c : Str} {ns : List Str} {es o : List T} (h : g.sem ts = .ex c ns es o) (s : Sls) : after g avs [] s false = .ex c ns es s := by
  subst e
  rw [after_v g hm, List.append_nil, h]
@[simp] theorem cop_isN (x : T) : cop .isN x .non = some (.bl (match x with | .non => true | _ => false)) := rfl
@[simp] theorem cop_notN (x : T) : cop .notN x .non = some (.bl (match x with | .non => false | _ => true)) := rfl
theorem isw_int (n : Int) : f_is_whole.sem [.int n, .non, .non] = .ok (.bl true) [] := by
  simp [f_is_whole, mkFS, mkSem, startS, getV, outS, isTy]
theorem isw_low (n l : Int) : f_is_whole.sem [.int n, .int l, .non] = .ok (.bl (decide (l ≤ n))) [] := by
  by_cases h : n < l
  · have : ¬ l ≤ n := by omega
    simp [f_is_whole, mkFS, mkSem, startS, getV, outS, isTy, h, this]
  · have : l ≤ n := by omega
    simp [f_is_whole, mkFS, mkSem, startS, getV, outS, isTy, h, this]
theorem isw_high (n u : Int) : f_is_whole.sem [.int n, .non, .int u] = .ok (.bl (decide (n ≤ u))) [] := by
  simp [f_is_whole, mkFS, mkSem, startS, getV, outS, isTy]
theorem isw_both (n l u : Int) : f_is_whole.sem [.int n, .int l, .int u] = .ok (.bl (decide (l ≤ n) && decide (n ≤ u))) [] := by
  by_cases h : n < l
  · have : ¬ l ≤ n := by omega
    simp [f_is_whole, mkFS, mkSem, startS, getV, outS, isTy, h, this]
  · have : l ≤ n := by omega
    simp [f_is_whole, mkFS, mkSem, startS, getV, outS, isTy, h, this]
theorem isw_bl (b : Bool) (l u : T) : f_is_whole.sem [.bl b, l, u] = .ok (.bl false) [] := by
  simp [f_is_whole, mkFS, mkSem, startS, getV, outS, isTy]
theorem isw_tup (b : List T) (l u : T) : f_is_whole.sem [.tup b, l, u] = .ok (.bl false) [] := by
  simp [f_is_whole, mkFS, mkSem, startS, getV, outS, isTy]
theorem isw_str (b : Str) (l u : T) : f_is_whole.sem [.str b, l, u] = .ok (.bl false) [] := by
  simp [f_is_whole, mkFS, mkSem, startS, getV, outS, isTy]
theorem isw_non (l u : T) : f_is_whole.sem [.non, l, u] = .ok (.bl false) [] := by
  simp [f_is_whole, mkFS, mkSem, startS, getV, outS, isTy]
theorem fr_w : f_is_whole.fresh = false := rfl
theorem w_is_ratio (a b : Int) : f_is_ratio.sem [qt a b] = .ok (.bl (decide (0 < b) && decide (Nat.gcd a.natAbs b.natAbs = 1))) [] := by
  have c1 := call_vd (g := f_is_whole) (ts := [.int a]) (ds := [.non, .non]) (avs := [.v (.int a)]) rfl rfl (isw_int a)
  have c2 := call_vd (g := f_is_whole) (ts := [.int b, .int 1]) (ds := [.non]) (avs := [.v (.int b), .v (.int 1)]) rfl rfl (isw_low b 1)
  by_cases h : 0 < b
  · have h1 : (1 : Int) ≤ b := by omega
    have hg : ((Nat.gcd a.natAbs b.natAbs : Nat) : Int) == 1 ↔ Nat.gcd a.natAbs b.natAbs = 1 := by
      rw [beq_iff_eq]; omega
    have hg' : (((Nat.gcd a.natAbs b.natAbs : Nat) : Int) == 1) = decide (Nat.gcd a.natAbs b.natAbs = 1) := by
      by_cases z : Nat.gcd a.natAbs b.natAbs = 1
      · rw [decide_eq_true z]; exact hg.mpr z
      · rw [decide_eq_false z]
        cases q : (((Nat.gcd a.natAbs b.natAbs : Nat) : Int) == 1) with
        | false => rfl
        | true => exact (z (hg.mp q)).elim
    simp [f_is_ratio, mkFS, mkSem, startS, getV, outS, isTy, biF, c1, c2, fr_w, h1, h, hg']
  · have h1 : ¬ (1 : Int) ≤ b := by omega
    simp [f_is_ratio, mkFS, mkSem, startS, getV, outS, isTy, biF, c1, c2, fr_w, h1, h]
theorem sel1 (w : T) : selV [(("what" : Str), 0)] [w] = some [w] := rfl
theorem mk_ok (a b : Int) (h : b ≠ 0) (hl : b.natAbs < 2 ^ 9000) : f_make_ratio.sem [.int a, .int b] = .ok (nm a b) [] := by
  have c1 := call_vd (g := f_is_whole) (ts := [.int a]) (ds := [.non, .non]) (avs := [.v (.int a)]) rfl rfl (isw_int a)
  have c2 := call_vd (g := f_is_whole) (ts := [.int b]) (ds := [.non, .non]) (avs := [.v (.int b)]) rfl rfl (isw_int b)
  have c3 := call_v (avs := [.v (.int a), .v (.int b)]) rfl rfl (w_in_lowest a b h hl)
  simp [f_make_ratio, mkFS, mkSem, startS, getV, outS, c1, c2, c3, fr_w, h, show f_in_lowest.fresh = false from rfl]
theorem mk_zero (a : Int) : f_make_ratio.sem [.int a, .int 0] = .ex "BadRatio" ["what"] [.str "bottom"] [] := by
  have c1 := call_vd (g := f_is_whole) (ts := [.int a]) (ds := [.non, .non]) (avs := [.v (.int a)]) rfl rfl (isw_int a)
  have c2 := call_vd (g := f_is_whole) (ts := [.int 0]) (ds := [.non, .non]) (avs := [.v (.int 0)]) rfl rfl (isw_int 0)
  simp [f_make_ratio, mkFS, mkSem, startS, getV, outS, c1, c2, fr_w, sel1]
abbrev refused (w : Str) : T := .lst [.str "refused", .str w]
/-- try: found = .. except BadRatio as wrong: return ["refused", wrong.what]; return found -/
abbrev tryIr (j : Nat) (ce : E) : List S := [.tryS [.asg (.nm j) ce] [("BadRatio" : Str)] [] (some (j + 1)) [.ret (.frz (.disp (.cons (.cst (.str ("refused" : Str))) (.cons (.exf (j + 1) ("what" : Str) [("BadRatio" : Str)]) (.nil)))))],
    .ret (.var j)]
theorem try2_ok {ce : E} {a b t : T} (h : evE ce [.im a, .im b, .un, .un] = .ok t [.im a, .im b, .un, .un]) : evSs (tryIr 2 ce) [.im a, .im b, .un, .un] = .ret t [.im a, .im b, .im t, .un] := by
  simp [h, setTg, isMp, getV]
theorem try2_ex {ce : E} {a b : T} {w : Str} (h : evE ce [.im a, .im b, .un, .un] = .ex "BadRatio" ["what"] [.str w] [.im a, .im b, .un, .un]) : evSs (tryIr 2 ce) [.im a, .im b, .un, .un] = .ret (refused w) [.im a, .im b, .un, .un] := by
  simp [h, setTg, isMp, getV, e_exf, fldT, kDisp, noXc, big]
theorem try1_ok {ce : E} {a t : T} (h : evE ce [.im a, .un, .un] = .ok t [.im a, .un, .un]) : evSs (tryIr 1 ce) [.im a, .un, .un] = .ret t [.im a, .im t, .un] := by
  simp [h, setTg, isMp, getV]
theorem try1_ex {ce : E} {a : T} {w : Str} (h : evE ce [.im a, .un, .un] = .ex "BadRatio" ["what"] [.str w] [.im a, .un, .un]) : evSs (tryIr 1 ce) [.im a, .un, .un] = .ret (refused w) [.im a, .un, .un] := by
  simp [h, setTg, isMp, getV, e_exf, fldT, kDisp, noXc, big]
theorem made_ok (a b : Int) (h : b ≠ 0) (hl : b.natAbs < 2 ^ 9000) : f_Lmade_ratio.sem [.int a, .int b] = .ok (nm a b) [] :=
  sem_ret (s0 := [.im (.int a), .im (.int b)]) rfl rfl (try2_ok (by
    have c := call_v (avs := [.v (.int a), .v (.int b)]) rfl rfl (mk_ok a b h hl)
    simp [getV, c, show f_make_ratio.fresh = false from rfl])) rfl
theorem made_zero (a : Int) : f_Lmade_ratio.sem [.int a, .int 0] = .ok (refused "bottom") [] :=
  sem_ret (s0 := [.im (.int a), .im (.int 0)]) rfl rfl (try2_ex (by
    have c := call_ex (avs := [.v (.int a), .v (.int 0)]) rfl rfl (mk_zero a)
    simp [getV, c, show f_make_ratio.fresh = false from rfl])) rfl
variable {p r : Int × Int}
theorem over_ok (hp : Rt 2900 p) (hr : Rt 2900 r) (h : r.1 ≠ 0) : f_over.sem [tq p, tq r] = .ok (tq (nmP (p.1 * r.2) (p.2 * r.1))) [] := by
  have m1 := b_mul p.1 r.2 (hp.n.mulOk hr.d (by decide))
  have m3 := b_mul p.2 r.1 (hp.d.mulOk hr.n (by decide))
  have hc := call_v (avs := [.v (.int (p.1 * r.2)), .v (.int (p.2 * r.1))]) rfl rfl (w_in_lowest (p.1 * r.2) (p.2 * r.1) (Int.mul_ne_zero hp.ne h) (((hp.d.mul hr.n)).up (l := 9000) (by decide)))
  simp [f_over, mkFS, mkSem, startS, getV, outS, m1, m3, hc, h, show f_in_lowest.fresh = false from rfl, nm_tq]
theorem over_zero (h : r.1 = 0) : f_over.sem [tq p, tq r] = .ex "BadRatio" ["what"] [.str "zero"] [] := by
  simp [f_over, mkFS, mkSem, startS, getV, outS, h, sel1]
theorem div_ok (hp : Rt 2900 p) (hr : Rt 2900 r) (h : r.1 ≠ 0) : f_Ldivided.sem [tq p, tq r] = .ok (tq (nmP (p.1 * r.2) (p.2 * r.1))) [] :=
  sem_ret (s0 := [.im (tq p), .im (tq r)]) rfl rfl (try2_ok (by
    have c := call_v (avs := [.v (tq p), .v (tq r)]) rfl rfl (over_ok hp hr h)
    simp [getV, c, show f_over.fresh = false from rfl])) rfl
theorem div_zero (h : r.1 = 0) : f_Ldivided.sem [tq p, tq r] = .ok (refused "zero") [] :=
  sem_ret (s0 := [.im (tq p), .im (tq r)]) rfl rfl (try2_ex (by
    have c := call_ex (avs := [.v (tq p), .v (tq r)]) rfl rfl (over_zero (p := p) h)
    simp [getV, c, show f_over.fresh = false from rfl])) rfl
theorem eq_qt (a b c d : Int) : cop .eq (qt a b) (qt c d) = some (.bl (a == c && b == d)) := by
  simp [cop, dat, dats, eqT, eqTs]
theorem w_Lplain (p r : Int × Int) : f_Lplain.sem [tq p, tq r] = .ok (.bl (decide (p = r))) [] := by
  have e := eq_qt p.1 p.2 r.1 r.2
  by_cases h : p = r
  · subst h
    simp [f_Lplain, mkFS, mkSem, startS, getV, outS, isTy, e]
  · have h' : (p.1 == r.1 && p.2 == r.2) = false := by
      cases q : (p.1 == r.1 && p.2 == r.2) with
      | false => rfl
      | true =>
        simp at q
        exact (h (Prod.ext q.1 q.2)).elim
    rw [h'] at e
    simp [f_Lplain, mkFS, mkSem, startS, getV, outS, isTy, e, h]
end KS

namespace KS
open PySem FL
/-! ## rows -/
def addP (p r : Int × Int) : Int × Int := nmP (p.1 * r.2 + r.1 * p.2) (p.2 * r.2)
theorem addP_rt {k : Nat} {p r : Int × Int} (hp : Rt k p) (hr : Rt 320 r) : Rt (k + 321) (addP p r) := by
  refine Rt.nm ?_ ?_ (Int.mul_ne_zero hp.ne hr.ne)
  · have h1 := hp.n.mul hr.d
    have h2 : Bd (k + 320) (r.1 * p.2) := by have := hr.n.mul hp.d; rw [Nat.add_comm]; exact this
    exact h1.add h2
  · exact (hp.d.mul hr.d).up (by omega)
theorem sum_loop (T0 : T) : ∀ (ps : List (Int × Int)) (p : Int × Int) (b : Sl) (k : Nat), isMp [.im T0, .im (tq p), b] 2 = false → (∀ r ∈ ps, Rt 320 r) → Rt k p → k + 321 * ps.length ≤ 2900 → ∃ b', 
    forL (.nm 2) (evSs [.asg (.nm 1) (.call f_plus (.e (.var 1) (.e (.var 2) (.nil))) [])]) (ps.map tq) [.im T0, .im (tq p), b] = .nx [.im T0, .im (tq (ps.foldl addP p)), b'] := by
  intro ps
  induction ps with
  | nil => intro p b k hb _ _ _; exact ⟨b, forL_nil⟩
  | cons r ps ih =>
    intro p b k hb hr hp hk
    rw [List.length_cons] at hk
    have hr0 := hr r (by simp)
    obtain ⟨b', h⟩ := ih (addP p r) (.im (tq r)) (k + 321) rfl (fun x m => hr x (List.mem_cons_of_mem _ m)) (addP_rt hp hr0) (by omega)
    refine ⟨b', ?_⟩
    rw [List.map_cons]
    have st : setTg (.nm 2) (tq r) [.im T0, .im (tq p), b] = some [.im T0, .im (tq p), .im (tq r)] := by
      simp only [setTg, hb, Bool.false_eq_true, if_false]
      rfl
    have c := call_v (avs := [.v (tq p), .v (tq r)]) rfl rfl (w_plus (hp.up (by omega)) (hr0.up (by decide)))
    refine (forL_step st (s2 := [.im T0, .im (tq (addP p r)), .im (tq r)]) ?_).trans h
    simp [getV, c, show f_plus.fresh = false from rfl, setTg, isMp]
    exact ⟨rfl, rfl⟩
theorem w_sum_of (t : T) (ps : List (Int × Int)) (ht : ∀ s, kSeq t s = .ok (ps.map tq) s) (hr : ∀ r ∈ ps, Rt 320 r) (hl : ps.length ≤ 8) : f_sum_of.sem [t] = .ok (tq (ps.foldl addP (0, 1))) [] := by
  obtain ⟨b', h⟩ := sum_loop t ps (0, 1) .un 2 rfl hr ⟨by unfold Bd; decide, by unfold Bd; decide, by decide⟩ (by omega)
  refine sem_ret (s0 := [.im t]) (s1 := [.im t, .im (tq (ps.foldl addP (0, 1))), b']) rfl rfl ?_ rfl
  show evSs ir_sum_of [.im t, .un, .un] = _
  refine seq_nx (s1 := [.im t, .im (tq (0, 1)), .un]) (by simp [setTg, isMp]) ?_
  refine seq_nx (s1 := [.im t, .im (tq (ps.foldl addP (0, 1))), b']) ?_ ?_
  · rw [s_for_]
    simp only [i_seq_, e_var, getV, List.getElem?_cons_zero, bind_ok, ht, so_ok, kFor_]
    exact h
  · exact seq_ret (by simp [getV])
/-- p stands ahead of r -/
def Lt (p r : Int × Int) : Prop := p.1 * r.2 < r.1 * p.2
theorem Lt.trans {p q r : Int × Int} (hp : 0 < p.2) (hq : 0 < q.2) (hr : 0 < r.2) (h1 : Lt p q) (h2 : Lt q r) : Lt p r := by
  unfold Lt at *
  have a1 := Int.mul_lt_mul_of_pos_right h1 hr
  have a2 := Int.mul_lt_mul_of_pos_right h2 hp
  have e : p.1 * r.2 * q.2 < r.1 * p.2 * q.2 := by
    have e1 : p.1 * q.2 * r.2 = p.1 * r.2 * q.2 := by rw [Int.mul_assoc, Int.mul_comm q.2, ← Int.mul_assoc]
    have e2 : q.1 * p.2 * r.2 = q.1 * r.2 * p.2 := by rw [Int.mul_assoc, Int.mul_comm p.2, ← Int.mul_assoc]
    have e3 : r.1 * q.2 * p.2 = r.1 * p.2 * q.2 := by rw [Int.mul_assoc, Int.mul_comm q.2, ← Int.mul_assoc]
    omega
  exact Int.lt_of_mul_lt_mul_right e (by omega)
theorem cmp_neg {p r : Int × Int} : cmpP p r < 0 ↔ Lt p r := by
  unfold cmpP Lt
  split
  · rename_i h; exact ⟨fun _ => h, fun _ => by decide⟩
  · rename_i h
    refine ⟨fun z => ?_, fun z => (h z).elim⟩
    split at z <;> omega
theorem cmp_pos {p r : Int × Int} : 0 < cmpP p r ↔ Lt r p := by
  unfold cmpP Lt
  split
  · rename_i h; exact ⟨fun z => by omega, fun z => by omega⟩
  · split
    · rename_i h; exact ⟨fun _ => h, fun _ => by decide⟩
    · rename_i h; exact ⟨fun z => by omega, fun z => (h z).elim⟩
/-- the best of a row, by a test -/
theorem best_loop (T0 : T) (op : Cop) (bt : Int × Int → Int × Int → Prop) [∀ x y, Decidable (bt x y)] (hop : ∀ x y s, isB (cop op (.int (cmpP x y)) (.int 0)) s = .ok (decide (bt x y)) s) : ∀ (ps : List (Int × Int)) (p : Int × Int) (b : Sl), isMp [.im T0, .im (tq p), b] 2 = false → (∀ r ∈ ps, Rt 2900 r) → Rt 2900 p → ∃ b',
    forL (.nm 2) (evSs [.ifS (.cmp op (.call f_compare (.e (.var 2) (.e (.var 1) (.nil))) []) (.cst (.int 0))) [.asg (.nm 1) (.var 2)] []]) (ps.map tq) [.im T0, .im (tq p), b] = .nx [.im T0, .im (tq (ps.foldl (fun best x => if bt x best then x else best) p)), b'] := by
  intro ps
  induction ps with
  | nil => intro p b hb _ _; exact ⟨b, forL_nil⟩
  | cons r ps ih =>
    intro p b hb hr hp
    have hr0 := hr r (by simp)
    have st : setTg (.nm 2) (tq r) [.im T0, .im (tq p), b] = some [.im T0, .im (tq p), .im (tq r)] := by
      simp only [setTg, hb, Bool.false_eq_true, if_false]
      rfl
    have c := call_v (avs := [.v (tq r), .v (tq p)]) rfl rfl (w_compare hr0 hp)
    obtain ⟨b', h⟩ := ih (if bt r p then r else p) (.im (tq r)) rfl (fun x m => hr x (List.mem_cons_of_mem _ m)) (by split <;> assumption)
    refine ⟨b', ?_⟩
    rw [List.map_cons, List.foldl_cons]
    refine (forL_step st (s2 := [.im T0, .im (tq (if bt r p then r else p)), .im (tq r)]) ?_).trans h
    have hc : evC (.cmp op (.call f_compare (.e (.var 2) (.e (.var 1) (.nil))) []) (.cst (.int 0))) [.im T0, .im (tq p), .im (tq r)] = .ok (decide (bt r p)) [.im T0, .im (tq p), .im (tq r)] := by
      simp only [c_cmp, e_call, show f_compare.fresh = false from rfl, Bool.false_eq_true, if_false, as_e, as_nil, e_var, getV, List.getElem?_cons_succ, List.getElem?_cons_zero, bind_ok, kAs_, kAs2_, kCall_, c, kCC_, e_cst, kCC2_, hop]
    refine seq_nx (s1 := [.im T0, .im (tq (if bt r p then r else p)), .im (tq r)]) ?_ (ss_nil_ _)
    rw [s_if_, hc, so_ok, kIf_]
    by_cases hb2 : bt r p
    · simp [hb2, getV, setTg, isMp]
    · simp [hb2]
theorem best_at {t : T} {ps : List (Int × Int)} {p : Int × Int} (op : Cop) (bt : Int × Int → Int × Int → Prop) [∀ x y, Decidable (bt x y)] (hop : ∀ x y s, isB (cop op (.int (cmpP x y)) (.int 0)) s = .ok (decide (bt x y)) s) (name : Str)
    (ht : ∀ s, kSeq t s = .ok ((p :: ps).map tq) s) (hi : idxT t (.int 0) = some (tq p)) (hr : ∀ r ∈ p :: ps, Rt 2900 r) :
    (mkFS name 1 2 none false [.asg (.nm 1) (.idx (.var 0) (.cst (.int 0))), .forS (.nm 2) (.seq (.var 0)) [.ifS (.cmp op (.call f_compare (.e (.var 2) (.e (.var 1) (.nil))) []) (.cst (.int 0))) [.asg (.nm 1) (.var 2)] []], .ret (.var 1)]).sem [t] = .ok (tq ((p :: ps).foldl (fun best x => if bt x best then x else best) p)) [] := by
  obtain ⟨b', h⟩ := best_loop t op bt hop (p :: ps) p .un rfl hr (hr p (by simp))
  refine sem_ret (s0 := [.im t]) (s1 := [.im t, .im (tq ((p :: ps).foldl (fun best x => if bt x best then x else best) p)), b']) rfl rfl ?_ rfl
  refine seq_nx (s1 := [.im t, .im (tq p), .un]) (by simp [getV, hi, setTg, isMp]) ?_
  refine seq_nx (s1 := [.im t, .im (tq ((p :: ps).foldl (fun best x => if bt x best then x else best) p)), b']) ?_ ?_
  · rw [s_for_]
    simp only [i_seq_, e_var, getV, List.getElem?_cons_succ, List.getElem?_cons_zero, bind_ok, ht, so_ok, kFor_]
    exact h
  · exact seq_ret (by simp [getV])
instance (x y : Int × Int) : Decidable (Lt x y) := inferInstanceAs (Decidable (_ < _))
/-- what the loop leaves is in the row, and nothing is before it -/
theorem fold_best (bt : Int × Int → Int × Int → Prop) [∀ x y, Decidable (bt x y)] (tr : ∀ x y z, 0 < x.2 → 0 < y.2 → 0 < z.2 → bt x y → bt y z → bt x z) (ir : ∀ x, ¬ bt x x) : ∀ (ps : List (Int × Int)) (p : Int × Int) (seen : List (Int × Int)), (∀ r ∈ p :: (seen ++ ps), 0 < r.2) → p ∈ seen → (∀ r ∈ seen, ¬ bt r p) →
    ps.foldl (fun best x => if bt x best then x else best) p ∈ seen ++ ps ∧ ∀ r ∈ seen ++ ps, ¬ bt r (ps.foldl (fun best x => if bt x best then x else best) p) := by
  intro ps
  induction ps with
  | nil => intro p seen _ hm hb; rw [List.append_nil]; exact ⟨hm, hb⟩
  | cons x ps ih =>
    intro p seen hp hm hb
    rw [List.foldl_cons, show seen ++ x :: ps = (seen ++ [x]) ++ ps by simp]
    have px : 0 < x.2 := hp x (by simp)
    by_cases h : bt x p
    · rw [if_pos h]
      refine ih x (seen ++ [x]) (fun r hr => hp r (by simp at hr ⊢; rcases hr with rfl | hr | rfl | hr <;> simp [*])) (by simp) (fun r hr => ?_)
      rcases List.mem_append.mp hr with hr | hr
      · exact fun z => hb r hr (tr r x p (hp r (by simp [hr])) px (hp p (by simp)) z h)
      · simp at hr; subst hr; exact ir _
    · rw [if_neg h]
      refine ih p (seen ++ [x]) (fun r hr => hp r (by simp at hr ⊢; rcases hr with rfl | hr | rfl | hr <;> simp [*])) (by simp [hm]) (fun r hr => ?_)
      rcases List.mem_append.mp hr with hr | hr
      · exact hb r hr
      · simp at hr; subst hr; exact h
theorem mem2 {α : Type} {x p : α} {ps : List α} (h : x ∈ [p] ++ p :: ps) : x ∈ p :: ps := by
  rcases List.mem_append.mp h with h | h
  · rw [List.mem_singleton.mp h]; exact List.mem_cons_self ..
  · exact h
theorem mem3 {α : Type} {x p : α} {ps : List α} (h : x ∈ p :: ([p] ++ p :: ps)) : x ∈ p :: ps := by
  rcases List.mem_cons.mp h with h | h
  · rw [h]; exact List.mem_cons_self ..
  · exact mem2 h
theorem w_least {t : T} {ps : List (Int × Int)} {p : Int × Int} (ht : ∀ s, kSeq t s = .ok ((p :: ps).map tq) s) (hi : idxT t (.int 0) = some (tq p)) (hr : ∀ r ∈ p :: ps, Rt 2900 r ∧ 0 < r.2) :
    ∃ b, b ∈ p :: ps ∧ (∀ r ∈ p :: ps, ¬ Lt r b) ∧ f_least_of.sem [t] = .ok (tq b) [] := by
  have hs := best_at (t := t) (ps := ps) (p := p) .lt Lt (fun x y s => by
    simp only [c_lt, isB_some]
    have := @cmp_neg x y
    by_cases h : Lt x y
    · rw [decide_eq_true h, decide_eq_true (this.mpr h)]
    · rw [decide_eq_false h, decide_eq_false (fun z => h (this.mp z))]) ("least_of" : Str) ht hi (fun r m => (hr r m).1)
  have ir : ∀ x, ¬ Lt x x := fun x h => by unfold Lt at h; omega
  have hf := fold_best Lt (fun x y z a b c h1 h2 => Lt.trans a b c h1 h2) ir (p :: ps) p [p] (fun r m => (hr r (mem3 m)).2) (by simp) (fun r m => by simp at m; subst m; exact ir _)
  exact ⟨_, mem2 hf.1, fun r m => hf.2 r (List.mem_append_right _ m), hs⟩
theorem w_greatest {t : T} {ps : List (Int × Int)} {p : Int × Int} (ht : ∀ s, kSeq t s = .ok ((p :: ps).map tq) s) (hi : idxT t (.int 0) = some (tq p)) (hr : ∀ r ∈ p :: ps, Rt 2900 r ∧ 0 < r.2) :
    ∃ b, b ∈ p :: ps ∧ (∀ r ∈ p :: ps, ¬ Lt b r) ∧ f_greatest_of.sem [t] = .ok (tq b) [] := by
  have hs := best_at (t := t) (ps := ps) (p := p) .gt (fun x y => Lt y x) (fun x y s => by
    simp only [c_gt, isB_some]
    have := @cmp_pos x y
    by_cases h : Lt y x
    · rw [decide_eq_true h, decide_eq_true (this.mpr h)]
    · rw [decide_eq_false h, decide_eq_false (fun z => h (this.mp z))]) ("greatest_of" : Str) ht hi (fun r m => (hr r m).1)
  have ir : ∀ x, ¬ Lt x x := fun x h => by unfold Lt at h; omega
  have hf := fold_best (fun x y => Lt y x) (fun x y z a b c h1 h2 => Lt.trans c b a h2 h1) ir (p :: ps) p [p] (fun r m => (hr r (mem3 m)).2) (by simp) (fun r m => by simp at m; subst m; exact ir _)
  exact ⟨_, mem2 hf.1, fun r m => hf.2 r (List.mem_append_right _ m), hs⟩
end KS

namespace KS
open PySem FL
/-! ## kinds of things -/
theorem isr_tup {ts : List T} (h : ts.length ≠ 2) : f_is_ratio.sem [.tup ts] = .ok (.bl false) [] := by
  have hl : ((ts.length : Int) == 2) = false := by
    cases q : ((ts.length : Int) == 2) with
    | false => rfl
    | true => exact (h (by have := beq_iff_eq.mp q; omega)).elim
  simp [f_is_ratio, mkFS, mkSem, startS, getV, outS, isTy, biF, hl]
theorem isr_lst (ts : List T) : f_is_ratio.sem [.lst ts] = .ok (.bl false) [] := by
  simp [f_is_ratio, mkFS, mkSem, startS, getV, outS, isTy, biF]
theorem isr_int (i : Int) : f_is_ratio.sem [.int i] = .ok (.bl false) [] := by
  simp [f_is_ratio, mkFS, mkSem, startS, getV, outS, isTy, biF]
theorem isr_non : f_is_ratio.sem [.non] = .ok (.bl false) [] := by
  simp [f_is_ratio, mkFS, mkSem, startS, getV, outS, isTy, biF]
theorem isr_str (z : Str) : f_is_ratio.sem [.str z] = .ok (.bl false) [] := by
  simp [f_is_ratio, mkFS, mkSem, startS, getV, outS, isTy, biF]
theorem isr_b1 (b : Bool) (t : T) : f_is_ratio.sem [.tup [.bl b, t]] = .ok (.bl false) [] := by
  have c1 := call_vd (g := f_is_whole) (ts := [.bl b]) (ds := [.non, .non]) (avs := [.v (.bl b)]) rfl rfl (isw_bl b _ _)
  simp [f_is_ratio, mkFS, mkSem, startS, getV, outS, isTy, biF, c1, fr_w]
theorem isr_b2 (b : Bool) (i : Int) : f_is_ratio.sem [.tup [.int i, .bl b]] = .ok (.bl false) [] := by
  have c1 := call_vd (g := f_is_whole) (ts := [.int i]) (ds := [.non, .non]) (avs := [.v (.int i)]) rfl rfl (isw_int i)
  have c2 := call_vd (g := f_is_whole) (ts := [.bl b, .int 1]) (ds := [.non]) (avs := [.v (.bl b), .v (.int 1)]) rfl rfl (isw_bl b _ _)
  simp [f_is_ratio, mkFS, mkSem, startS, getV, outS, isTy, biF, c1, c2, fr_w]
@[simp] theorem cop_notB (a b : Bool) : cop .notB (.bl a) (.bl b) = some (.bl (!decide (a = b))) := rfl
@[simp] theorem cop_isB (a b : Bool) : cop .isB (.bl a) (.bl b) = some (.bl (decide (a = b))) := rfl
theorem kinds_loop (w : Bool) (a b c d e : Sl) : ∀ (xs : List T) (x : Sl), isMp [a, b, c, d, x, e] 4 = false → (∀ t ∈ xs, f_is_ratio.sem [t] = .ok (.bl w) []) → ∃ x',
    forL (.nm 4) (evSs [.ifS (.cmp .notB (.call f_is_ratio (.e (.var 4) (.nil)) []) (.cst (.bl w))) [.ret (.cst (.bl false))] []]) xs [a, b, c, d, x, e] = .nx [a, b, c, d, x', e] ∧ isMp [a, b, c, d, x', e] 4 = false := by
  intro xs
  induction xs with
  | nil => intro x hx _; exact ⟨x, forL_nil, hx⟩
  | cons t xs ih =>
    intro x hx h
    have cc := call_v (g := f_is_ratio) (avs := [.v t]) rfl rfl (h t (by simp))
    have st : setTg (.nm 4) t [a, b, c, d, x, e] = some [a, b, c, d, .im t, e] := by
      simp only [setTg, hx, Bool.false_eq_true, if_false]
      rfl
    obtain ⟨x', h1, h2⟩ := ih (.im t) rfl (fun u m => h u (List.mem_cons_of_mem _ m))
    refine ⟨x', (forL_step st (s2 := [a, b, c, d, .im t, e]) ?_).trans h1, h2⟩
    simp [getV, cc, show f_is_ratio.fresh = false from rfl]
theorem gcd2 {a b : Int} : Nat.gcd (a * 2).natAbs (b * 2).natAbs ≠ 1 := by
  intro h
  rw [Int.natAbs_mul, Int.natAbs_mul, Nat.gcd_mul_right, show (2 : Int).natAbs = 2 from rfl] at h
  omega
theorem eqT4 (a b c d : Bool) : cop .eq (.lst [.bl a, .bl b, .bl c, .bl d]) (.lst [.bl true, .bl false, .bl true, .bl false]) = some (.bl (eqTs [.bl a, .bl b, .bl c, .bl d] [.bl true, .bl false, .bl true, .bl false])) := by
  simp [cop, dat, dats, eqT]
theorem w_Lkinds {p : Int × Int} (hp : Rt 2900 p) (h0 : 0 < p.2) (hg : Nat.gcd p.1.natAbs p.2.natAbs = 1) (n : Int) : f_Lkinds.sem [tq p, .int n] = .ok (.bl true) [] := by
  have m1 := b_mul p.1 2 (hp.n.mulOk (show Bd 60 2 by unfold Bd; decide) (by decide))
  have m2 := b_mul p.2 2 (hp.d.mulOk (show Bd 60 2 by unfold Bd; decide) (by decide))
  have good : ∀ t ∈ [tq p, qt n 1, qt 0 1, qt (-1) 2], f_is_ratio.sem [t] = .ok (.bl true) [] := by
    intro t ht
    simp only [List.mem_cons, List.not_mem_nil, or_false] at ht
    rcases ht with rfl | rfl | rfl | rfl
    · rw [w_is_ratio, decide_eq_true h0, decide_eq_true hg]; rfl
    · rw [w_is_ratio, decide_eq_true (show Nat.gcd n.natAbs (1 : Int).natAbs = 1 from Nat.gcd_one_right _)]; rfl
    · rw [w_is_ratio]; rfl
    · rw [w_is_ratio]; rfl
  have badl : ∀ t ∈ [qt (p.1 * 2) (p.2 * 2), .lst [.int p.1, .int p.2], qt p.1 (-p.2), qt p.1 0, .tup [.bl true, .int 1], .tup [.int n, .bl true], .int n, .non, .tup [.int p.1, .int p.2, .int 1], .str ("1/2" : Str), qt 0 2, .tup [], qt 3 3], f_is_ratio.sem [t] = .ok (.bl false) [] := by
    intro t ht
    simp only [List.mem_cons, List.not_mem_nil, or_false] at ht
    rcases ht with rfl | rfl | rfl | rfl | rfl | rfl | rfl | rfl | rfl | rfl | rfl | rfl | rfl
    · rw [w_is_ratio, decide_eq_false gcd2, Bool.and_false]
    · exact isr_lst _
    · rw [w_is_ratio, decide_eq_false (show ¬ 0 < -p.2 by omega), Bool.false_and]
    · rw [w_is_ratio]; rfl
    · exact isr_b1 _ _
    · exact isr_b2 _ _
    · exact isr_int _
    · exact isr_non
    · exact isr_tup (by simp)
    · exact isr_str _
    · rw [w_is_ratio]; rfl
    · exact isr_tup (by simp)
    · rw [w_is_ratio]; rfl
  obtain ⟨x1, l1, y1⟩ := kinds_loop true (.im (tq p)) (.im (.int n)) (.im (.lst [tq p, qt n 1, qt 0 1, qt (-1) 2])) (.im (.lst [qt (p.1 * 2) (p.2 * 2), .lst [.int p.1, .int p.2], qt p.1 (-p.2), qt p.1 0, .tup [.bl true, .int 1], .tup [.int n, .bl true], .int n, .non, .tup [.int p.1, .int p.2, .int 1], .str ("1/2" : Str), qt 0 2, .tup [], qt 3 3])) .un _ .un rfl good
  obtain ⟨x2, l2, y2⟩ := kinds_loop false (.im (tq p)) (.im (.int n)) (.im (.lst [tq p, qt n 1, qt 0 1, qt (-1) 2])) (.im (.lst [qt (p.1 * 2) (p.2 * 2), .lst [.int p.1, .int p.2], qt p.1 (-p.2), qt p.1 0, .tup [.bl true, .int 1], .tup [.int n, .bl true], .int n, .non, .tup [.int p.1, .int p.2, .int 1], .str ("1/2" : Str), qt 0 2, .tup [], qt 3 3])) .un _ x1 y1 badl
  have c1 := call_vd (g := f_is_whole) (ts := [.int n]) (ds := [.non, .non]) (avs := [.v (.int n)]) rfl rfl (isw_int n)
  have c2 := call_vd (g := f_is_whole) (ts := [.bl true]) (ds := [.non, .non]) (avs := [.v (.bl true)]) rfl rfl (isw_bl true _ _)
  have c3 := call_vd (g := f_is_whole) (ts := [tq p]) (ds := [.non, .non]) (avs := [.v (tq p)]) rfl rfl (isw_tup _ _ _)
  have c4 := call_vd (g := f_is_whole) (ts := [.str ("1" : Str)]) (ds := [.non, .non]) (avs := [.v (.str ("1" : Str))]) rfl rfl (isw_str _ _ _)
  have d1 := call_vd (g := f_is_whole) (ts := [.int n, .int n]) (ds := [.non]) (avs := [.v (.int n), .v (.int n)]) rfl rfl (isw_low n n)
  have d2 := call_vd (g := f_is_whole) (ts := [.int n, .int (n + 1)]) (ds := [.non]) (avs := [.v (.int n), .v (.int (n + 1))]) rfl rfl (isw_low n (n + 1))
  have d3 := call_v (g := f_is_whole) (avs := [.v (.int n), .v (.int (n - 3)), .v (.int n)]) rfl rfl (isw_both n (n - 3) n)
  have d4 := call_v (g := f_is_whole) (avs := [.v (.int n), .v (.int (n - 3)), .v (.int (n - 1))]) rfl rfl (isw_both n (n - 3) (n - 1))
  have d5 := isw_high n n
  have d6 := call_v (g := f_is_whole) (avs := [.v (.bl false), .v (.int 0), .v (.int 1)]) rfl rfl (isw_bl false _ _)
  refine sem_ret (s0 := [.im (tq p), .im (.int n)]) (s1 := [.im (tq p), .im (.int n), .im (.lst [tq p, qt n 1, qt 0 1, qt (-1) 2]), .im (.lst [qt (p.1 * 2) (p.2 * 2), .lst [.int p.1, .int p.2], qt p.1 (-p.2), qt p.1 0, .tup [.bl true, .int 1], .tup [.int n, .bl true], .int n, .non, .tup [.int p.1, .int p.2, .int 1], .str ("1/2" : Str), qt 0 2, .tup [], qt 3 3]), x2, .im (.lst [.bl true, .bl false, .bl true, .bl false])]) rfl rfl ?_ rfl
  show evSs ir_Lkinds [.im (tq p), .im (.int n), .un, .un, .un, .un] = _
  refine seq_nx (s1 := [.im (tq p), .im (.int n), .im (.lst [tq p, qt n 1, qt 0 1, qt (-1) 2]), .un, .un, .un]) (by simp [getV, kDisp, big, setTg, isMp]) ?_
  refine seq_nx (s1 := [.im (tq p), .im (.int n), .im (.lst [tq p, qt n 1, qt 0 1, qt (-1) 2]), .im (.lst [qt (p.1 * 2) (p.2 * 2), .lst [.int p.1, .int p.2], qt p.1 (-p.2), qt p.1 0, .tup [.bl true, .int 1], .tup [.int n, .bl true]]), .un, .un]) (by simp [getV, kDisp, big, setTg, isMp, m1, m2]) ?_
  refine seq_nx (s1 := [.im (tq p), .im (.int n), .im (.lst [tq p, qt n 1, qt 0 1, qt (-1) 2]), .im (.lst [qt (p.1 * 2) (p.2 * 2), .lst [.int p.1, .int p.2], qt p.1 (-p.2), qt p.1 0, .tup [.bl true, .int 1], .tup [.int n, .bl true], .int n, .non, .tup [.int p.1, .int p.2, .int 1], .str ("1/2" : Str), qt 0 2, .tup [], qt 3 3]), .un, .un]) (by simp [getV, kDisp, big, setTg, isMp]) ?_
  refine seq_nx (by rw [s_for_]; simp only [i_seq_, e_var, getV, List.getElem?_cons_succ, List.getElem?_cons_zero, bind_ok, kSeq_lst, so_ok, kFor_]; exact l1) ?_
  refine seq_nx (by rw [s_for_]; simp only [i_seq_, e_var, getV, List.getElem?_cons_succ, List.getElem?_cons_zero, bind_ok, kSeq_lst, so_ok, kFor_]; exact l2) ?_
  refine seq_nx (s1 := [.im (tq p), .im (.int n), .im (.lst [tq p, qt n 1, qt 0 1, qt (-1) 2]), .im (.lst [qt (p.1 * 2) (p.2 * 2), .lst [.int p.1, .int p.2], qt p.1 (-p.2), qt p.1 0, .tup [.bl true, .int 1], .tup [.int n, .bl true], .int n, .non, .tup [.int p.1, .int p.2, .int 1], .str ("1/2" : Str), qt 0 2, .tup [], qt 3 3]), x2, .un]) (by simp [getV, fr_w, c1, c2, c3, c4]) ?_
  refine seq_nx (s1 := [.im (tq p), .im (.int n), .im (.lst [tq p, qt n 1, qt 0 1, qt (-1) 2]), .im (.lst [qt (p.1 * 2) (p.2 * 2), .lst [.int p.1, .int p.2], qt p.1 (-p.2), qt p.1 0, .tup [.bl true, .int 1], .tup [.int n, .bl true], .int n, .non, .tup [.int p.1, .int p.2, .int 1], .str ("1/2" : Str), qt 0 2, .tup [], qt 3 3]), x2, .im (.lst [.bl true, .bl false, .bl true, .bl false])]) (by
      have e1 : ¬ n + 1 ≤ n := by omega
      have e2 : n - 3 ≤ n := by omega
      have e3 : ¬ n ≤ n - 1 := by omega
      simp [getV, fr_w, d1, d2, d3, d4, kDisp, big, setTg, isMp, e1, e2, e3]) ?_
  refine seq_ret ?_
  have ck : evE (.callK f_is_whole (.cons (.var 1) (.nil)) (.cons (.var 1) (.nil)) [.p 0, .d (.non), .k 0]) [.im (tq p), .im (.int n), .im (.lst [tq p, qt n 1, qt 0 1, qt (-1) 2]), .im (.lst [qt (p.1 * 2) (p.2 * 2), .lst [.int p.1, .int p.2], qt p.1 (-p.2), qt p.1 0, .tup [.bl true, .int 1], .tup [.int n, .bl true], .int n, .non, .tup [.int p.1, .int p.2, .int 1], .str ("1/2" : Str), qt 0 2, .tup [], qt 3 3]), x2, .im (.lst [.bl true, .bl false, .bl true, .bl false])] = .ok (.bl true) [.im (tq p), .im (.int n), .im (.lst [tq p, qt n 1, qt 0 1, qt (-1) 2]), .im (.lst [qt (p.1 * 2) (p.2 * 2), .lst [.int p.1, .int p.2], qt p.1 (-p.2), qt p.1 0, .tup [.bl true, .int 1], .tup [.int n, .bl true], .int n, .non, .tup [.int p.1, .int p.2, .int 1], .str ("1/2" : Str), qt 0 2, .tup [], qt 3 3]), x2, .im (.lst [.bl true, .bl false, .bl true, .bl false])] := by
    simp only [evE]
    simp [getV, arr, d5, fr_w, show f_is_whole.mu = none from rfl]
  have e4 := eqT4 true false true false
  simp [ck, getV, kDisp, big, e4, fr_w, d6, eqTs, eqT]
end KS

namespace KS
open PySem FL
/-! ## tuples of whole numbers -/
def rt (n : Nat) : List T → FR := recSem 1 1 none false ir_Ltuples n
theorem rt_s (n : Nat) : rt (n + 1) = (mkFS "" 1 1 none false (ir_Ltuples (rt n))).sem := by
  simp only [rt, recSem, mkFS]
theorem rt_int (n : Nat) (i : Int) : rt (n + 1) [.int i] = .ok (.bl true) [] := by
  rw [rt_s]
  simp [mkFS, mkSem, startS, getV, outS, isTy, ir_Ltuples]
theorem rt_tup {n : Nat} {ts : List T} (hl : ts.length ≤ big) (h : ∀ t ∈ ts, rt n [t] = .ok (.bl true) []) : rt (n + 1) [.tup ts] = .ok (.bl true) [] := by
  rw [rt_s]
  have hc : evM (.comp (List.map (·.2) ([(("item" : Str), 1)] : List (Str × Nat))) (.nm 1) (.seq (.var 0)) (.cons (.no (.e (.call (sf_Ltuples (rt n)) (.e (.var 1) (.nil)) []))) .nil) (.cst (.int 1))) [.im (.tup ts), .un] = .ok [] [.im (.tup ts), .un] := by
    refine comp_none (xs := ts) (by simp [getV]) rfl rfl rfl hl (fun x hx => ⟨[.im (.tup ts), .im x], [.im (.tup ts), .im x], rfl, ?_, rfl⟩)
    have c := callV (g := sf_Ltuples (rt n)) (avs := [.v x]) rfl rfl (h x hx)
    simp [getV, c]
  refine sem_ret (s0 := [.im (.tup ts)]) (s1 := [.im (.tup ts), .un]) rfl rfl ?_ rfl
  show evSs (ir_Ltuples (rt n)) [.im (.tup ts), .un] = _
  refine seq_ret ?_
  have e1 : evE (.no (.frz (.comp (List.map (·.2) ([(("item" : Str), 1)] : List (Str × Nat))) (.nm 1) (.seq (.var 0)) (.cons (.no (.e (.call (sf_Ltuples (rt n)) (.e (.var 1) (.nil)) []))) .nil) (.cst (.int 1))))) [.im (.tup ts), .un] = .ok (.bl true) [.im (.tup ts), .un] := by
    rw [e_no, e_frz, hc]
    simp
  rw [s_if_]
  simp only [c_e, e_isi, e_var, getV, List.getElem?_cons_zero, bind_ok, kIsi_tup, truR_bl, so_ok, kIf_]
  rw [if_pos (by simp [isTy])]
  rw [ss_cons_, s_ret_, e1]
  rfl
theorem w_tup {ts : List T} (hl : ts.length ≤ big) (h : ∀ t ∈ ts, rt 7 [t] = .ok (.bl true) []) : f_Ltuples.sem [.tup ts] = .ok (.bl true) [] := rt_tup hl h
theorem rt_tq (n : Nat) (p : Int × Int) : rt (n + 2) [tq p] = .ok (.bl true) [] := rt_tup (by show 2 ≤ big; decide) fun t ht => by
  simp only [List.mem_cons, List.not_mem_nil, or_false] at ht
  rcases ht with rfl | rfl <;> exact rt_int _ _
theorem w_tup_tq (p : Int × Int) : f_Ltuples.sem [tq p] = .ok (.bl true) [] := rt_tq 6 p
/-! ## directions -/
structure Dr (p : Int × Int) : Prop where
  cop : Nat.gcd p.1.natAbs p.2.natAbs = 1
  a : Bd 160 p.1
  b : Bd 160 p.2
theorem Dr.ne {p : Int × Int} (h : Dr p) : ¬ (p.1 = 0 ∧ p.2 = 0) := by
  rintro ⟨h1, h2⟩
  have := h.cop
  rw [h1, h2] at this
  simp at this
abbrev gd (a b : Int) : Int := (Nat.gcd a.natAbs b.natAbs : Nat)
/-- made shorter -/
def sh (a b : Int) : Int × Int := (a.fdiv (gd a b), b.fdiv (gd a b))
theorem gd_def (a b : Int) : gd a b = ((Nat.gcd a.natAbs b.natAbs : Nat) : Int) := rfl
theorem gd_pos {a b : Int} (h : ¬ (a = 0 ∧ b = 0)) : 0 < gd a b := by
  have : 0 < Nat.gcd a.natAbs b.natAbs := by
    rcases Nat.eq_zero_or_pos (Nat.gcd a.natAbs b.natAbs) with z | z
    · have := Nat.gcd_eq_zero_iff.mp z
      omega
    · exact z
  exact Int.ofNat_lt.mpr this
theorem sh_l (a b : Int) : (sh a b).1 * gd a b = a := Int.fdiv_mul_cancel (Int.ofNat_dvd_left.mpr (Nat.gcd_dvd_left _ _))
theorem sh_r (a b : Int) : (sh a b).2 * gd a b = b := Int.fdiv_mul_cancel (Int.ofNat_dvd_left.mpr (Nat.gcd_dvd_right _ _))
theorem sh_cop {a b : Int} (h : ¬ (a = 0 ∧ b = 0)) : Nat.gcd (sh a b).1.natAbs (sh a b).2.natAbs = 1 := by
  have h1 := congrArg Int.natAbs (sh_l a b)
  have h2 := congrArg Int.natAbs (sh_r a b)
  rw [Int.natAbs_mul, Int.natAbs_natCast] at h1 h2
  have hg := gd_pos h
  have e : Nat.gcd ((sh a b).1.natAbs * Nat.gcd a.natAbs b.natAbs) ((sh a b).2.natAbs * Nat.gcd a.natAbs b.natAbs) = Nat.gcd a.natAbs b.natAbs := by rw [h1, h2]
  rw [Nat.gcd_mul_right] at e
  exact Nat.eq_of_mul_eq_mul_right (show 0 < Nat.gcd a.natAbs b.natAbs by rw [gd_def] at hg; omega) (by omega)
theorem sh_le {a b : Int} (h : ¬ (a = 0 ∧ b = 0)) : (sh a b).1.natAbs ≤ a.natAbs ∧ (sh a b).2.natAbs ≤ b.natAbs := by
  have h1 := congrArg Int.natAbs (sh_l a b)
  have h2 := congrArg Int.natAbs (sh_r a b)
  rw [Int.natAbs_mul, Int.natAbs_natCast] at h1 h2
  have hg : 0 < Nat.gcd a.natAbs b.natAbs := by have := gd_pos h; rw [gd_def] at this; omega
  exact ⟨by rw [← h1]; exact Nat.le_mul_of_pos_right _ hg, by rw [← h2]; exact Nat.le_mul_of_pos_right _ hg⟩
theorem sh_dr {a b : Int} (h : ¬ (a = 0 ∧ b = 0)) (ha : Bd 160 a) (hb : Bd 160 b) : Dr (sh a b) := ⟨sh_cop h, Nat.lt_of_le_of_lt (sh_le h).1 ha, Nat.lt_of_le_of_lt (sh_le h).2 hb⟩
theorem sh_self {p : Int × Int} (h : Nat.gcd p.1.natAbs p.2.natAbs = 1) : sh p.1 p.2 = p := by
  unfold sh gd
  rw [h]
  simp
theorem gd_log {a b : Int} {k : Nat} (h : ¬ (a = 0 ∧ b = 0)) (ha : Bd k a) (hb : Bd k b) (hk : 0 < k) (hk2 : k ≤ 9000) : (gd a b).natAbs.log2 < 9000 := by
  rw [Int.natAbs_natCast]
  have : Nat.gcd a.natAbs b.natAbs < 2 ^ k := by
    by_cases h0 : a = 0
    · have hb0 : 0 < b.natAbs := by omega
      exact Nat.lt_of_le_of_lt (Nat.gcd_le_right _ hb0) hb
    · exact Nat.lt_of_le_of_lt (Nat.gcd_le_left _ (by omega)) ha
  exact Nat.lt_of_lt_of_le (log2_lt hk this) hk2
theorem w_Ldirection {a b : Int} (h : ¬ (a = 0 ∧ b = 0)) (ha : Bd 5000 a) (hb : Bd 5000 b) : f_Ldirection.sem [.int a, .int b] = .ok (tq (sh a b)) [] := by
  have c := callV (avs := [.v (.int a), .v (.int b)]) rfl rfl (w_Lgcd a b (hb.up (by decide)))
  have g0 := gd_pos h
  have gl := gd_log h ha hb (by decide) (by decide)
  have f1 := b_fdiv a (gd a b) (by omega) gl
  have f2 := b_fdiv b (gd a b) (by omega) gl
  simp [f_Ldirection, mkFS, mkSem, startS, getV, outS, c, setTg, isMp, f1, f2, show f_Lgcd.fresh = false from rfl, sh]
theorem sh_ok {a b : Int} (h : ¬ (a = 0 ∧ b = 0)) (ha : Bd 8000 a) (hb : Bd 8000 b) : f_shortened.sem [.int a, .int b] = .ok (tq (sh a b)) [] := by
  have g0 := gd_pos h
  have gl := gd_log h ha hb (by decide) (by decide)
  have f1 := b_fdiv a (gd a b) (by omega) gl
  have f2 := b_fdiv b (gd a b) (by omega) gl
  have b1 : biF .gcd [.int a, .int b] = some (.int (gd a b)) := rfl
  have e : sh a b = (a.fdiv (gd a b), b.fdiv (gd a b)) := rfl
  rw [e]
  have gn : (gd a b == 0) = false := by
    cases q : gd a b == 0 with
    | false => rfl
    | true => have := beq_iff_eq.mp q; omega
  generalize gd a b = g at *
  simp [f_shortened, mkFS, mkSem, startS, getV, outS, b1, setTg, isMp, f1, f2, gn]
theorem sh_no : f_shortened.sem [.int 0, .int 0] = .ex "BadDirection" [] [] [] := by
  simp [f_shortened, mkFS, mkSem, startS, getV, outS, biF, setTg, isMp, selV]
end KS

namespace KS
open PySem FL
/-! ## ways drawn -/
def rows16 : List (Int × Int) := [(1, 0), (0, 1), (-1, 0), (0, -1), (1, 1), (-1, 1), (-1, -1), (1, -1), (2, 1), (1, 2), (-1, 2), (-2, 1), (-2, -1), (-1, -2), (1, -2), (2, -1)]
theorem rows16_dr : ∀ p ∈ rows16, Dr p := by
  intro p hp
  simp only [rows16, List.mem_cons, List.not_mem_nil, or_false] at hp
  rcases hp with rfl | rfl | rfl | rfl | rfl | rfl | rfl | rfl | rfl | rfl | rfl | rfl | rfl | rfl | rfl | rfl <;> exact ⟨by decide, by unfold Bd; decide, by unfold Bd; decide⟩
theorem w_Lway {h : List T} (hh : HandOk h) : ∃ p h', HandOk h' ∧ Dr p ∧ f_Lway.sem [.lst h] = .ok (tq p) h' := by
  obtain ⟨z, h1, a1, a2, a3, a4⟩ := take_at (s := [.mp h, .im (.lst (rows16.map tq))]) (i := 0) rfl hh (e := .cst (.int 16)) (m := 16) rfl (by decide)
  obtain ⟨p, hp, hat⟩ := atF (f := tq) (xs := rows16) a2 a3
  have a4' : evE (.call f_Ltake (.b 0 (.e (.cst (.int 16)) .nil)) []) [.mp h, .im (.lst (rows16.map tq))] = .ok (.int z) [.mp h1, .im (.lst (rows16.map tq))] := a4
  refine ⟨p, h1, a1, rows16_dr p hp, sem_ret (s0 := [.mp h]) (s1 := [.mp h1, .im (.lst (rows16.map tq))]) rfl rfl ?_ rfl⟩
  show evSs ir_Lway [.mp h, .un] = _
  refine seq_nx (s1 := [.mp h, .im (.lst ((rows16.take 8).map tq))]) (by simp [kDisp, big, setTg, isMp, rows16]) ?_
  refine seq_nx (s1 := [.mp h, .im (.lst (rows16.map tq))]) (by simp [kDisp, big, setTg, isMp, rows16, getV]) ?_
  refine seq_ret ?_
  simp only [s_ret_, e_idx, e_var, getV, List.getElem?_cons_succ, List.getElem?_cons_zero, bind_ok, kIdx_, a4', kIdx2_, idx_lst, hat, of_some, so_ok]
/-- a call that changes the slot's list, which it is handed alone -/
theorem call_at {g : FS} (hm : g.mu = some 0) (hf : g.fresh = false) {s : Sls} {i : Nat} {h h' : List T} {t : T} (ho : ownAt s i = some h) (e : g.sem [.lst h] = .ok t h') : evE (.call g (.b i .nil) []) s = .ok t (putOwn s i h') := by
  have ha := after_r0 (g := g) (i := i) (vs := []) (s := s) hm ho (by simpa using e)
  simp only [List.map_nil] at ha
  simp [hf, ho, ha]
theorem w_Lany_way {h : List T} (hh : HandOk h) : ∃ p h', HandOk h' ∧ Dr p ∧ f_Lany_way.sem [.lst h] = .ok (tq p) h' := by
  obtain ⟨z, h1, a1, a2, a3, a4⟩ := take_at (s := [.mp h, .un, .un]) (i := 0) rfl hh (e := .cst (.int 3)) (m := 3) rfl (by decide)
  have a4' : evE (.call f_Ltake (.b 0 (.e (.cst (.int 3)) .nil)) []) [.mp h, .un, .un] = .ok (.int z) [.mp h1, .un, .un] := a4
  by_cases hz : z = 0
  · subst hz
    obtain ⟨x, h2, b1, b2, b3⟩ := w_Lnumber a1
    obtain ⟨y, h3, c1, c2, c3⟩ := w_Lnumber b1
    have e1 : evE (.call f_Lnumber (.b 0 .nil) []) [.mp h1, .un, .un] = .ok (.int x) [.mp h2, .un, .un] := call_at rfl rfl rfl b3
    have e2 : evE (.call f_Lnumber (.b 0 .nil) []) [.mp h2, .un, .un] = .ok (.int y) [.mp h3, .un, .un] := call_at rfl rfl rfl c3
    have st : ∀ r, evS (.ret (.ite (.bo true (.cons (.cmp .eq (.var 1) (.cst (.int 0))) (.cons (.cmp .eq (.var 2) (.cst (.int 0))) (.nil)))) (.tup (.cons (.cst (.int 0)) (.cons (.neg (.cst (.int 1))) (.nil)))) (.call f_Ldirection (.e (.var 1) (.e (.var 2) (.nil))) []))) [.mp h3, .im (.int x), .im (.int y)] = .ret r [.mp h3, .im (.int x), .im (.int y)] → f_Lany_way.sem [.lst h] = .ok r h3 := fun r hr => by
      refine sem_ret (s0 := [.mp h]) (s1 := [.mp h3, .im (.int x), .im (.int y)]) rfl rfl ?_ rfl
      show evSs ir_Lany_way [.mp h, .un, .un] = _
      refine seq_nx (s1 := [.mp h1, .un, .un]) (by rw [s_if_, c_e, a4']; rfl) ?_
      refine seq_nx (s1 := [.mp h3, .im (.int x), .im (.int y)]) (by rw [s_asg_, e_tup, es_cons, e1, bind_ok, kEs_, es_cons, e2]; simp [setTg, setTgs, isMp]) ?_
      exact seq_ret hr
    by_cases h0 : x = 0 ∧ y = 0
    · obtain ⟨rfl, rfl⟩ := h0
      refine ⟨(0, -1), h3, c1, rows16_dr _ (by decide), st _ ?_⟩
      simp [getV]
    · have hd := callV (avs := [.v (.int x), .v (.int y)]) rfl rfl (w_Ldirection h0 (b2.up (by decide)) (c2.up (by decide)))
      refine ⟨sh x y, h3, c1, sh_dr h0 b2 c2, st _ ?_⟩
      by_cases hx : x = 0
      · have hy : y ≠ 0 := fun z => h0 ⟨hx, z⟩
        simp [getV, hx, hy]
        subst hx
        simp [hd, show f_Ldirection.fresh = false from rfl]
      · simp [getV, hx, hd, show f_Ldirection.fresh = false from rfl]
  · obtain ⟨p, h2, b1, b2, b3⟩ := w_Lway a1
    have e1 : evE (.call f_Lway (.b 0 .nil) []) [.mp h1, .un, .un] = .ok (tq p) [.mp h2, .un, .un] := call_at rfl rfl rfl b3
    refine ⟨p, h2, b1, b2, sem_ret (s0 := [.mp h]) (s1 := [.mp h2, .un, .un]) rfl rfl ?_ rfl⟩
    show evSs ir_Lany_way [.mp h, .un, .un] = _
    refine seq_ret ?_
    have hz' : (z != 0) = true := by simpa using hz
    rw [s_if_, c_e, a4', bind_ok, truR_int, so_ok, kIf_, hz', if_pos rfl, ss_cons_, s_ret_, e1]
    rfl
/-! ## directions told and refused -/
variable {p : Int × Int}
abbrev lq (p : Int × Int) : T := .lst [.int p.1, .int p.2]
theorem isd_tq (p : Int × Int) : f_is_direction.sem [tq p] = .ok (.bl (decide (Nat.gcd p.1.natAbs p.2.natAbs = 1))) [] := by
  have c1 := fun i => callVd (g := f_is_whole) (ts := [.int i]) (ds := [.non, .non]) (avs := [.v (.int i)]) rfl rfl (isw_int i)
  have hg : (((Nat.gcd p.1.natAbs p.2.natAbs : Nat) : Int) == 1) = decide (Nat.gcd p.1.natAbs p.2.natAbs = 1) := by
    by_cases z : Nat.gcd p.1.natAbs p.2.natAbs = 1
    · rw [decide_eq_true z, z]; rfl
    · rw [decide_eq_false z]
      cases q : (((Nat.gcd p.1.natAbs p.2.natAbs : Nat) : Int) == 1) with
      | false => rfl
      | true => exact (z (by have := beq_iff_eq.mp q; omega)).elim
  simp [f_is_direction, mkFS, mkSem, startS, getV, outS, isTy, biF, c1, fr_w, hg]
theorem isd_lq (p : Int × Int) : f_is_direction.sem [lq p] = .ok (.bl (decide (Nat.gcd p.1.natAbs p.2.natAbs = 1))) [] := by
  have c1 := fun i => callVd (g := f_is_whole) (ts := [.int i]) (ds := [.non, .non]) (avs := [.v (.int i)]) rfl rfl (isw_int i)
  have hg : (((Nat.gcd p.1.natAbs p.2.natAbs : Nat) : Int) == 1) = decide (Nat.gcd p.1.natAbs p.2.natAbs = 1) := by
    by_cases z : Nat.gcd p.1.natAbs p.2.natAbs = 1
    · rw [decide_eq_true z, z]; rfl
    · rw [decide_eq_false z]
      cases q : (((Nat.gcd p.1.natAbs p.2.natAbs : Nat) : Int) == 1) with
      | false => rfl
      | true => exact (z (by have := beq_iff_eq.mp q; omega)).elim
  simp [f_is_direction, mkFS, mkSem, startS, getV, outS, isTy, biF, c1, fr_w, hg]
theorem isd_len {ts : List T} (h : ts.length ≠ 2) : f_is_direction.sem [.tup ts] = .ok (.bl false) [] := by
  have hl : ((ts.length : Int) == 2) = false := by
    cases q : ((ts.length : Int) == 2) with
    | false => rfl
    | true => exact (h (by have := beq_iff_eq.mp q; omega)).elim
  simp [f_is_direction, mkFS, mkSem, startS, getV, outS, isTy, biF, hl]
theorem isd_non : f_is_direction.sem [.non] = .ok (.bl false) [] := by
  simp [f_is_direction, mkFS, mkSem, startS, getV, outS, isTy]
theorem isd_int (i : Int) : f_is_direction.sem [.int i] = .ok (.bl false) [] := by
  simp [f_is_direction, mkFS, mkSem, startS, getV, outS, isTy]
theorem isd_str (i : Str) : f_is_direction.sem [.str i] = .ok (.bl false) [] := by
  simp [f_is_direction, mkFS, mkSem, startS, getV, outS, isTy]
theorem isd_fst {a b : T} (h : f_is_whole.sem [a, .non, .non] = .ok (.bl false) []) : f_is_direction.sem [.tup [a, b]] = .ok (.bl false) [] := by
  have c1 := callVd (g := f_is_whole) (ts := [a]) (ds := [.non, .non]) (avs := [.v a]) rfl rfl h
  simp [f_is_direction, mkFS, mkSem, startS, getV, outS, isTy, biF, c1, fr_w]
theorem isd_snd {i : Int} {b : T} (h : f_is_whole.sem [b, .non, .non] = .ok (.bl false) []) : f_is_direction.sem [.tup [.int i, b]] = .ok (.bl false) [] := by
  have c1 := callVd (g := f_is_whole) (ts := [.int i]) (ds := [.non, .non]) (avs := [.v (.int i)]) rfl rfl (isw_int i)
  have c2 := callVd (g := f_is_whole) (ts := [b]) (ds := [.non, .non]) (avs := [.v b]) rfl rfl h
  simp [f_is_direction, mkFS, mkSem, startS, getV, outS, isTy, biF, c1, c2, fr_w]
end KS

namespace KS
open PySem FL
theorem eqT_tq (p r : Int × Int) : eqT (tq p) (tq r) = decide (p = r) := by
  simp only [eqT, eqTs, Bool.and_true]
  by_cases h : p = r
  · subst h; simp
  · rw [decide_eq_false h]
    cases q : (p.1 == r.1 && p.2 == r.2) with
    | false => rfl
    | true =>
      simp at q
      exact (h (Prod.ext q.1 q.2)).elim
theorem dat_tq (p : Int × Int) (n : Nat) : dat (n + 1) (tq p) = true := by simp [dat, dats]
theorem dats_tq (ps : List (Int × Int)) (n : Nat) : dats (n + 1) (ps.map tq) = true := dats_map ps fun x _ => dat_tq x n
theorem ne_tq (p r : Int × Int) : cop .ne (tq p) (tq r) = some (.bl (!decide (p = r))) := by
  have c : cop .ne (tq p) (tq r) = if dat 60 (tq p) && dat 60 (tq r) then some (.bl (!eqT (tq p) (tq r))) else none := rfl
  rw [c, dat_tq p 59, dat_tq r 59, eqT_tq]
  rfl
theorem eq_tq (p r : Int × Int) : cop .eq (tq p) (tq r) = some (.bl (decide (p = r))) := by
  have c : cop .eq (tq p) (tq r) = if dat 60 (tq p) && dat 60 (tq r) then some (.bl (eqT (tq p) (tq r))) else none := rfl
  rw [c, dat_tq p 59, dat_tq r 59, eqT_tq]
  rfl
theorem inT_tq (p : Int × Int) (ps : List (Int × Int)) : inT (tq p) (ps.map tq) = decide (p ∈ ps) := by
  unfold inT
  rw [List.any_map]
  by_cases h : p ∈ ps
  · rw [decide_eq_true h, List.any_eq_true]
    exact ⟨p, h, by simp [eqT_tq]⟩
  · rw [decide_eq_false h, List.any_eq_false]
    intro x hx
    simp only [Function.comp, eqT_tq, decide_eq_true_eq]
    exact fun z => h (z ▸ hx)
theorem nin_lst (p : Int × Int) (ps : List (Int × Int)) : cop .nin (tq p) (.lst (ps.map tq)) = some (.bl (!decide (p ∈ ps))) := by
  have c : cop .nin (tq p) (.lst (ps.map tq)) = if dat 60 (tq p) && dats 60 (ps.map tq) then some (.bl (!inT (tq p) (ps.map tq))) else none := rfl
  rw [c, dat_tq p 59, dats_tq ps 59, inT_tq]
  rfl
theorem nin_tup (p : Int × Int) (ps : List (Int × Int)) : cop .nin (tq p) (.tup (ps.map tq)) = some (.bl (!decide (p ∈ ps))) := by
  have c : cop .nin (tq p) (.tup (ps.map tq)) = if dat 60 (tq p) && dats 60 (ps.map tq) then some (.bl (!inT (tq p) (ps.map tq))) else none := rfl
  rw [c, dat_tq p 59, dats_tq ps 59, inT_tq]
  rfl
theorem eq_int (a b : Int) : cop .eq (.int a) (.int b) = some (.bl (a == b)) := by simp [cop, dat, eqT]
end KS

namespace KS
open PySem FL
/-! ## ratios in lowest terms: one number, one pair -/
structure Qr (k : Nat) (p : Int × Int) : Prop where
  rt : Rt k p
  pos : 0 < p.2
  cop : Nat.gcd p.1.natAbs p.2.natAbs = 1
theorem Qr.up {k l : Nat} {p : Int × Int} (h : Qr k p) (h' : k ≤ l) : Qr l p := ⟨h.rt.up h', h.pos, h.cop⟩
theorem Qr.nm {k : Nat} {a b : Int} (ha : Bd k a) (hb : Bd k b) (h : b ≠ 0) : Qr k (nmP a b) := ⟨Rt.nm ha hb h, nmP_pos h, nmP_cop h⟩
theorem dvd_cop {x y z : Int} (h : Nat.gcd x.natAbs y.natAbs = 1) (d : y ∣ x * z) : y ∣ z := by
  have d' := Int.natAbs_dvd_natAbs.mpr d
  rw [Int.natAbs_mul] at d'
  exact Int.natAbs_dvd_natAbs.mp ((Nat.Coprime.symm (show Nat.Coprime x.natAbs y.natAbs from h)).dvd_of_dvd_mul_left d')
theorem cop_eq {p r : Int × Int} (hp : 0 < p.2) (hr : 0 < r.2) (cp : Nat.gcd p.1.natAbs p.2.natAbs = 1) (cr : Nat.gcd r.1.natAbs r.2.natAbs = 1) (h : p.1 * r.2 = r.1 * p.2) : p = r := by
  have d1 : p.2 ∣ r.2 := dvd_cop cp (by rw [h]; exact Int.dvd_mul_left _ _)
  have d2 : r.2 ∣ p.2 := dvd_cop cr (by rw [← h]; exact Int.dvd_mul_left _ _)
  have ye : p.2 = r.2 := Int.dvd_antisymm (by omega) (by omega) d1 d2
  rw [ye] at h
  exact Prod.ext (Int.eq_of_mul_eq_mul_right (by omega) h) ye
theorem part_pos {a b : Int} (h : 0 < b) : 0 < part a b := by
  have hne := part_ne (a := a) (b := b) (by omega)
  unfold part at hne ⊢
  rw [if_neg (by omega)] at hne ⊢
  omega
/-- the same number, the same pair -/
theorem nmP_eq {a b c d : Int} (hb : 0 < b) (hd : 0 < d) (h : a * d = c * b) : nmP a b = nmP c d := by
  refine cop_eq (nmP_pos (by omega)) (nmP_pos (by omega)) (nmP_cop (by omega)) (nmP_cop (by omega)) ?_
  have e1 := nmP_l a b
  have e2 := nmP_r a b
  have e3 := nmP_l c d
  have e4 := nmP_r c d
  have g1 := part_pos (a := a) hb
  have g2 := part_pos (a := c) hd
  generalize nmP a b = p at *
  generalize nmP c d = r at *
  generalize part a b = g at *
  generalize part c d = k at *
  have : (p.1 * r.2) * (g * k) = (r.1 * p.2) * (g * k) := by grind
  exact Int.eq_of_mul_eq_mul_right (by have := Int.mul_pos g1 g2; omega) this
theorem nmP_self {p : Int × Int} (hp : 0 < p.2) (cp : Nat.gcd p.1.natAbs p.2.natAbs = 1) : nmP p.1 p.2 = p := by
  refine cop_eq (nmP_pos (by omega)) hp (nmP_cop (by omega)) cp ?_
  have e1 := nmP_l p.1 p.2
  have e2 := nmP_r p.1 p.2
  have g1 := part_pos (a := p.1) hp
  generalize nmP p.1 p.2 = r at *
  generalize part p.1 p.2 = g at *
  have : (r.1 * p.2) * g = (p.1 * r.2) * g := by grind
  exact Int.eq_of_mul_eq_mul_right (by omega) this
/-! ### sums -/
def add (p r : Int × Int) : Int × Int := nmP (p.1 * r.2 + r.1 * p.2) (p.2 * r.2)
def sub (p r : Int × Int) : Int × Int := nmP (p.1 * r.2 - r.1 * p.2) (p.2 * r.2)
def mul (p r : Int × Int) : Int × Int := nmP (p.1 * r.1) (p.2 * r.2)
theorem add_q {k l : Nat} {p r : Int × Int} (hp : Qr k p) (hr : Qr l r) : Qr (k + l + 1) (add p r) := by
  refine Qr.nm ?_ ?_ (Int.mul_ne_zero hp.rt.ne hr.rt.ne)
  · have h1 := hp.rt.n.mul hr.rt.d
    have h2 : Bd (k + l) (r.1 * p.2) := by have := hr.rt.n.mul hp.rt.d; rw [Nat.add_comm]; exact this
    exact h1.add h2
  · exact (hp.rt.d.mul hr.rt.d).up (by omega)
theorem sub_q {k l : Nat} {p r : Int × Int} (hp : Qr k p) (hr : Qr l r) : Qr (k + l + 1) (sub p r) := by
  refine Qr.nm ?_ ?_ (Int.mul_ne_zero hp.rt.ne hr.rt.ne)
  · have h1 := hp.rt.n.mul hr.rt.d
    have h2 : Bd (k + l) (r.1 * p.2) := by have := hr.rt.n.mul hp.rt.d; rw [Nat.add_comm]; exact this
    exact h1.sub h2
  · exact (hp.rt.d.mul hr.rt.d).up (by omega)
theorem mul_q {k l : Nat} {p r : Int × Int} (hp : Qr k p) (hr : Qr l r) : Qr (k + l) (mul p r) :=
  Qr.nm (hp.rt.n.mul hr.rt.n) (hp.rt.d.mul hr.rt.d) (Int.mul_ne_zero hp.rt.ne hr.rt.ne)
theorem neg_q {k : Nat} {p : Int × Int} (hp : Qr k p) : Qr k (-p.1, p.2) := ⟨⟨by unfold Bd; rw [Int.natAbs_neg]; exact hp.rt.n, hp.rt.d, hp.rt.ne⟩, hp.pos, by rw [Int.natAbs_neg]; exact hp.cop⟩
/-- p + (r - p) = r -/
theorem add_sub {k l : Nat} {p r : Int × Int} (hp : Qr k p) (hr : Qr l r) : add p (sub r p) = r := by
  have q := sub_q hr hp
  refine cop_eq (nmP_pos (Int.mul_ne_zero hp.rt.ne q.rt.ne)) hr.pos (nmP_cop (Int.mul_ne_zero hp.rt.ne q.rt.ne)) hr.cop ?_
  unfold add
  have hp2 := hp.pos
  have hr2 := hr.pos
  have e1 := nmP_l (r.1 * p.2 - p.1 * r.2) (r.2 * p.2)
  have e2 := nmP_r (r.1 * p.2 - p.1 * r.2) (r.2 * p.2)
  have g1 := part_pos (a := r.1 * p.2 - p.1 * r.2) (Int.mul_pos hr2 hp2)
  have qp := q.pos
  unfold sub at qp ⊢
  generalize nmP (r.1 * p.2 - p.1 * r.2) (r.2 * p.2) = s at *
  generalize part (r.1 * p.2 - p.1 * r.2) (r.2 * p.2) = g at *
  have e3 := nmP_l (p.1 * s.2 + s.1 * p.2) (p.2 * s.2)
  have e4 := nmP_r (p.1 * s.2 + s.1 * p.2) (p.2 * s.2)
  have g2 := part_pos (a := p.1 * s.2 + s.1 * p.2) (Int.mul_pos hp2 qp)
  generalize nmP (p.1 * s.2 + s.1 * p.2) (p.2 * s.2) = t at *
  generalize part (p.1 * s.2 + s.1 * p.2) (p.2 * s.2) = k at *
  have h1 : (t.1 * r.2) * (g * k * p.2) = (r.1 * t.2) * (g * k * p.2) := by grind
  exact Int.eq_of_mul_eq_mul_right (by have := Int.mul_pos (Int.mul_pos g1 g2) hp2; omega) h1
theorem sub_self {p : Int × Int} (hp : 0 < p.2) : sub p p = (0, 1) := by
  unfold sub
  have h := nmP_eq (a := p.1 * p.2 - p.1 * p.2) (b := p.2 * p.2) (c := 0) (d := 1) (Int.mul_pos hp hp) (by decide) (by omega)
  rw [h]
  rfl
theorem mul_zero' {p : Int × Int} (hp : 0 < p.2) : mul (0, 1) p = (0, 1) := by
  unfold mul
  have h := nmP_eq (a := 0 * p.1) (b := 1 * p.2) (c := 0) (d := 1) (by omega) (by decide) (by omega)
  exact h.trans rfl
theorem mul_one' {p : Int × Int} (hp : 0 < p.2) (cp : Nat.gcd p.1.natAbs p.2.natAbs = 1) : mul (1, 1) p = p := by
  unfold mul
  have h := nmP_eq (a := 1 * p.1) (b := 1 * p.2) (c := p.1) (d := p.2) (by omega) hp (by grind)
  exact h.trans (nmP_self hp cp)
theorem add_zero' {p : Int × Int} (hp : 0 < p.2) (cp : Nat.gcd p.1.natAbs p.2.natAbs = 1) : add p (0, 1) = p := by
  unfold add
  have h := nmP_eq (a := p.1 * 1 + 0 * p.2) (b := p.2 * 1) (c := p.1) (d := p.2) (by omega) hp (by grind)
  exact h.trans (nmP_self hp cp)
/-- along a direction: both sums of the law and of the program -/
theorem along_eq {d x y : Int × Int} (hx : 0 < x.2) (hy : 0 < y.2) : nmP (d.1 * x.1 * y.2 + d.2 * y.1 * x.2) (x.2 * y.2) = add (mul (d.1, 1) x) (mul (d.2, 1) y) := by
  unfold add mul
  have h1 : 0 < 1 * x.2 := by omega
  have h2 : 0 < 1 * y.2 := by omega
  have e1 := nmP_l (d.1 * x.1) (1 * x.2)
  have e2 := nmP_r (d.1 * x.1) (1 * x.2)
  have e3 := nmP_l (d.2 * y.1) (1 * y.2)
  have e4 := nmP_r (d.2 * y.1) (1 * y.2)
  have p1 := nmP_pos (a := d.1 * x.1) (b := 1 * x.2) (by omega)
  have p2 := nmP_pos (a := d.2 * y.1) (b := 1 * y.2) (by omega)
  show nmP _ _ = nmP ((nmP (d.1 * x.1) (1 * x.2)).1 * (nmP (d.2 * y.1) (1 * y.2)).2 + (nmP (d.2 * y.1) (1 * y.2)).1 * (nmP (d.1 * x.1) (1 * x.2)).2) ((nmP (d.1 * x.1) (1 * x.2)).2 * (nmP (d.2 * y.1) (1 * y.2)).2)
  generalize nmP (d.1 * x.1) (1 * x.2) = m at *
  generalize nmP (d.2 * y.1) (1 * y.2) = n at *
  generalize part (d.1 * x.1) (1 * x.2) = g at *
  generalize part (d.2 * y.1) (1 * y.2) = k at *
  exact nmP_eq (Int.mul_pos hx hy) (Int.mul_pos p1 p2) (by grind)
end KS

namespace KS
open PySem FL
/-! ## places -/
abbrev Pl := (Int × Int) × (Int × Int)
abbrev pq (a : Pl) : T := .tup [tq a.1, tq a.2]
/-- a place, handed as a tuple or as a list -/
def ip (b : Bool) (a : Pl) : T := if b then pq a else .lst [tq a.1, tq a.2]
theorem ip_t (a : Pl) : ip true a = pq a := rfl
theorem ip_0 (b : Bool) (a : Pl) : idxT (ip b a) (.int 0) = some (tq a.1) := by cases b <;> simp [ip]
theorem ip_1 (b : Bool) (a : Pl) : idxT (ip b a) (.int 1) = some (tq a.2) := by cases b <;> simp [ip]
theorem ip_set (b : Bool) (a : Pl) (g1 g2 : Tg) (s : Sls) : setTg (.tp [g1, g2]) (ip b a) s = setTgs [g1, g2] [tq a.1, tq a.2] s := by cases b <;> simp [ip, setTg]
structure QP (k : Nat) (a : Pl) : Prop where
  x : Qr k a.1
  y : Qr k a.2
theorem QP.up {k l : Nat} {a : Pl} (h : QP k a) (h' : k ≤ l) : QP l a := ⟨h.x.up h', h.y.up h'⟩
variable {p r s : Int × Int} {k l : Nat} {a c e : Pl}
theorem w_add (hp : Qr 2900 p) (hr : Qr 2900 r) : f_plus.sem [tq p, tq r] = .ok (tq (add p r)) [] := w_plus hp.rt hr.rt
theorem w_sub (hp : Qr 2900 p) (hr : Qr 2900 r) : f_minus.sem [tq p, tq r] = .ok (tq (sub p r)) [] := w_minus hp.rt hr.rt
theorem w_mul (hp : Qr 2900 p) (hr : Qr 2900 r) : f_times.sem [tq p, tq r] = .ok (tq (mul p r)) [] := w_times hp.rt hr.rt
theorem w_Ladd (hp : Qr 2900 p) (hr : Qr 2900 r) : f_Lplus.sem [tq p, tq r] = .ok (tq (add p r)) [] := w_Lplus hp.rt hr.rt
theorem w_Lsub (hp : Qr 2900 p) (hr : Qr 2900 r) : f_Lless.sem [tq p, tq r] = .ok (tq (sub p r)) [] := w_Lless hp.rt hr.rt
theorem w_Lmul (hp : Qr 2900 p) (hr : Qr 2900 r) : f_Ltimes.sem [tq p, tq r] = .ok (tq (mul p r)) [] := w_Ltimes hp.rt hr.rt
theorem fr_plus : f_plus.fresh = false := rfl
theorem fr_minus : f_minus.fresh = false := rfl
theorem fr_times : f_times.fresh = false := rfl
theorem fr_neg : f_negative.fresh = false := rfl
theorem fr_Lplus : f_Lplus.fresh = false := rfl
theorem fr_Lless : f_Lless.fresh = false := rfl
theorem fr_Ltimes : f_Ltimes.fresh = false := rfl
theorem fr_step : f_step_from.fresh = false := rfl
def stepP (a c : Pl) : Pl := (sub c.1 a.1, sub c.2 a.2)
def byP (a c : Pl) : Pl := (add a.1 c.1, add a.2 c.2)
def scP (s : Int × Int) (a : Pl) : Pl := (mul s a.1, mul s a.2)
def crP (a c e : Pl) : Int × Int := sub (mul (stepP a c).1 (stepP a e).2) (mul (stepP a c).2 (stepP a e).1)
theorem stepP_q (ha : QP k a) (hc : QP l c) : QP (l + k + 1) (stepP a c) := ⟨sub_q hc.x ha.x, sub_q hc.y ha.y⟩
theorem byP_q (ha : QP k a) (hc : QP l c) : QP (k + l + 1) (byP a c) := ⟨add_q ha.x hc.x, add_q ha.y hc.y⟩
theorem scP_q (hs : Qr l s) (ha : QP k a) : QP (l + k) (scP s a) := ⟨mul_q hs ha.x, mul_q hs ha.y⟩
theorem w_step (b d : Bool) (ha : QP 2900 a) (hc : QP 2900 c) : f_step_from.sem [ip b a, ip d c] = .ok (pq (stepP a c)) [] := by
  have c1 := callV (avs := [.v (tq c.1), .v (tq a.1)]) rfl rfl (w_sub hc.x ha.x)
  have c2 := callV (avs := [.v (tq c.2), .v (tq a.2)]) rfl rfl (w_sub hc.y ha.y)
  simp [f_step_from, mkFS, mkSem, startS, getV, outS, ip_0, ip_1, c1, c2, fr_minus, stepP]
theorem w_Lstep (ha : QP 2900 a) (hc : QP 2900 c) : f_Lstep.sem [pq a, pq c] = .ok (pq (stepP a c)) [] := by
  have c1 := callV (avs := [.v (tq c.1), .v (tq a.1)]) rfl rfl (w_Lsub hc.x ha.x)
  have c2 := callV (avs := [.v (tq c.2), .v (tq a.2)]) rfl rfl (w_Lsub hc.y ha.y)
  simp [f_Lstep, mkFS, mkSem, startS, getV, outS, c1, c2, fr_Lless, stepP]
theorem w_by (b d : Bool) (ha : QP 2900 a) (hc : QP 2900 c) : f_place_by.sem [ip b a, ip d c] = .ok (pq (byP a c)) [] := by
  have c1 := callV (avs := [.v (tq a.1), .v (tq c.1)]) rfl rfl (w_add ha.x hc.x)
  have c2 := callV (avs := [.v (tq a.2), .v (tq c.2)]) rfl rfl (w_add ha.y hc.y)
  simp [f_place_by, mkFS, mkSem, startS, getV, outS, ip_0, ip_1, c1, c2, fr_plus, byP]
theorem w_Lby (ha : QP 2900 a) (hc : QP 2900 c) : f_Lby.sem [pq a, pq c] = .ok (pq (byP a c)) [] := by
  have c1 := callV (avs := [.v (tq a.1), .v (tq c.1)]) rfl rfl (w_Ladd ha.x hc.x)
  have c2 := callV (avs := [.v (tq a.2), .v (tq c.2)]) rfl rfl (w_Ladd ha.y hc.y)
  simp [f_Lby, mkFS, mkSem, startS, getV, outS, c1, c2, fr_Lplus, byP]
theorem w_place_on (b d : Bool) (ha : QP 600 a) (hc : QP 600 c) (hs : Qr 600 s) : f_place_on.sem [ip b a, ip d c, tq s] = .ok (pq (byP a (scP s (stepP a c)))) [] := by
  have q := stepP_q ha hc
  have z := scP_q hs q
  have c0 := callV (avs := [.v (ip b a), .v (ip d c)]) rfl rfl (w_step b d (ha.up (by decide)) (hc.up (by decide)))
  have c1 := callV (avs := [.v (tq s), .v (tq (stepP a c).1)]) rfl rfl (w_mul (hs.up (by decide)) (q.x.up (by decide)))
  have c2 := callV (avs := [.v (tq s), .v (tq (stepP a c).2)]) rfl rfl (w_mul (hs.up (by decide)) (q.y.up (by decide)))
  have c3 := callV (avs := [.v (tq a.1), .v (tq (mul s (stepP a c).1))]) rfl rfl (w_add (ha.x.up (by decide)) (z.x.up (by decide)))
  have c4 := callV (avs := [.v (tq a.2), .v (tq (mul s (stepP a c).2))]) rfl rfl (w_add (ha.y.up (by decide)) (z.y.up (by decide)))
  simp [f_place_on, mkFS, mkSem, startS, getV, outS, setTg_nm, isMp, c0, c1, c2, c3, c4, ip_0, ip_1, fr_plus, fr_times, fr_step, byP, scP]
theorem w_cross (b d g : Bool) (ha : QP 300 a) (hc : QP 300 c) (he : QP 300 e) : f_cross_at.sem [ip b a, ip d c, ip g e] = .ok (tq (crP a c e)) [] := by
  have q1 := stepP_q ha hc
  have q2 := stepP_q ha he
  have c0 := callV (avs := [.v (ip b a), .v (ip d c)]) rfl rfl (w_step b d (ha.up (by decide)) (hc.up (by decide)))
  have c1 := callV (avs := [.v (ip b a), .v (ip g e)]) rfl rfl (w_step b g (ha.up (by decide)) (he.up (by decide)))
  have c2 := callV (avs := [.v (tq (stepP a c).1), .v (tq (stepP a e).2)]) rfl rfl (w_mul (q1.x.up (by decide)) (q2.y.up (by decide)))
  have c3 := callV (avs := [.v (tq (stepP a c).2), .v (tq (stepP a e).1)]) rfl rfl (w_mul (q1.y.up (by decide)) (q2.x.up (by decide)))
  have c4 := callV (avs := [.v (tq (mul (stepP a c).1 (stepP a e).2)), .v (tq (mul (stepP a c).2 (stepP a e).1))]) rfl rfl (w_sub ((mul_q q1.x q2.y).up (by decide)) ((mul_q q1.y q2.x).up (by decide)))
  simp [f_cross_at, mkFS, mkSem, startS, getV, outS, setTg_nm, isMp, c0, c1, c2, c3, c4, fr_minus, fr_times, fr_step, crP]
theorem w_Lcross (ha : QP 300 a) (hc : QP 300 c) (he : QP 300 e) : f_Lcross.sem [pq a, pq c, pq e] = .ok (tq (crP a c e)) [] := by
  have q1 := stepP_q ha hc
  have q2 := stepP_q ha he
  have d1 := callV (avs := [.v (tq c.1), .v (tq a.1)]) rfl rfl (w_Lsub (hc.x.up (by decide)) (ha.x.up (by decide)))
  have d2 := callV (avs := [.v (tq c.2), .v (tq a.2)]) rfl rfl (w_Lsub (hc.y.up (by decide)) (ha.y.up (by decide)))
  have d3 := callV (avs := [.v (tq e.1), .v (tq a.1)]) rfl rfl (w_Lsub (he.x.up (by decide)) (ha.x.up (by decide)))
  have d4 := callV (avs := [.v (tq e.2), .v (tq a.2)]) rfl rfl (w_Lsub (he.y.up (by decide)) (ha.y.up (by decide)))
  have c2 := callV (avs := [.v (tq (sub c.1 a.1)), .v (tq (sub e.2 a.2))]) rfl rfl (w_Lmul (q1.x.up (by decide)) (q2.y.up (by decide)))
  have c3 := callV (avs := [.v (tq (sub c.2 a.2)), .v (tq (sub e.1 a.1))]) rfl rfl (w_Lmul (q1.y.up (by decide)) (q2.x.up (by decide)))
  have c4 := callV (avs := [.v (tq (mul (sub c.1 a.1) (sub e.2 a.2))), .v (tq (mul (sub c.2 a.2) (sub e.1 a.1)))]) rfl rfl (w_Lsub ((mul_q q1.x q2.y).up (by decide)) ((mul_q q1.y q2.x).up (by decide)))
  simp [f_Lcross, mkFS, mkSem, startS, getV, outS, setTg_nm, isMp, d1, d2, d3, d4, c2, c3, c4, fr_Lless, fr_Ltimes, crP, stepP]
theorem w_turnP : f_turn_place.sem [pq a] = .ok (pq ((-a.2.1, a.2.2), a.1)) [] := by
  have c1 := callV (avs := [.v (tq a.2)]) rfl rfl (w_negative (p := a.2))
  simp [f_turn_place, mkFS, mkSem, startS, getV, outS, c1, fr_neg]
theorem w_mirrorP : f_mirror_place.sem [pq a] = .ok (pq ((-a.1.1, a.1.2), a.2)) [] := by
  have c1 := callV (avs := [.v (tq a.1)]) rfl rfl (w_negative (p := a.1))
  simp [f_mirror_place, mkFS, mkSem, startS, getV, outS, c1, fr_neg]
theorem w_growP (b : Bool) (ha : QP 2900 a) (hs : Qr 2900 s) : f_grow_place.sem [ip b a, tq s] = .ok (pq (mul a.1 s, mul a.2 s)) [] := by
  have c1 := callV (avs := [.v (tq a.1), .v (tq s)]) rfl rfl (w_mul ha.x hs)
  have c2 := callV (avs := [.v (tq a.2), .v (tq s)]) rfl rfl (w_mul ha.y hs)
  simp [f_grow_place, mkFS, mkSem, startS, getV, outS, ip_0, ip_1, c1, c2, fr_times]
/-- two whole numbers, as a tuple or as a list -/
def iw (b : Bool) (p : Int × Int) : T := if b then tq p else lq p
theorem iw_0 (b : Bool) (p : Int × Int) : idxT (iw b p) (.int 0) = some (.int p.1) := by cases b <;> simp [iw]
theorem iw_1 (b : Bool) (p : Int × Int) : idxT (iw b p) (.int 1) = some (.int p.2) := by cases b <;> simp [iw]
def amt (d : Int × Int) (a : Pl) : Int × Int := add (mul (d.1, 1) a.1) (mul (d.2, 1) a.2)
theorem q1 {i : Int} (h : Bd k i) (hk : 0 < k) : Qr k (i, 1) := ⟨⟨h, by
  show (1 : Int).natAbs < 2 ^ k
  have := Nat.pow_le_pow_right (n := 2) (by decide) hk
  have e : (1 : Int).natAbs = 1 := rfl
  rw [e]
  omega, by show (1 : Int) ≠ 0; decide⟩, by show (0 : Int) < 1; decide, Nat.gcd_one_right _⟩
theorem w_amount (b d : Bool) {w : Int × Int} (h1 : Bd 900 w.1) (h2 : Bd 900 w.2) (ha : QP 900 a) : f_amount_at.sem [iw b w, ip d a] = .ok (tq (amt w a)) [] := by
  have m1 := b_mul w.1 a.1.1 (h1.mulOk ha.x.rt.n (by decide))
  have m2 := b_mul (w.1 * a.1.1) a.2.2 ((h1.mul ha.x.rt.n).mulOk ha.y.rt.d (by decide))
  have m3 := b_mul w.2 a.2.1 (h2.mulOk ha.y.rt.n (by decide))
  have m4 := b_mul (w.2 * a.2.1) a.1.2 ((h2.mul ha.y.rt.n).mulOk ha.x.rt.d (by decide))
  have m5 := b_mul a.1.2 a.2.2 (ha.x.rt.d.mulOk ha.y.rt.d (by decide))
  have c := callV (avs := [.v (.int (w.1 * a.1.1 * a.2.2 + w.2 * a.2.1 * a.1.2)), .v (.int (a.1.2 * a.2.2))]) rfl rfl (w_in_lowest (w.1 * a.1.1 * a.2.2 + w.2 * a.2.1 * a.1.2) (a.1.2 * a.2.2) (Int.mul_ne_zero ha.x.rt.ne ha.y.rt.ne) ((ha.x.rt.d.mul ha.y.rt.d).up (l := 9000) (by decide)))
  rw [nm_tq, along_eq ha.x.pos ha.y.pos] at c
  simp [f_amount_at, mkFS, mkSem, startS, getV, outS, ip_set, setTgs, setTg_nm, setTg_tup, isMp, iw_0, iw_1, m1, m2, m3, m4, m5, c, show f_in_lowest.fresh = false from rfl, amt]
theorem w_Lamount {w : Int × Int} (h1 : Bd 900 w.1) (h2 : Bd 900 w.2) (ha : QP 900 a) : f_Lamount.sem [tq w, pq a] = .ok (tq (amt w a)) [] := by
  have k1 := q1 h1 (by decide)
  have k2 := q1 h2 (by decide)
  have c1 := callV (avs := [.v (tq (w.1, 1)), .v (tq a.1)]) rfl rfl (w_Lmul (k1.up (by decide)) (ha.x.up (by decide)))
  have c2 := callV (avs := [.v (tq (w.2, 1)), .v (tq a.2)]) rfl rfl (w_Lmul (k2.up (by decide)) (ha.y.up (by decide)))
  have c3 := callV (avs := [.v (tq (mul (w.1, 1) a.1)), .v (tq (mul (w.2, 1) a.2))]) rfl rfl (w_Ladd ((mul_q k1 ha.x).up (by decide)) ((mul_q k2 ha.y).up (by decide)))
  simp [f_Lamount, mkFS, mkSem, startS, getV, outS, c1, c2, c3, fr_Lplus, fr_Ltimes, amt]
theorem amt_q {w : Int × Int} (h1 : Bd 160 w.1) (h2 : Bd 160 w.2) (ha : QP 160 a) : Qr 641 (amt w a) := add_q (mul_q (q1 h1 (by decide)) ha.x) (mul_q (q1 h2 (by decide)) ha.y)
/-! ### the mean -/
def totP (ps : List Pl) : Pl := ps.foldl byP ((0, 1), (0, 1))
theorem tot_q : ∀ (ps : List Pl) (a : Pl) (k : Nat), (∀ p ∈ ps, QP 160 p) → QP k a → QP (k + 161 * ps.length) (ps.foldl byP a)
  | [], a, k, _, ha => ha
  | p :: ps, a, k, hp, ha => by
    rw [List.foldl_cons, List.length_cons]
    exact (tot_q ps (byP a p) (k + 160 + 1) (fun q m => hp q (List.mem_cons_of_mem _ m)) (byP_q ha (hp p (by simp)))).up (by omega)
theorem mean_loop (t : T) (r : Sls) : ∀ (ps : List Pl) (a : Pl) (x : Sl) (k : Nat), pl x = true → (∀ p ∈ ps, QP 160 p) → QP k a → k + 161 * ps.length ≤ 2900 → ∃ x', pl x' = true ∧
    forL (.nm 2) (evSs [.asg (.nm 1) (.call f_place_by (.e (.var 1) (.e (.var 2) (.nil))) [])]) (ps.map pq) (.im t :: .im (pq a) :: x :: r) = .nx (.im t :: .im (pq (ps.foldl byP a)) :: x' :: r) := by
  intro ps
  induction ps with
  | nil => intro a x k hx _ _ _; exact ⟨x, hx, forL_nil⟩
  | cons p ps ih =>
    intro a x k hx hp ha hk
    rw [List.length_cons] at hk
    have hp0 := hp p (by simp)
    obtain ⟨x', h1, h2⟩ := ih (byP a p) (.im (pq p)) (k + 160 + 1) rfl (fun q m => hp q (List.mem_cons_of_mem _ m)) (byP_q ha hp0) (by omega)
    refine ⟨x', h1, ?_⟩
    have mx : isMp (.im t :: .im (pq a) :: x :: r) 2 = false := pl_mp hx
    have c := callV (avs := [.v (pq a), .v (pq p)]) rfl rfl (w_by true true (ha.up (by omega)) (hp0.up (by decide)))
    rw [List.map_cons, List.foldl_cons]
    refine (forL_step (s1 := .im t :: .im (pq a) :: .im (pq p) :: r) (by rw [setTg_nm, mx]; rfl) (s2 := .im t :: .im (pq (byP a p)) :: .im (pq p) :: r) ?_).trans h2
    simp [getV, c, show f_place_by.fresh = false from rfl, setTg_nm, isMp]
theorem w_mean {t : T} {ps : List Pl} (ht : t = .lst (ps.map pq) ∨ t = .tup (ps.map pq)) (hp : ∀ p ∈ ps, QP 160 p) (hl : ps.length ≤ 9) (h0 : ps ≠ []) : f_mean_place.sem [t] = .ok (pq (mul (totP ps).1 (1, ps.length), mul (totP ps).2 (1, ps.length))) [] := by
  have hs : ∀ s, kSeq t s = .ok (ps.map pq) s := by rcases ht with rfl | rfl <;> intro s <;> rfl
  have hlen : biF .len [t] = some (.int ps.length) := by rcases ht with rfl | rfl <;> simp [biF]
  have z : QP 2 (((0, 1), (0, 1)) : Pl) := ⟨⟨⟨by unfold Bd; decide, by unfold Bd; decide, by decide⟩, by decide, by decide⟩, ⟨⟨by unfold Bd; decide, by unfold Bd; decide, by decide⟩, by decide, by decide⟩⟩
  obtain ⟨x', h1, e1⟩ := mean_loop t [.un] ps ((0, 1), (0, 1)) .un 2 rfl hp z (by omega)
  have tq' := tot_q ps _ 2 hp z
  have tq2 : QP 1500 (totP ps) := tq'.up (by omega)
  have hn : 0 < ps.length := List.length_pos_iff.mpr h0
  have qs : Qr 60 (1, (ps.length : Int)) := ⟨⟨by show (1 : Int).natAbs < 2 ^ 60; decide, by unfold Bd; show (ps.length : Int).natAbs < _; omega, by show (ps.length : Int) ≠ 0; omega⟩, by show (0 : Int) < ps.length; omega, Nat.gcd_one_left _⟩
  have c1 := callV (avs := [.v (tq (totP ps).1), .v (tq (1, (ps.length : Int)))]) rfl rfl (w_mul (tq2.x.up (by decide)) (qs.up (by decide)))
  have c2 := callV (avs := [.v (tq (totP ps).2), .v (tq (1, (ps.length : Int)))]) rfl rfl (w_mul (tq2.y.up (by decide)) (qs.up (by decide)))
  refine sem_ret (s0 := [.im t]) (s1 := [.im t, .im (pq (totP ps)), x', .im (tq (1, (ps.length : Int)))]) rfl rfl ?_ rfl
  show evSs ir_mean_place [.im t, .un, .un, .un] = _
  refine seq_nx (s1 := [.im t, .im (pq ((0, 1), (0, 1))), .un, .un]) (by simp [setTg_nm, isMp]) ?_
  refine seq_nx (s1 := [.im t, .im (pq (totP ps)), x', .un]) (by rw [s_for_, i_seq_, e_var]; simp only [getV, List.getElem?_cons_zero, bind_ok, hs, so_ok, kFor_]; exact e1) ?_
  refine seq_nx (s1 := [.im t, .im (pq (totP ps)), x', .im (tq (1, (ps.length : Int)))]) (by simp [getV, hlen, setTg_nm, isMp]) ?_
  refine seq_ret ?_
  simp [getV, c1, c2, fr_times]
end KS

namespace KS
open PySem FL
variable {p r s : Int × Int} {k l : Nat} {a c e : Pl}
/-! ## checks of places, amounts, sizes -/
theorem isr_bl (b : Bool) : f_is_ratio.sem [.bl b] = .ok (.bl false) [] := by
  simp [f_is_ratio, mkFS, mkSem, startS, getV, outS, isTy]
theorem isr_q (h : Qr k p) : f_is_ratio.sem [tq p] = .ok (.bl true) [] := by
  rw [w_is_ratio, decide_eq_true h.pos, decide_eq_true h.cop]
  rfl
theorem fr_isr : f_is_ratio.fresh = false := rfl
theorem cpl_yes (b : Bool) (h : QP k a) : f_is_couple.sem [ip b a] = .ok (.bl true) [] := by
  have c1 := callV (avs := [.v (tq a.1)]) rfl rfl (isr_q h.x)
  have c2 := callV (avs := [.v (tq a.2)]) rfl rfl (isr_q h.y)
  cases b <;> simp [f_is_couple, mkFS, mkSem, startS, getV, outS, ip, isTy, biF, c1, c2, fr_isr]
theorem cpl_len {ts : List T} (h : ts.length ≠ 2) : f_is_couple.sem [.tup ts] = .ok (.bl false) [] := by
  have hl : ((ts.length : Int) == 2) = false := by
    cases q : ((ts.length : Int) == 2) with
    | false => rfl
    | true => exact (h (by have := beq_iff_eq.mp q; omega)).elim
  simp [f_is_couple, mkFS, mkSem, startS, getV, outS, isTy, biF, hl]
theorem cpl_fst {t u : T} (h : f_is_ratio.sem [t] = .ok (.bl false) []) : f_is_couple.sem [.tup [t, u]] = .ok (.bl false) [] := by
  have c1 := callV (avs := [.v t]) rfl rfl h
  simp [f_is_couple, mkFS, mkSem, startS, getV, outS, isTy, biF, c1, fr_isr]
theorem cpl_fstL {t u : T} (h : f_is_ratio.sem [t] = .ok (.bl false) []) : f_is_couple.sem [.lst [t, u]] = .ok (.bl false) [] := by
  have c1 := callV (avs := [.v t]) rfl rfl h
  simp [f_is_couple, mkFS, mkSem, startS, getV, outS, isTy, biF, c1, fr_isr]
theorem cpl_snd {u : T} (hp : Qr k p) (h : f_is_ratio.sem [u] = .ok (.bl false) []) : f_is_couple.sem [.tup [tq p, u]] = .ok (.bl false) [] := by
  have c1 := callV (avs := [.v (tq p)]) rfl rfl (isr_q hp)
  have c2 := callV (avs := [.v u]) rfl rfl h
  simp [f_is_couple, mkFS, mkSem, startS, getV, outS, isTy, biF, c1, c2, fr_isr]
theorem cpl_non : f_is_couple.sem [.non] = .ok (.bl false) [] := by
  simp [f_is_couple, mkFS, mkSem, startS, getV, outS, isTy, biF]
theorem cpl_int (i : Int) : f_is_couple.sem [.int i] = .ok (.bl false) [] := by
  simp [f_is_couple, mkFS, mkSem, startS, getV, outS, isTy, biF]
theorem cpl_str (i : Str) : f_is_couple.sem [.str i] = .ok (.bl false) [] := by
  simp [f_is_couple, mkFS, mkSem, startS, getV, outS, isTy, biF]
theorem fr_cpl : f_is_couple.fresh = false := rfl
theorem chk_place (b : Bool) (h : QP k a) : f_check_place.sem [ip b a] = .ok (pq a) [] := by
  have c1 := callV (avs := [.v (ip b a)]) rfl rfl (cpl_yes b h)
  have e : biF .tuple [ip b a] = some (pq a) := by cases b <;> rfl
  simp [f_check_place, mkFS, mkSem, startS, getV, outS, c1, fr_cpl, e]
theorem no_place {t : T} (h : f_is_couple.sem [t] = .ok (.bl false) []) : f_check_place.sem [t] = .ex "BadPlace" [] [] [] := by
  have c1 := callV (avs := [.v t]) rfl rfl h
  simp [f_check_place, mkFS, mkSem, startS, getV, outS, c1, fr_cpl, selV]
theorem chk_amount (h : Qr k p) : f_check_amount.sem [tq p] = .ok (tq p) [] := by
  have c1 := callV (avs := [.v (tq p)]) rfl rfl (isr_q h)
  simp [f_check_amount, mkFS, mkSem, startS, getV, outS, c1, fr_isr]
theorem no_amount {t : T} (h : f_is_ratio.sem [t] = .ok (.bl false) []) : f_check_amount.sem [t] = .ex "BadAmount" [] [] [] := by
  have c1 := callV (avs := [.v t]) rfl rfl h
  simp [f_check_amount, mkFS, mkSem, startS, getV, outS, c1, fr_isr, selV]
theorem chk_size (h : Qr k p) (h0 : 0 < p.1) : f_check_size.sem [tq p] = .ok (tq p) [] := by
  have c1 := callV (avs := [.v (tq p)]) rfl rfl (isr_q h)
  have : ¬ p.1 ≤ 0 := by omega
  simp [f_check_size, mkFS, mkSem, startS, getV, outS, c1, fr_isr, this]
theorem no_size {t : T} (h : f_is_ratio.sem [t] = .ok (.bl false) []) : f_check_size.sem [t] = .ex "BadSize" [] [] [] := by
  have c1 := callV (avs := [.v t]) rfl rfl h
  simp [f_check_size, mkFS, mkSem, startS, getV, outS, c1, fr_isr, selV]
theorem no_size0 (h : Qr k p) (h0 : p.1 ≤ 0) : f_check_size.sem [tq p] = .ex "BadSize" [] [] [] := by
  have c1 := callV (avs := [.v (tq p)]) rfl rfl (isr_q h)
  simp [f_check_size, mkFS, mkSem, startS, getV, outS, c1, fr_isr, h0, selV]
theorem kTry_none {yes no : List Str} {hd : List S} {c : Str} {ns : List Str} {ts : List T} {s1 : Sls} (hy : yes.contains c = true) : kTry yes no none hd (.ex c ns ts s1) = noEx (evSs hd s1) := by
  unfold kTry
  simp only [hy, if_true]
@[simp] theorem noEx_ret (t : T) (s : Sls) : noEx (.ret t s) = .ret t s := rfl
@[simp] theorem noEx_nx (s : Sls) : noEx (.nx s) = .nx s := rfl
theorem in1 (c : Str) : ([c] : List Str).contains c = true := by simp
/-- try: f(thing) except X: return True; return False -/
theorem refuses {g : FS} (hf : g.fresh = false) (hm : g.mu = none) {c : Str} {no : List Str} {nm : Str} {t : T} (h : g.sem [t] = .ex c [] [] []) : (mkFS nm 1 0 none false [.tryS [.expr (.call g (.e (.var 0) (.nil)) [])] [c] no none [.ret (.cst (.bl true))], .ret (.cst (.bl false))]).sem [t] = .ok (.bl true) [] := by
  have c2 := callE (g := g) (ds := []) (avs := [.v t]) hm rfl (by rw [List.append_nil]; exact h)
  refine sem_ret (s0 := [.im t]) (s1 := [.im t]) rfl rfl ?_ rfl
  refine seq_ret ?_
  rw [s_try_]
  have : evSs [.expr (.call g (.e (.var 0) (.nil)) [])] [.im t] = .ex c [] [] [.im t] := by
    simp [getV, hf, c2]
  show kTry _ _ _ _ (evSs [.expr (.call g (.e (.var 0) (.nil)) [])] [.im t]) = _
  rw [this, kTry_none (in1 c)]
  simp
theorem callE0 {g : FS} (hm : g.mu = none) {ts : List T} {avs : List AV} (e : avs = ts.map .v) {c : Str} {ns : List Str} {es o : List T} (h : g.sem ts = .ex c ns es o) (s : Sls) (fin : Bool) : after g avs [] s fin = .ex c ns es s :=
  callE hm e (by rw [List.append_nil]; exact h) s fin
/-! ### directions of steps -/
/-- the step's way, or none -/
theorem w_dir (ht : QP 900 a) (h : ¬ (a.1.1 * a.2.2 = 0 ∧ a.2.1 * a.1.2 = 0)) : f_direction_of.sem [pq a] = .ok (tq (sh (a.1.1 * a.2.2) (a.2.1 * a.1.2))) [] := by
  have m1 := b_mul a.1.1 a.2.2 (ht.x.rt.n.mulOk ht.y.rt.d (by decide))
  have m2 := b_mul a.2.1 a.1.2 (ht.y.rt.n.mulOk ht.x.rt.d (by decide))
  have c := callV (avs := [.v (.int (a.1.1 * a.2.2)), .v (.int (a.2.1 * a.1.2))]) rfl rfl (sh_ok h ((ht.x.rt.n.mul ht.y.rt.d).up (by decide)) ((ht.y.rt.n.mul ht.x.rt.d).up (by decide)))
  simp [f_direction_of, mkFS, mkSem, startS, getV, outS, m1, m2, c, show f_shortened.fresh = false from rfl]
theorem no_dir : f_direction_of.sem [pq ((0, 1), (0, 1))] = .ex "BadDirection" [] [] [] := by
  have m1 := b_mul 0 1 (by decide)
  have c := callE0 (g := f_shortened) (avs := [.v (.int 0), .v (.int 0)]) rfl rfl sh_no
  simp [f_direction_of, mkFS, mkSem, startS, getV, outS, m1, c, show f_shortened.fresh = false from rfl]
def nrm (d : Int × Int) : Int × Int := (d.2, -d.1)
theorem w_normal (ha : QP 300 a) (hc : QP 300 c) (h : ¬ ((stepP a c).1.1 * (stepP a c).2.2 = 0 ∧ (stepP a c).2.1 * (stepP a c).1.2 = 0)) : f_side_normal.sem [pq a, pq c] = .ok (tq (nrm (sh ((stepP a c).1.1 * (stepP a c).2.2) ((stepP a c).2.1 * (stepP a c).1.2)))) [] := by
  have c0 := callV (avs := [.v (pq a), .v (pq c)]) rfl rfl (w_step true true (ha.up (by decide)) (hc.up (by decide)))
  have q := (stepP_q ha hc).up (l := 900) (by decide)
  have c1 := callV (avs := [.v (pq (stepP a c))]) rfl rfl (w_dir q h)
  generalize sh ((stepP a c).1.1 * (stepP a c).2.2) ((stepP a c).2.1 * (stepP a c).1.2) = d at *
  simp [f_side_normal, mkFS, mkSem, startS, getV, outS, setTg_nm, isMp, c0, c1, fr_step, show f_direction_of.fresh = false from rfl, nrm]
theorem step_self (ha : QP k a) : stepP a a = ((0, 1), (0, 1)) := by
  unfold stepP
  rw [sub_self ha.x.pos, sub_self ha.y.pos]
theorem no_normal (ha : QP 300 a) : f_side_normal.sem [pq a, pq a] = .ex "BadDirection" [] [] [] := by
  have c0 := callV (avs := [.v (pq a), .v (pq a)]) rfl rfl (w_step true true (ha.up (by decide)) (ha.up (by decide)))
  rw [step_self ha] at c0
  have c1 := callE0 (g := f_direction_of) (avs := [.v (pq ((0, 1), (0, 1)))]) rfl rfl no_dir
  simp [f_side_normal, mkFS, mkSem, startS, getV, outS, c0, c1, fr_step, show f_direction_of.fresh = false from rfl]
/-- unlike places: a step that is not nothing -/
theorem step_ne (ha : QP k a) (hc : QP l c) (h : a ≠ c) : ¬ ((stepP a c).1.1 * (stepP a c).2.2 = 0 ∧ (stepP a c).2.1 * (stepP a c).1.2 = 0) := by
  have q := stepP_q ha hc
  rintro ⟨h1, h2⟩
  have n1 := q.x.pos
  have n2 := q.y.pos
  have z1 : (stepP a c).1.1 = 0 := by
    rcases Int.mul_eq_zero.mp h1 with z | z
    · exact z
    · omega
  have z2 : (stepP a c).2.1 = 0 := by
    rcases Int.mul_eq_zero.mp h2 with z | z
    · exact z
    · omega
  have e1 := q.x.cop
  have e2 := q.y.cop
  rw [z1] at e1
  rw [z2] at e2
  simp at e1 e2
  have w1 : (stepP a c).1 = (0, 1) := Prod.ext z1 (by show (stepP a c).1.2 = 1; omega)
  have w2 : (stepP a c).2 = (0, 1) := Prod.ext z2 (by show (stepP a c).2.2 = 1; omega)
  have b1 := add_sub ha.x hc.x
  have b2 := add_sub ha.y hc.y
  rw [show sub c.1 a.1 = (0, 1) from w1, add_zero' ha.x.pos ha.x.cop] at b1
  rw [show sub c.2 a.2 = (0, 1) from w2, add_zero' ha.y.pos ha.y.cop] at b2
  exact h (Prod.ext b1 b2)
/-! ### comparing places -/
theorem eqT_pq (a c : Pl) : eqT (pq a) (pq c) = decide (a = c) := by
  simp only [eqT, eqTs, Bool.and_true]
  have e1 := eqT_tq a.1 c.1
  have e2 := eqT_tq a.2 c.2
  simp only [eqT, eqTs, Bool.and_true] at e1 e2
  rw [e1, e2]
  by_cases h : a = c
  · subst h; simp
  · rw [decide_eq_false h]
    by_cases h1 : a.1 = c.1
    · have h2 : ¬ a.2 = c.2 := fun z => h (Prod.ext h1 z)
      rw [decide_eq_false h2, Bool.and_false]
    · rw [decide_eq_false h1, Bool.false_and]
theorem dat_pq (a : Pl) (n : Nat) : dat (n + 2) (pq a) = true := by simp [dat, dats]
theorem ne_pq (a c : Pl) : cop .ne (pq a) (pq c) = some (.bl (!decide (a = c))) := by
  have c' : cop .ne (pq a) (pq c) = if dat 60 (pq a) && dat 60 (pq c) then some (.bl (!eqT (pq a) (pq c))) else none := rfl
  rw [c', dat_pq a 58, dat_pq c 58, eqT_pq]
  rfl
theorem w_tup_pq (a : Pl) : f_Ltuples.sem [pq a] = .ok (.bl true) [] := w_tup (by show 2 ≤ big; decide) fun t ht => by
  simp only [List.mem_cons, List.not_mem_nil, or_false] at ht
  rcases ht with rfl | rfl
  · exact rt_tq 5 a.1
  · exact rt_tq 5 a.2
end KS

namespace K03
open PySem PySem.Spec L2 FL KS
/-! the terms of the text and the readings of its bodies: printed by gen.py -/
def top (i : Nat) : Stmt := PySem.Challenge.pw_feltstone_k03_whole_places_and_amounts.main.body.getD i (.Pass ⟨0, 0, 0, 0⟩)
/-! law_hand -/
abbrev N_Lhand : List Str := ["script", "total", "cells", "cell"]
abbrev sc_Lhand : Scope := defScope (top 34)
theorem v_Lhand_0 : Vr N_Lhand sc_Lhand 0 ("script" : Str) := vr_of (by decide +kernel)
theorem v_Lhand_1 : Vr N_Lhand sc_Lhand 1 ("total" : Str) := vr_of (by decide +kernel)
theorem v_Lhand_2 : Vr N_Lhand sc_Lhand 2 ("cells" : Str) := vr_of (by decide +kernel)
theorem v_Lhand_3 : Vr N_Lhand sc_Lhand 3 ("cell" : Str) := vr_of (by decide +kernel)
theorem g_Lhand_int : Gb sc_Lhand ("int" : Str) := gb_of (by decide +kernel)
theorem g_Lhand_len : Gb sc_Lhand ("len" : Str) := gb_of (by decide +kernel)
theorem b_Lhand {G : Gx} (ho : IsiOk G) (f_int : G.mg "int" = none) (f_len : G.mg "len" = none) : BodyOk G 0 N_Lhand sc_Lhand (defBody (top 34)) ir_Lhand := fun X W B g T hB =>
    (ss_cons (r_asg g T v_Lhand_1 (q_bin g (o := .add) rfl (p_bi g (bb := .len) (fun z => by rcases z with z | z <;> cases z) rfl f_len g_Lhand_len (p_cons (p_var g (v_Lhand_0).f) q_nil rfl) rfl rfl) q_cst_int) rfl)
    (ss_cons (r_asgM g T v_Lhand_2 (q_disp q_nil) rfl)
    (ss_cons (r_for g T (i_seq' g (p_var g (v_Lhand_0).f)) (t_nm g v_Lhand_3 (.inl (T.fn _))) (ss_cons (r_asg g T v_Lhand_1 (q_bin g (o := .mod) rfl (p_bi g (bb := .int) (fun z => by rcases z with z | z <;> cases z) rfl f_int g_Lhand_int (p_cons (q_bin g (o := .add) rfl (q_bin g (o := .mul) rfl (p_var g (v_Lhand_1).f) q_cst_int) (p_bi g (bb := .int) (fun z => by rcases z with z | z <;> cases z) rfl f_int g_Lhand_int (p_cons (p_var g (v_Lhand_3).f) q_nil rfl) rfl rfl)) q_nil rfl) rfl rfl) q_cst_int) rfl)
    (ss_cons (r_app g (v_Lhand_2).f (q_ite (q_cmpT g (o := .ge) rfl (p_var g (v_Lhand_3).f) q_cst_int rfl) (p_bi g (bb := .int) (fun z => by rcases z with z | z <;> cases z) rfl f_int g_Lhand_int (p_cons (p_var g (v_Lhand_3).f) q_nil rfl) rfl rfl) (q_neg (p_bi g (bb := .int) (fun z => by rcases z with z | z <;> cases z) rfl f_int g_Lhand_int (p_cons (p_var g (v_Lhand_3).f) q_nil rfl) rfl rfl))) rfl rfl)
    ss_nil)) (fun _ => rfl))
    (ss_cons (s_retM (q_disp (p_cons (p_var g (v_Lhand_2).f) (p_cons q_cst_int (p_cons q_cst_int (p_cons (p_var g (v_Lhand_1).f) q_nil rfl) rfl) rfl) rfl)))
    ss_nil))))
theorem s_Lhand : FnScope N_Lhand ["script"] sc_Lhand := ⟨by rfl, by rfl, by rfl, by decide +kernel, by rfl, by decide +kernel, by decide +kernel⟩
/-! law_mixed -/
abbrev N_Lmixed : List Str := ["number", "turn", "once", "twice"]
abbrev sc_Lmixed : Scope := defScope (top 35)
theorem v_Lmixed_0 : Vr N_Lmixed sc_Lmixed 0 ("number" : Str) := vr_of (by decide +kernel)
theorem v_Lmixed_1 : Vr N_Lmixed sc_Lmixed 1 ("turn" : Str) := vr_of (by decide +kernel)
theorem v_Lmixed_2 : Vr N_Lmixed sc_Lmixed 2 ("once" : Str) := vr_of (by decide +kernel)
theorem v_Lmixed_3 : Vr N_Lmixed sc_Lmixed 3 ("twice" : Str) := vr_of (by decide +kernel)
theorem g_Lmixed_int : Gb sc_Lmixed ("int" : Str) := gb_of (by decide +kernel)
theorem b_Lmixed {G : Gx} (ho : IsiOk G) (f_int : G.mg "int" = none) : BodyOk G 0 N_Lmixed sc_Lmixed (defBody (top 35)) ir_Lmixed := fun X W B g T hB =>
    (ss_cons (r_asg g T v_Lmixed_2 (q_bin g (o := .mod) rfl (p_bi g (bb := .int) (fun z => by rcases z with z | z <;> cases z) rfl f_int g_Lmixed_int (p_cons (q_bin g (o := .add) rfl (q_bin g (o := .add) rfl (q_bin g (o := .mul) rfl (p_var g (v_Lmixed_0).f) q_cst_int) (q_bin g (o := .mul) rfl (p_var g (v_Lmixed_1).f) q_cst_int)) q_cst_int) q_nil rfl) rfl rfl) q_cst_int) rfl)
    (ss_cons (r_asg g T v_Lmixed_3 (q_bin g (o := .mod) rfl (p_bi g (bb := .int) (fun z => by rcases z with z | z <;> cases z) rfl f_int g_Lmixed_int (p_cons (q_bin g (o := .add) rfl (q_bin g (o := .add) rfl (q_bin g (o := .mul) rfl (p_var g (v_Lmixed_2).f) (p_var g (v_Lmixed_2).f)) (q_bin g (o := .mul) rfl (p_var g (v_Lmixed_1).f) q_cst_int)) (q_bin g (o := .fdiv) rfl (p_var g (v_Lmixed_2).f) q_cst_int)) q_nil rfl) rfl rfl) q_cst_int) rfl)
    (ss_cons (s_ret (q_bin g (o := .fdiv) rfl (p_bi g (bb := .int) (fun z => by rcases z with z | z <;> cases z) rfl f_int g_Lmixed_int (p_cons (q_bin g (o := .mod) rfl (p_bi g (bb := .int) (fun z => by rcases z with z | z <;> cases z) rfl f_int g_Lmixed_int (p_cons (q_bin g (o := .add) rfl (q_bin g (o := .mul) rfl (p_var g (v_Lmixed_3).f) q_cst_int) (q_bin g (o := .fdiv) rfl (p_var g (v_Lmixed_2).f) q_cst_int)) q_nil rfl) rfl rfl) q_cst_int) q_nil rfl) rfl rfl) q_cst_int))
    ss_nil)))
theorem s_Lmixed : FnScope N_Lmixed ["number", "turn"] sc_Lmixed := ⟨by rfl, by rfl, by rfl, by decide +kernel, by rfl, by decide +kernel, by decide +kernel⟩
/-! law_take -/
abbrev N_Ltake : List Str := ["hand", "many", "cell", "rest"]
abbrev sc_Ltake : Scope := defScope (top 36)
theorem v_Ltake_0 : Vr N_Ltake sc_Ltake 0 ("hand" : Str) := vr_of (by decide +kernel)
theorem v_Ltake_1 : Vr N_Ltake sc_Ltake 1 ("many" : Str) := vr_of (by decide +kernel)
theorem v_Ltake_2 : Vr N_Ltake sc_Ltake 2 ("cell" : Str) := vr_of (by decide +kernel)
theorem v_Ltake_3 : Vr N_Ltake sc_Ltake 3 ("rest" : Str) := vr_of (by decide +kernel)
theorem g_Ltake_Lmixed : Gb sc_Ltake ("_law_mixed" : Str) := gb_of (by decide +kernel)
theorem g_Ltake_int : Gb sc_Ltake ("int" : Str) := gb_of (by decide +kernel)
theorem g_Ltake_len : Gb sc_Ltake ("len" : Str) := gb_of (by decide +kernel)
theorem b_Ltake {G : Gx} (ho : IsiOk G) (f_int : G.mg "int" = none) (f_len : G.mg "len" = none) (h_Lmixed : HasFn G 1 f_Lmixed []) : BodyOk G 1 N_Ltake sc_Ltake (defBody (top 36)) ir_Ltake := fun X W B g T hB =>
    (ss_cons (s_if (q_boT (q_andT (q_cmpT g (o := .eq) rfl (p_idxB g (v_Ltake_0).f q_cst_int rfl) q_cst_int rfl) (q_bo1T (by simp) (q_cmpT g (o := .lt) rfl (p_idxB g (v_Ltake_0).f q_cst_int rfl) (p_bi g (bb := .len) (fun z => by rcases z with z | z <;> cases z) rfl f_len g_Ltake_len (p_cons (p_idxB g (v_Ltake_0).f q_cst_int rfl) q_nil rfl) rfl rfl) rfl)))) (ss_cons (r_asg g T v_Ltake_2 (p_idx g (p_idxB g (v_Ltake_0).f q_cst_int rfl) (p_idxB g (v_Ltake_0).f q_cst_int rfl) rfl) rfl)
    (ss_cons (r_setI g (v_Ltake_0).f q_cst_int (q_bin g (o := .add) rfl (p_idxB g (v_Ltake_0).f q_cst_int rfl) q_cst_int) (fun _ => rfl) rfl)
    (ss_cons (s_if (q_cmpT g (o := .lt) rfl (p_var g (v_Ltake_2).f) (q_bin g (o := .pow) rfl q_cst_int q_cst_int) rfl) (ss_cons (s_ret (q_bin g (o := .mod) rfl (p_bi g (bb := .int) (fun z => by rcases z with z | z <;> cases z) rfl f_int g_Ltake_int (p_cons (p_call g rfl h_Lmixed g_Ltake_Lmixed (p_ae (q_bin g (o := .mod) rfl (p_bi g (bb := .int) (fun z => by rcases z with z | z <;> cases z) rfl f_int g_Ltake_int (p_cons (p_var g (v_Ltake_2).f) q_nil rfl) rfl rfl) q_cst_int) (p_ae (p_idxB g (v_Ltake_0).f q_cst_int rfl) q_an rfl) rfl) rfl rfl) q_nil rfl) rfl rfl) (p_var g (v_Ltake_1).f)))
    ss_nil) ss_nil)
    (ss_cons (r_setI g (v_Ltake_0).f q_cst_int (p_var g (v_Ltake_2).f) (fun _ => rfl) rfl)
    ss_nil)))) ss_nil)
    (ss_cons (s_if (q_cmpT g (o := .gt) rfl (p_idxB g (v_Ltake_0).f q_cst_int rfl) q_cst_int rfl) (ss_cons (r_asg g T v_Ltake_3 (p_idxB g (v_Ltake_0).f q_cst_int rfl) rfl)
    (ss_cons (r_setI g (v_Ltake_0).f q_cst_int (q_bin g (o := .fdiv) rfl (p_bi g (bb := .int) (fun z => by rcases z with z | z <;> cases z) rfl f_int g_Ltake_int (p_cons (p_var g (v_Ltake_3).f) q_nil rfl) rfl rfl) (p_var g (v_Ltake_1).f)) (fun _ => rfl) rfl)
    (ss_cons (s_ret (q_bin g (o := .mod) rfl (p_bi g (bb := .int) (fun z => by rcases z with z | z <;> cases z) rfl f_int g_Ltake_int (p_cons (p_var g (v_Ltake_3).f) q_nil rfl) rfl rfl) (p_var g (v_Ltake_1).f)))
    ss_nil))) ss_nil)
    (ss_cons (r_setI g (v_Ltake_0).f q_cst_int (q_bin g (o := .mod) rfl (p_bi g (bb := .int) (fun z => by rcases z with z | z <;> cases z) rfl f_int g_Ltake_int (p_cons (q_bin g (o := .add) rfl (p_idxB g (v_Ltake_0).f q_cst_int rfl) q_cst_int) q_nil rfl) rfl rfl) q_cst_int) (fun _ => rfl) rfl)
    (ss_cons (s_ret (q_bin g (o := .mod) rfl (p_bi g (bb := .int) (fun z => by rcases z with z | z <;> cases z) rfl f_int g_Ltake_int (p_cons (p_call g rfl h_Lmixed g_Ltake_Lmixed (p_ae (p_idxB g (v_Ltake_0).f q_cst_int rfl) (p_ae (p_idxB g (v_Ltake_0).f q_cst_int rfl) q_an rfl) rfl) rfl rfl) q_nil rfl) rfl rfl) (p_var g (v_Ltake_1).f)))
    ss_nil))))
theorem s_Ltake : FnScope N_Ltake ["hand", "many"] sc_Ltake := ⟨by rfl, by rfl, by rfl, by decide +kernel, by rfl, by decide +kernel, by decide +kernel⟩
/-! law_way -/
abbrev N_Lway : List Str := ["hand", "rows"]
abbrev sc_Lway : Scope := defScope (top 45)
theorem v_Lway_0 : Vr N_Lway sc_Lway 0 ("hand" : Str) := vr_of (by decide +kernel)
theorem v_Lway_1 : Vr N_Lway sc_Lway 1 ("rows" : Str) := vr_of (by decide +kernel)
theorem g_Lway_Ltake : Gb sc_Lway ("_law_take" : Str) := gb_of (by decide +kernel)
theorem b_Lway {G : Gx} (ho : IsiOk G) (h_Ltake : HasFn G 2 f_Ltake []) : BodyOk G 2 N_Lway sc_Lway (defBody (top 45)) ir_Lway := fun X W B g T hB =>
    (ss_cons (r_asg g T v_Lway_1 (q_frz (q_disp (p_cons (q_tup (p_cons q_cst_int (p_cons q_cst_int q_nil rfl) rfl)) (p_cons (q_tup (p_cons q_cst_int (p_cons q_cst_int q_nil rfl) rfl)) (p_cons (q_tup (p_cons (q_neg q_cst_int) (p_cons q_cst_int q_nil rfl) rfl)) (p_cons (q_tup (p_cons q_cst_int (p_cons (q_neg q_cst_int) q_nil rfl) rfl)) (p_cons (q_tup (p_cons q_cst_int (p_cons q_cst_int q_nil rfl) rfl)) (p_cons (q_tup (p_cons (q_neg q_cst_int) (p_cons q_cst_int q_nil rfl) rfl)) (p_cons (q_tup (p_cons (q_neg q_cst_int) (p_cons (q_neg q_cst_int) q_nil rfl) rfl)) (p_cons (q_tup (p_cons q_cst_int (p_cons (q_neg q_cst_int) q_nil rfl) rfl)) q_nil rfl) rfl) rfl) rfl) rfl) rfl) rfl) rfl))) rfl)
    (ss_cons (r_asg g T v_Lway_1 (q_frz (q_cat (p_var g (v_Lway_1).f) (q_frz (q_disp (p_cons (q_tup (p_cons q_cst_int (p_cons q_cst_int q_nil rfl) rfl)) (p_cons (q_tup (p_cons q_cst_int (p_cons q_cst_int q_nil rfl) rfl)) (p_cons (q_tup (p_cons (q_neg q_cst_int) (p_cons q_cst_int q_nil rfl) rfl)) (p_cons (q_tup (p_cons (q_neg q_cst_int) (p_cons q_cst_int q_nil rfl) rfl)) (p_cons (q_tup (p_cons (q_neg q_cst_int) (p_cons (q_neg q_cst_int) q_nil rfl) rfl)) (p_cons (q_tup (p_cons (q_neg q_cst_int) (p_cons (q_neg q_cst_int) q_nil rfl) rfl)) (p_cons (q_tup (p_cons q_cst_int (p_cons (q_neg q_cst_int) q_nil rfl) rfl)) (p_cons (q_tup (p_cons q_cst_int (p_cons (q_neg q_cst_int) q_nil rfl) rfl)) q_nil rfl) rfl) rfl) rfl) rfl) rfl) rfl) rfl))))) rfl)
    (ss_cons (s_ret (p_idx g (p_var g (v_Lway_1).f) (p_call g rfl h_Ltake g_Lway_Ltake (p_ab g (v_Lway_0).f (p_ae q_cst_int q_an rfl)) rfl rfl) rfl))
    ss_nil)))
theorem s_Lway : FnScope N_Lway ["hand"] sc_Lway := ⟨by rfl, by rfl, by rfl, by decide +kernel, by rfl, by decide +kernel, by decide +kernel⟩
/-! law_number -/
abbrev N_Lnumber : List Str := ["hand", "kind", "total", "turn"]
abbrev sc_Lnumber : Scope := defScope (top 46)
theorem v_Lnumber_0 : Vr N_Lnumber sc_Lnumber 0 ("hand" : Str) := vr_of (by decide +kernel)
theorem v_Lnumber_1 : Vr N_Lnumber sc_Lnumber 1 ("kind" : Str) := vr_of (by decide +kernel)
theorem v_Lnumber_2 : Vr N_Lnumber sc_Lnumber 2 ("total" : Str) := vr_of (by decide +kernel)
theorem v_Lnumber_3 : Vr N_Lnumber sc_Lnumber 3 ("turn" : Str) := vr_of (by decide +kernel)
theorem g_Lnumber_Ltake : Gb sc_Lnumber ("_law_take" : Str) := gb_of (by decide +kernel)
theorem g_Lnumber_range : Gb sc_Lnumber ("range" : Str) := gb_of (by decide +kernel)
theorem b_Lnumber {G : Gx} (ho : IsiOk G) (f_range : G.mg "range" = none) (h_Ltake : HasFn G 2 f_Ltake []) : BodyOk G 2 N_Lnumber sc_Lnumber (defBody (top 46)) ir_Lnumber := fun X W B g T hB =>
    (ss_cons (r_asg g T v_Lnumber_1 (p_call g rfl h_Ltake g_Lnumber_Ltake (p_ab g (v_Lnumber_0).f (p_ae q_cst_int q_an rfl)) rfl rfl) rfl)
    (ss_cons (s_if (q_cmpT g (o := .lt) rfl (p_var g (v_Lnumber_1).f) q_cst_int rfl) (ss_cons (s_ret (q_bin g (o := .sub) rfl (p_call g rfl h_Ltake g_Lnumber_Ltake (p_ab g (v_Lnumber_0).f (p_ae q_cst_int q_an rfl)) rfl rfl) q_cst_int))
    ss_nil) ss_nil)
    (ss_cons (r_asg g T v_Lnumber_2 q_cst_int rfl)
    (ss_cons (r_for g T (i_rng1' g f_range g_Lnumber_range (q_ite (q_cmpT g (o := .lt) rfl (p_var g (v_Lnumber_1).f) q_cst_int rfl) q_cst_int q_cst_int) rfl) (t_nm g v_Lnumber_3 (.inl (T.fn _))) (ss_cons (r_asg g T v_Lnumber_2 (q_bin g (o := .add) rfl (q_bin g (o := .mul) rfl (p_var g (v_Lnumber_2).f) (q_bin g (o := .pow) rfl q_cst_int q_cst_int)) (p_call g rfl h_Ltake g_Lnumber_Ltake (p_ab g (v_Lnumber_0).f (p_ae (q_bin g (o := .pow) rfl q_cst_int q_cst_int) q_an rfl)) rfl rfl)) rfl)
    ss_nil) (fun _ => rfl))
    (ss_cons (s_ret (q_bin g (o := .mul) rfl (p_var g (v_Lnumber_2).f) (q_bin g (o := .sub) rfl q_cst_int (q_bin g (o := .mul) rfl q_cst_int (p_call g rfl h_Ltake g_Lnumber_Ltake (p_ab g (v_Lnumber_0).f (p_ae q_cst_int q_an rfl)) rfl rfl)))))
    ss_nil)))))
theorem s_Lnumber : FnScope N_Lnumber ["hand"] sc_Lnumber := ⟨by rfl, by rfl, by rfl, by decide +kernel, by rfl, by decide +kernel, by decide +kernel⟩
/-! law_gcd -/
abbrev N_Lgcd : List Str := ["one", "other"]
abbrev sc_Lgcd : Scope := defScope (top 37)
theorem v_Lgcd_0 : Vr N_Lgcd sc_Lgcd 0 ("one" : Str) := vr_of (by decide +kernel)
theorem v_Lgcd_1 : Vr N_Lgcd sc_Lgcd 1 ("other" : Str) := vr_of (by decide +kernel)
theorem g_Lgcd_abs : Gb sc_Lgcd ("abs" : Str) := gb_of (by decide +kernel)
theorem g_Lgcd_int : Gb sc_Lgcd ("int" : Str) := gb_of (by decide +kernel)
theorem b_Lgcd {G : Gx} (ho : IsiOk G) (f_abs : G.mg "abs" = none) (f_int : G.mg "int" = none) : BodyOk G 0 N_Lgcd sc_Lgcd (defBody (top 37)) ir_Lgcd := fun X W B g T hB =>
    (ss_cons (r_par g v_Lgcd_0 v_Lgcd_1 (by decide) (by decide +kernel) (by decide +kernel) (p_bi g (bb := .abs) (fun z => by rcases z with z | z <;> cases z) rfl f_abs g_Lgcd_abs (p_cons (p_var g (v_Lgcd_0).f) q_nil rfl) rfl rfl) (p_bi g (bb := .abs) (fun z => by rcases z with z | z <;> cases z) rfl f_abs g_Lgcd_abs (p_cons (p_var g (v_Lgcd_1).f) q_nil rfl) rfl rfl) rfl rfl (sw_par g (by decide +kernel) (by decide +kernel) (by decide +kernel) (by decide +kernel) rfl rfl rfl rfl rfl))
    (ss_cons (r_whl T (q_ce g.hK (p_var g (v_Lgcd_1).f) (fun _ => rfl)) (ss_cons (r_par g v_Lgcd_0 v_Lgcd_1 (by decide) (by decide +kernel) (by decide +kernel) (p_var g (v_Lgcd_1).f) (q_bin g (o := .mod) rfl (p_bi g (bb := .int) (fun z => by rcases z with z | z <;> cases z) rfl f_int g_Lgcd_int (p_cons (p_var g (v_Lgcd_0).f) q_nil rfl) rfl rfl) (p_var g (v_Lgcd_1).f)) rfl rfl (sw_par g (by decide +kernel) (by decide +kernel) (by decide +kernel) (by decide +kernel) rfl rfl rfl rfl rfl))
    ss_nil))
    (ss_cons (s_ret (p_var g (v_Lgcd_0).f))
    ss_nil)))
theorem s_Lgcd : FnScope N_Lgcd ["one", "other"] sc_Lgcd := ⟨by rfl, by rfl, by rfl, by decide +kernel, by rfl, by decide +kernel, by decide +kernel⟩
/-! law_direction -/
abbrev N_Ldirection : List Str := ["x", "y", "part"]
abbrev sc_Ldirection : Scope := defScope (top 43)
theorem v_Ldirection_0 : Vr N_Ldirection sc_Ldirection 0 ("x" : Str) := vr_of (by decide +kernel)
theorem v_Ldirection_1 : Vr N_Ldirection sc_Ldirection 1 ("y" : Str) := vr_of (by decide +kernel)
theorem v_Ldirection_2 : Vr N_Ldirection sc_Ldirection 2 ("part" : Str) := vr_of (by decide +kernel)
theorem g_Ldirection_Lgcd : Gb sc_Ldirection ("_law_gcd" : Str) := gb_of (by decide +kernel)
theorem b_Ldirection {G : Gx} (ho : IsiOk G) (h_Lgcd : HasFn G 1 f_Lgcd []) : BodyOk G 1 N_Ldirection sc_Ldirection (defBody (top 43)) ir_Ldirection := fun X W B g T hB =>
    (ss_cons (r_asg g T v_Ldirection_2 (p_call g rfl h_Lgcd g_Ldirection_Lgcd (p_ae (p_var g (v_Ldirection_0).f) (p_ae (p_var g (v_Ldirection_1).f) q_an rfl) rfl) rfl rfl) rfl)
    (ss_cons (s_ret (q_tup (p_cons (q_bin g (o := .fdiv) rfl (p_var g (v_Ldirection_0).f) (p_var g (v_Ldirection_2).f)) (p_cons (q_bin g (o := .fdiv) rfl (p_var g (v_Ldirection_1).f) (p_var g (v_Ldirection_2).f)) q_nil rfl) rfl)))
    ss_nil))
theorem s_Ldirection : FnScope N_Ldirection ["x", "y"] sc_Ldirection := ⟨by rfl, by rfl, by rfl, by decide +kernel, by rfl, by decide +kernel, by decide +kernel⟩
/-! law_any_way -/
abbrev N_Lany_way : List Str := ["hand", "x", "y"]
abbrev sc_Lany_way : Scope := defScope (top 50)
theorem v_Lany_way_0 : Vr N_Lany_way sc_Lany_way 0 ("hand" : Str) := vr_of (by decide +kernel)
theorem v_Lany_way_1 : Vr N_Lany_way sc_Lany_way 1 ("x" : Str) := vr_of (by decide +kernel)
theorem v_Lany_way_2 : Vr N_Lany_way sc_Lany_way 2 ("y" : Str) := vr_of (by decide +kernel)
theorem g_Lany_way_Ldirection : Gb sc_Lany_way ("_law_direction" : Str) := gb_of (by decide +kernel)
theorem g_Lany_way_Lnumber : Gb sc_Lany_way ("_law_number" : Str) := gb_of (by decide +kernel)
theorem g_Lany_way_Ltake : Gb sc_Lany_way ("_law_take" : Str) := gb_of (by decide +kernel)
theorem g_Lany_way_Lway : Gb sc_Lany_way ("_law_way" : Str) := gb_of (by decide +kernel)
theorem b_Lany_way {G : Gx} (ho : IsiOk G) (h_Ldirection : HasFn G 3 f_Ldirection []) (h_Lnumber : HasFn G 3 f_Lnumber []) (h_Ltake : HasFn G 3 f_Ltake []) (h_Lway : HasFn G 3 f_Lway []) : BodyOk G 3 N_Lany_way sc_Lany_way (defBody (top 50)) ir_Lany_way := fun X W B g T hB =>
    (ss_cons (s_if (q_ce g.hK (p_call g rfl h_Ltake g_Lany_way_Ltake (p_ab g (v_Lany_way_0).f (p_ae q_cst_int q_an rfl)) rfl rfl) (fun _ => rfl)) (ss_cons (s_ret (p_call g rfl h_Lway g_Lany_way_Lway (p_ab g (v_Lany_way_0).f q_an) rfl rfl))
    ss_nil) ss_nil)
    (ss_cons (r_par g v_Lany_way_1 v_Lany_way_2 (by decide) (by decide +kernel) (by decide +kernel) (p_call g rfl h_Lnumber g_Lany_way_Lnumber (p_ab g (v_Lany_way_0).f q_an) rfl rfl) (p_call g rfl h_Lnumber g_Lany_way_Lnumber (p_ab g (v_Lany_way_0).f q_an) rfl rfl) rfl rfl (sw_par g (by decide +kernel) (by decide +kernel) (by decide +kernel) (by decide +kernel) rfl rfl rfl rfl rfl))
    (ss_cons (s_ret (q_ite (q_boT (q_andT (q_cmpT g (o := .eq) rfl (p_var g (v_Lany_way_1).f) q_cst_int rfl) (q_bo1T (by simp) (q_cmpT g (o := .eq) rfl (p_var g (v_Lany_way_2).f) q_cst_int rfl)))) (q_tup (p_cons q_cst_int (p_cons (q_neg q_cst_int) q_nil rfl) rfl)) (p_call g rfl h_Ldirection g_Lany_way_Ldirection (p_ae (p_var g (v_Lany_way_1).f) (p_ae (p_var g (v_Lany_way_2).f) q_an rfl) rfl) rfl rfl)))
    ss_nil)))
theorem s_Lany_way : FnScope N_Lany_way ["hand"] sc_Lany_way := ⟨by rfl, by rfl, by rfl, by decide +kernel, by rfl, by decide +kernel, by decide +kernel⟩
/-! in_lowest -/
abbrev N_in_lowest : List Str := ["top", "bottom", "shared"]
abbrev sc_in_lowest : Scope := defScope (top 11)
theorem v_in_lowest_0 : Vr N_in_lowest sc_in_lowest 0 ("top" : Str) := vr_of (by decide +kernel)
theorem v_in_lowest_1 : Vr N_in_lowest sc_in_lowest 1 ("bottom" : Str) := vr_of (by decide +kernel)
theorem v_in_lowest_2 : Vr N_in_lowest sc_in_lowest 2 ("shared" : Str) := vr_of (by decide +kernel)
theorem g_in_lowest_gcd : Gb sc_in_lowest ("gcd" : Str) := gb_of (by decide +kernel)
theorem b_in_lowest {G : Gx} (ho : IsiOk G) (f_gcd : G.mg "gcd" = some (.builtin "math.gcd")) : BodyOk G 0 N_in_lowest sc_in_lowest (defBody (top 11)) ir_in_lowest := fun X W B g T hB =>
    (ss_cons (r_asg g T v_in_lowest_2 (p_bi g (bb := .gcd) (fun z => by rcases z with z | z <;> cases z) rfl f_gcd g_in_lowest_gcd (p_cons (p_var g (v_in_lowest_0).f) (p_cons (p_var g (v_in_lowest_1).f) q_nil rfl) rfl) rfl rfl) rfl)
    (ss_cons (s_if (q_cmpT g (o := .lt) rfl (p_var g (v_in_lowest_1).f) q_cst_int rfl) (ss_cons (r_asg g T v_in_lowest_2 (q_neg (p_var g (v_in_lowest_2).f)) rfl)
    ss_nil) ss_nil)
    (ss_cons (s_ret (q_tup (p_cons (q_bin g (o := .fdiv) rfl (p_var g (v_in_lowest_0).f) (p_var g (v_in_lowest_2).f)) (p_cons (q_bin g (o := .fdiv) rfl (p_var g (v_in_lowest_1).f) (p_var g (v_in_lowest_2).f)) q_nil rfl) rfl)))
    ss_nil)))
theorem s_in_lowest : FnScope N_in_lowest ["top", "bottom"] sc_in_lowest := ⟨by rfl, by rfl, by rfl, by decide +kernel, by rfl, by decide +kernel, by decide +kernel⟩
/-! amount_at -/
abbrev N_amount_at : List Str := ["direction", "place", "x_top", "x_bottom", "y_top", "y_bottom"]
abbrev sc_amount_at : Scope := defScope (top 23)
theorem v_amount_at_0 : Vr N_amount_at sc_amount_at 0 ("direction" : Str) := vr_of (by decide +kernel)
theorem v_amount_at_1 : Vr N_amount_at sc_amount_at 1 ("place" : Str) := vr_of (by decide +kernel)
theorem v_amount_at_2 : Vr N_amount_at sc_amount_at 2 ("x_top" : Str) := vr_of (by decide +kernel)
theorem v_amount_at_3 : Vr N_amount_at sc_amount_at 3 ("x_bottom" : Str) := vr_of (by decide +kernel)
theorem v_amount_at_4 : Vr N_amount_at sc_amount_at 4 ("y_top" : Str) := vr_of (by decide +kernel)
theorem v_amount_at_5 : Vr N_amount_at sc_amount_at 5 ("y_bottom" : Str) := vr_of (by decide +kernel)
theorem g_amount_at_in_lowest : Gb sc_amount_at ("in_lowest" : Str) := gb_of (by decide +kernel)
theorem b_amount_at {G : Gx} (ho : IsiOk G) (h_in_lowest : HasFn G 1 f_in_lowest []) : BodyOk G 1 N_amount_at sc_amount_at (defBody (top 23)) ir_amount_at := fun X W B g T hB =>
    (ss_cons (s_asgG (p_var g (v_amount_at_1).f) (t_tp g (g_cons (t_tp g (g_cons (t_nm g v_amount_at_2 (.inl (T.fn _))) (g_cons (t_nm g v_amount_at_3 (.inl (T.fn _))) g_nil rfl) rfl) rfl rfl) (g_cons (t_tp g (g_cons (t_nm g v_amount_at_4 (.inl (T.fn _))) (g_cons (t_nm g v_amount_at_5 (.inl (T.fn _))) g_nil rfl) rfl) rfl rfl) g_nil rfl) rfl) rfl rfl) rfl rfl rfl)
    (ss_cons (s_ret (p_call g rfl h_in_lowest g_amount_at_in_lowest (p_ae (q_bin g (o := .add) rfl (q_bin g (o := .mul) rfl (q_bin g (o := .mul) rfl (p_idx g (p_var g (v_amount_at_0).f) q_cst_int rfl) (p_var g (v_amount_at_2).f)) (p_var g (v_amount_at_5).f)) (q_bin g (o := .mul) rfl (q_bin g (o := .mul) rfl (p_idx g (p_var g (v_amount_at_0).f) q_cst_int rfl) (p_var g (v_amount_at_4).f)) (p_var g (v_amount_at_3).f))) (p_ae (q_bin g (o := .mul) rfl (p_var g (v_amount_at_3).f) (p_var g (v_amount_at_5).f)) q_an rfl) rfl) rfl rfl))
    ss_nil))
theorem s_amount_at : FnScope N_amount_at ["direction", "place"] sc_amount_at := ⟨by rfl, by rfl, by rfl, by decide +kernel, by rfl, by decide +kernel, by decide +kernel⟩
/-! minus -/
abbrev N_minus : List Str := ["one", "other"]
abbrev sc_minus : Scope := defScope (top 13)
theorem v_minus_0 : Vr N_minus sc_minus 0 ("one" : Str) := vr_of (by decide +kernel)
theorem v_minus_1 : Vr N_minus sc_minus 1 ("other" : Str) := vr_of (by decide +kernel)
theorem g_minus_in_lowest : Gb sc_minus ("in_lowest" : Str) := gb_of (by decide +kernel)
theorem b_minus {G : Gx} (ho : IsiOk G) (h_in_lowest : HasFn G 1 f_in_lowest []) : BodyOk G 1 N_minus sc_minus (defBody (top 13)) ir_minus := fun X W B g T hB =>
    (ss_cons (s_ret (p_call g rfl h_in_lowest g_minus_in_lowest (p_ae (q_bin g (o := .sub) rfl (q_bin g (o := .mul) rfl (p_idx g (p_var g (v_minus_0).f) q_cst_int rfl) (p_idx g (p_var g (v_minus_1).f) q_cst_int rfl)) (q_bin g (o := .mul) rfl (p_idx g (p_var g (v_minus_1).f) q_cst_int rfl) (p_idx g (p_var g (v_minus_0).f) q_cst_int rfl))) (p_ae (q_bin g (o := .mul) rfl (p_idx g (p_var g (v_minus_0).f) q_cst_int rfl) (p_idx g (p_var g (v_minus_1).f) q_cst_int rfl)) q_an rfl) rfl) rfl rfl))
    ss_nil)
theorem s_minus : FnScope N_minus ["one", "other"] sc_minus := ⟨by rfl, by rfl, by rfl, by decide +kernel, by rfl, by decide +kernel, by decide +kernel⟩
/-! step_from -/
abbrev N_step_from : List Str := ["one", "other"]
abbrev sc_step_from : Scope := defScope (top 24)
theorem v_step_from_0 : Vr N_step_from sc_step_from 0 ("one" : Str) := vr_of (by decide +kernel)
theorem v_step_from_1 : Vr N_step_from sc_step_from 1 ("other" : Str) := vr_of (by decide +kernel)
theorem g_step_from_minus : Gb sc_step_from ("minus" : Str) := gb_of (by decide +kernel)
theorem b_step_from {G : Gx} (ho : IsiOk G) (h_minus : HasFn G 2 f_minus []) : BodyOk G 2 N_step_from sc_step_from (defBody (top 24)) ir_step_from := fun X W B g T hB =>
    (ss_cons (s_ret (q_tup (p_cons (p_call g rfl h_minus g_step_from_minus (p_ae (p_idx g (p_var g (v_step_from_1).f) q_cst_int rfl) (p_ae (p_idx g (p_var g (v_step_from_0).f) q_cst_int rfl) q_an rfl) rfl) rfl rfl) (p_cons (p_call g rfl h_minus g_step_from_minus (p_ae (p_idx g (p_var g (v_step_from_1).f) q_cst_int rfl) (p_ae (p_idx g (p_var g (v_step_from_0).f) q_cst_int rfl) q_an rfl) rfl) rfl rfl) q_nil rfl) rfl)))
    ss_nil)
theorem s_step_from : FnScope N_step_from ["one", "other"] sc_step_from := ⟨by rfl, by rfl, by rfl, by decide +kernel, by rfl, by decide +kernel, by decide +kernel⟩
/-! law_ratio -/
abbrev N_Lratio : List Str := ["top", "bottom", "part"]
abbrev sc_Lratio : Scope := defScope (top 38)
theorem v_Lratio_0 : Vr N_Lratio sc_Lratio 0 ("top" : Str) := vr_of (by decide +kernel)
theorem v_Lratio_1 : Vr N_Lratio sc_Lratio 1 ("bottom" : Str) := vr_of (by decide +kernel)
theorem v_Lratio_2 : Vr N_Lratio sc_Lratio 2 ("part" : Str) := vr_of (by decide +kernel)
theorem g_Lratio_Lgcd : Gb sc_Lratio ("_law_gcd" : Str) := gb_of (by decide +kernel)
theorem b_Lratio {G : Gx} (ho : IsiOk G) (h_Lgcd : HasFn G 1 f_Lgcd []) : BodyOk G 1 N_Lratio sc_Lratio (defBody (top 38)) ir_Lratio := fun X W B g T hB =>
    (ss_cons (r_asg g T v_Lratio_2 (p_call g rfl h_Lgcd g_Lratio_Lgcd (p_ae (p_var g (v_Lratio_0).f) (p_ae (p_var g (v_Lratio_1).f) q_an rfl) rfl) rfl rfl) rfl)
    (ss_cons (s_if (q_cmpT g (o := .lt) rfl (p_var g (v_Lratio_1).f) q_cst_int rfl) (ss_cons (r_asg g T v_Lratio_2 (q_neg (p_var g (v_Lratio_2).f)) rfl)
    ss_nil) ss_nil)
    (ss_cons (s_ret (q_tup (p_cons (q_bin g (o := .fdiv) rfl (p_var g (v_Lratio_0).f) (p_var g (v_Lratio_2).f)) (p_cons (q_bin g (o := .fdiv) rfl (p_var g (v_Lratio_1).f) (p_var g (v_Lratio_2).f)) q_nil rfl) rfl)))
    ss_nil)))
theorem s_Lratio : FnScope N_Lratio ["top", "bottom"] sc_Lratio := ⟨by rfl, by rfl, by rfl, by decide +kernel, by rfl, by decide +kernel, by decide +kernel⟩
/-! law_small -/
abbrev N_Lsmall : List Str := ["hand"]
abbrev sc_Lsmall : Scope := defScope (top 48)
theorem v_Lsmall_0 : Vr N_Lsmall sc_Lsmall 0 ("hand" : Str) := vr_of (by decide +kernel)
theorem g_Lsmall_Lratio : Gb sc_Lsmall ("_law_ratio" : Str) := gb_of (by decide +kernel)
theorem g_Lsmall_Ltake : Gb sc_Lsmall ("_law_take" : Str) := gb_of (by decide +kernel)
theorem b_Lsmall {G : Gx} (ho : IsiOk G) (h_Lratio : HasFn G 2 f_Lratio []) (h_Ltake : HasFn G 2 f_Ltake []) : BodyOk G 2 N_Lsmall sc_Lsmall (defBody (top 48)) ir_Lsmall := fun X W B g T hB =>
    (ss_cons (s_ret (p_call g rfl h_Lratio g_Lsmall_Lratio (p_ae (q_bin g (o := .sub) rfl (p_call g rfl h_Ltake g_Lsmall_Ltake (p_ab g (v_Lsmall_0).f (p_ae q_cst_int q_an rfl)) rfl rfl) q_cst_int) (p_ae (q_bin g (o := .add) rfl q_cst_int (p_call g rfl h_Ltake g_Lsmall_Ltake (p_ab g (v_Lsmall_0).f (p_ae q_cst_int q_an rfl)) rfl rfl)) q_an rfl) rfl) rfl rfl))
    ss_nil)
theorem s_Lsmall : FnScope N_Lsmall ["hand"] sc_Lsmall := ⟨by rfl, by rfl, by rfl, by decide +kernel, by rfl, by decide +kernel, by decide +kernel⟩
/-! law_place -/
abbrev N_Lplace : List Str := ["hand"]
abbrev sc_Lplace : Scope := defScope (top 49)
theorem v_Lplace_0 : Vr N_Lplace sc_Lplace 0 ("hand" : Str) := vr_of (by decide +kernel)
theorem g_Lplace_Lnumber : Gb sc_Lplace ("_law_number" : Str) := gb_of (by decide +kernel)
theorem g_Lplace_Lratio : Gb sc_Lplace ("_law_ratio" : Str) := gb_of (by decide +kernel)
theorem g_Lplace_Lsmall : Gb sc_Lplace ("_law_small" : Str) := gb_of (by decide +kernel)
theorem g_Lplace_Ltake : Gb sc_Lplace ("_law_take" : Str) := gb_of (by decide +kernel)
theorem b_Lplace {G : Gx} (ho : IsiOk G) (h_Lnumber : HasFn G 3 f_Lnumber []) (h_Lratio : HasFn G 3 f_Lratio []) (h_Lsmall : HasFn G 3 f_Lsmall []) (h_Ltake : HasFn G 3 f_Ltake []) : BodyOk G 3 N_Lplace sc_Lplace (defBody (top 49)) ir_Lplace := fun X W B g T hB =>
    (ss_cons (s_if (q_ce g.hK (p_call g rfl h_Ltake g_Lplace_Ltake (p_ab g (v_Lplace_0).f (p_ae q_cst_int q_an rfl)) rfl rfl) (fun _ => rfl)) (ss_cons (s_ret (q_tup (p_cons (p_call g rfl h_Lsmall g_Lplace_Lsmall (p_ab g (v_Lplace_0).f q_an) rfl rfl) (p_cons (p_call g rfl h_Lsmall g_Lplace_Lsmall (p_ab g (v_Lplace_0).f q_an) rfl rfl) q_nil rfl) rfl)))
    ss_nil) ss_nil)
    (ss_cons (s_ret (q_tup (p_cons (p_call g rfl h_Lratio g_Lplace_Lratio (p_ae (p_call g rfl h_Lnumber g_Lplace_Lnumber (p_ab g (v_Lplace_0).f q_an) rfl rfl) (p_ae (q_bin g (o := .add) rfl q_cst_int (p_call g rfl h_Ltake g_Lplace_Ltake (p_ab g (v_Lplace_0).f (p_ae q_cst_int q_an rfl)) rfl rfl)) q_an rfl) rfl) rfl rfl) (p_cons (p_call g rfl h_Lratio g_Lplace_Lratio (p_ae (p_call g rfl h_Lnumber g_Lplace_Lnumber (p_ab g (v_Lplace_0).f q_an) rfl rfl) (p_ae (q_bin g (o := .add) rfl q_cst_int (p_call g rfl h_Ltake g_Lplace_Ltake (p_ab g (v_Lplace_0).f (p_ae q_cst_int q_an rfl)) rfl rfl)) q_an rfl) rfl) rfl rfl) q_nil rfl) rfl)))
    ss_nil))
theorem s_Lplace : FnScope N_Lplace ["hand"] sc_Lplace := ⟨by rfl, by rfl, by rfl, by decide +kernel, by rfl, by decide +kernel, by decide +kernel⟩
/-! law_times -/
abbrev N_Ltimes : List Str := ["one", "other"]
abbrev sc_Ltimes : Scope := defScope (top 41)
theorem v_Ltimes_0 : Vr N_Ltimes sc_Ltimes 0 ("one" : Str) := vr_of (by decide +kernel)
theorem v_Ltimes_1 : Vr N_Ltimes sc_Ltimes 1 ("other" : Str) := vr_of (by decide +kernel)
theorem g_Ltimes_Lratio : Gb sc_Ltimes ("_law_ratio" : Str) := gb_of (by decide +kernel)
theorem b_Ltimes {G : Gx} (ho : IsiOk G) (h_Lratio : HasFn G 2 f_Lratio []) : BodyOk G 2 N_Ltimes sc_Ltimes (defBody (top 41)) ir_Ltimes := fun X W B g T hB =>
    (ss_cons (s_ret (p_call g rfl h_Lratio g_Ltimes_Lratio (p_ae (q_bin g (o := .mul) rfl (p_idx g (p_var g (v_Ltimes_0).f) q_cst_int rfl) (p_idx g (p_var g (v_Ltimes_1).f) q_cst_int rfl)) (p_ae (q_bin g (o := .mul) rfl (p_idx g (p_var g (v_Ltimes_0).f) q_cst_int rfl) (p_idx g (p_var g (v_Ltimes_1).f) q_cst_int rfl)) q_an rfl) rfl) rfl rfl))
    ss_nil)
theorem s_Ltimes : FnScope N_Ltimes ["one", "other"] sc_Ltimes := ⟨by rfl, by rfl, by rfl, by decide +kernel, by rfl, by decide +kernel, by decide +kernel⟩
/-! is_whole -/
abbrev N_is_whole : List Str := ["thing", "low", "high"]
abbrev sc_is_whole : Scope := defScope (top 9)
theorem v_is_whole_0 : Vr N_is_whole sc_is_whole 0 ("thing" : Str) := vr_of (by decide +kernel)
theorem v_is_whole_1 : Vr N_is_whole sc_is_whole 1 ("low" : Str) := vr_of (by decide +kernel)
theorem v_is_whole_2 : Vr N_is_whole sc_is_whole 2 ("high" : Str) := vr_of (by decide +kernel)
theorem g_is_whole_bool : Gb sc_is_whole ("bool" : Str) := gb_of (by decide +kernel)
theorem g_is_whole_int : Gb sc_is_whole ("int" : Str) := gb_of (by decide +kernel)
theorem g_is_whole_isinstance : Gb sc_is_whole ("isinstance" : Str) := gb_of (by decide +kernel)
theorem b_is_whole {G : Gx} (ho : IsiOk G) (f_bool : G.mg "bool" = none) (f_int : G.mg "int" = none) (f_isinstance : G.mg "isinstance" = none) : BodyOk G 0 N_is_whole sc_is_whole (defBody (top 9)) ir_is_whole := fun X W B g T hB =>
    (ss_cons (s_if (q_boT (q_orT (q_ce g.hK (p_isi g ho f_isinstance g_is_whole_isinstance (p_var g (v_is_whole_0).f) rfl (ty_of g (y := .bool) (m := "bool") rfl g_is_whole_bool f_bool)) (fun _ => rfl)) (q_bo1T (by simp) (q_noT (q_ce g.hK (p_isi g ho f_isinstance g_is_whole_isinstance (p_var g (v_is_whole_0).f) rfl (ty_of g (y := .int) (m := "int") rfl g_is_whole_int f_int)) (fun _ => rfl)))))) (ss_cons (s_ret q_cst_bl)
    ss_nil) ss_nil)
    (ss_cons (s_if (q_boT (q_andT (q_cmpT g (o := .notN) rfl (p_var g (v_is_whole_1).f) q_cst_non rfl) (q_bo1T (by simp) (q_cmpT g (o := .lt) rfl (p_var g (v_is_whole_0).f) (p_var g (v_is_whole_1).f) rfl)))) (ss_cons (s_ret q_cst_bl)
    ss_nil) ss_nil)
    (ss_cons (s_ret (q_boV (q_or (q_cmp g (o := .isN) rfl (p_var g (v_is_whole_2).f) q_cst_non rfl) (q_bo1 (q_cmp g (o := .le) rfl (p_var g (v_is_whole_0).f) (p_var g (v_is_whole_2).f) rfl)))))
    ss_nil)))
theorem s_is_whole : FnScope N_is_whole ["thing", "low", "high"] sc_is_whole := ⟨by rfl, by rfl, by rfl, by decide +kernel, by rfl, by decide +kernel, by decide +kernel⟩
/-! is_ratio -/
abbrev N_is_ratio : List Str := ["thing"]
abbrev sc_is_ratio : Scope := defScope (top 10)
theorem v_is_ratio_0 : Vr N_is_ratio sc_is_ratio 0 ("thing" : Str) := vr_of (by decide +kernel)
theorem g_is_ratio_gcd : Gb sc_is_ratio ("gcd" : Str) := gb_of (by decide +kernel)
theorem g_is_ratio_is_whole : Gb sc_is_ratio ("is_whole" : Str) := gb_of (by decide +kernel)
theorem g_is_ratio_isinstance : Gb sc_is_ratio ("isinstance" : Str) := gb_of (by decide +kernel)
theorem g_is_ratio_len : Gb sc_is_ratio ("len" : Str) := gb_of (by decide +kernel)
theorem g_is_ratio_tuple : Gb sc_is_ratio ("tuple" : Str) := gb_of (by decide +kernel)
theorem b_is_ratio {G : Gx} (ho : IsiOk G) (f_gcd : G.mg "gcd" = some (.builtin "math.gcd")) (f_isinstance : G.mg "isinstance" = none) (f_len : G.mg "len" = none) (f_tuple : G.mg "tuple" = none) (h_is_whole_1 : HasFn G 1 f_is_whole [.non]) (h_is_whole_2 : HasFn G 1 f_is_whole [.non, .non]) : BodyOk G 1 N_is_ratio sc_is_ratio (defBody (top 10)) ir_is_ratio := fun X W B g T hB =>
    (ss_cons (s_if (q_boT (q_orT (q_noT (q_ce g.hK (p_isi g ho f_isinstance g_is_ratio_isinstance (p_var g (v_is_ratio_0).f) rfl (ty_of g (y := .tuple) (m := "tuple") rfl g_is_ratio_tuple f_tuple)) (fun _ => rfl))) (q_bo1T (by simp) (q_cmpT g (o := .ne) rfl (p_bi g (bb := .len) (fun z => by rcases z with z | z <;> cases z) rfl f_len g_is_ratio_len (p_cons (p_var g (v_is_ratio_0).f) q_nil rfl) rfl rfl) q_cst_int rfl)))) (ss_cons (s_ret q_cst_bl)
    ss_nil) ss_nil)
    (ss_cons (s_if (q_boT (q_orT (q_noT (q_ce g.hK (p_call g rfl h_is_whole_2 g_is_ratio_is_whole (p_ae (p_idx g (p_var g (v_is_ratio_0).f) q_cst_int rfl) q_an rfl) rfl rfl) (fun _ => rfl))) (q_bo1T (by simp) (q_noT (q_ce g.hK (p_call g rfl h_is_whole_1 g_is_ratio_is_whole (p_ae (p_idx g (p_var g (v_is_ratio_0).f) q_cst_int rfl) (p_ae q_cst_int q_an rfl) rfl) rfl rfl) (fun _ => rfl)))))) (ss_cons (s_ret q_cst_bl)
    ss_nil) ss_nil)
    (ss_cons (s_ret (q_cmp g (o := .eq) rfl (p_bi g (bb := .gcd) (fun z => by rcases z with z | z <;> cases z) rfl f_gcd g_is_ratio_gcd (p_cons (p_idx g (p_var g (v_is_ratio_0).f) q_cst_int rfl) (p_cons (p_idx g (p_var g (v_is_ratio_0).f) q_cst_int rfl) q_nil rfl) rfl) rfl rfl) q_cst_int rfl))
    ss_nil)))
theorem s_is_ratio : FnScope N_is_ratio ["thing"] sc_is_ratio := ⟨by rfl, by rfl, by rfl, by decide +kernel, by rfl, by decide +kernel, by decide +kernel⟩
/-! check_amount -/
abbrev N_check_amount : List Str := ["amount"]
abbrev sc_check_amount : Scope := defScope (top 19)
theorem v_check_amount_0 : Vr N_check_amount sc_check_amount 0 ("amount" : Str) := vr_of (by decide +kernel)
theorem g_check_amount_BadAmount : Gb sc_check_amount ("BadAmount" : Str) := gb_of (by decide +kernel)
theorem g_check_amount_is_ratio : Gb sc_check_amount ("is_ratio" : Str) := gb_of (by decide +kernel)
theorem b_check_amount {G : Gx} (ho : IsiOk G) (e_BadAmount : ExcOk G ("BadAmount" : Str) 0 []) (h_is_ratio : HasFn G 2 f_is_ratio []) : BodyOk G 2 N_check_amount sc_check_amount (defBody (top 19)) ir_check_amount := fun X W B g T hB =>
    (ss_cons (s_if (q_noT (q_ce g.hK (p_call g rfl h_is_ratio g_check_amount_is_ratio (p_ae (p_var g (v_check_amount_0).f) q_an rfl) rfl rfl) (fun _ => rfl))) (ss_cons (r_rai0 g e_BadAmount g_check_amount_BadAmount)
    ss_nil) ss_nil)
    (ss_cons (s_ret (p_var g (v_check_amount_0).f))
    ss_nil))
theorem s_check_amount : FnScope N_check_amount ["amount"] sc_check_amount := ⟨by rfl, by rfl, by rfl, by decide +kernel, by rfl, by decide +kernel, by decide +kernel⟩
/-! check_size -/
abbrev N_check_size : List Str := ["size"]
abbrev sc_check_size : Scope := defScope (top 20)
theorem v_check_size_0 : Vr N_check_size sc_check_size 0 ("size" : Str) := vr_of (by decide +kernel)
theorem g_check_size_BadSize : Gb sc_check_size ("BadSize" : Str) := gb_of (by decide +kernel)
theorem g_check_size_is_ratio : Gb sc_check_size ("is_ratio" : Str) := gb_of (by decide +kernel)
theorem b_check_size {G : Gx} (ho : IsiOk G) (e_BadSize : ExcOk G ("BadSize" : Str) 0 []) (h_is_ratio : HasFn G 2 f_is_ratio []) : BodyOk G 2 N_check_size sc_check_size (defBody (top 20)) ir_check_size := fun X W B g T hB =>
    (ss_cons (s_if (q_boT (q_orT (q_noT (q_ce g.hK (p_call g rfl h_is_ratio g_check_size_is_ratio (p_ae (p_var g (v_check_size_0).f) q_an rfl) rfl rfl) (fun _ => rfl))) (q_bo1T (by simp) (q_cmpT g (o := .le) rfl (p_idx g (p_var g (v_check_size_0).f) q_cst_int rfl) q_cst_int rfl)))) (ss_cons (r_rai0 g e_BadSize g_check_size_BadSize)
    ss_nil) ss_nil)
    (ss_cons (s_ret (p_var g (v_check_size_0).f))
    ss_nil))
theorem s_check_size : FnScope N_check_size ["size"] sc_check_size := ⟨by rfl, by rfl, by rfl, by decide +kernel, by rfl, by decide +kernel, by decide +kernel⟩
/-! is_couple -/
abbrev N_is_couple : List Str := ["thing"]
abbrev sc_is_couple : Scope := defScope (top 17)
theorem v_is_couple_0 : Vr N_is_couple sc_is_couple 0 ("thing" : Str) := vr_of (by decide +kernel)
theorem g_is_couple_is_ratio : Gb sc_is_couple ("is_ratio" : Str) := gb_of (by decide +kernel)
theorem g_is_couple_isinstance : Gb sc_is_couple ("isinstance" : Str) := gb_of (by decide +kernel)
theorem g_is_couple_len : Gb sc_is_couple ("len" : Str) := gb_of (by decide +kernel)
theorem g_is_couple_list : Gb sc_is_couple ("list" : Str) := gb_of (by decide +kernel)
theorem g_is_couple_tuple : Gb sc_is_couple ("tuple" : Str) := gb_of (by decide +kernel)
theorem b_is_couple {G : Gx} (ho : IsiOk G) (f_isinstance : G.mg "isinstance" = none) (f_len : G.mg "len" = none) (f_list : G.mg "list" = none) (f_tuple : G.mg "tuple" = none) (h_is_ratio : HasFn G 2 f_is_ratio []) : BodyOk G 2 N_is_couple sc_is_couple (defBody (top 17)) ir_is_couple := fun X W B g T hB =>
    (ss_cons (s_ret (q_boV (q_and (p_isiT g ho f_isinstance g_is_couple_isinstance (p_var g (v_is_couple_0).f) rfl (.cons (ty_of g (y := .list) (m := "list") rfl g_is_couple_list f_list) (.cons (ty_of g (y := .tuple) (m := "tuple") rfl g_is_couple_tuple f_tuple) .nil (star_of rfl)) (star_of rfl)) (by decide)) (q_and (q_cmp g (o := .eq) rfl (p_bi g (bb := .len) (fun z => by rcases z with z | z <;> cases z) rfl f_len g_is_couple_len (p_cons (p_var g (v_is_couple_0).f) q_nil rfl) rfl rfl) q_cst_int rfl) (q_and (p_call g rfl h_is_ratio g_is_couple_is_ratio (p_ae (p_idx g (p_var g (v_is_couple_0).f) q_cst_int rfl) q_an rfl) rfl rfl) (q_bo1 (p_call g rfl h_is_ratio g_is_couple_is_ratio (p_ae (p_idx g (p_var g (v_is_couple_0).f) q_cst_int rfl) q_an rfl) rfl rfl)))))))
    ss_nil)
theorem s_is_couple : FnScope N_is_couple ["thing"] sc_is_couple := ⟨by rfl, by rfl, by rfl, by decide +kernel, by rfl, by decide +kernel, by decide +kernel⟩
/-! check_place -/
abbrev N_check_place : List Str := ["place"]
abbrev sc_check_place : Scope := defScope (top 18)
theorem v_check_place_0 : Vr N_check_place sc_check_place 0 ("place" : Str) := vr_of (by decide +kernel)
theorem g_check_place_BadPlace : Gb sc_check_place ("BadPlace" : Str) := gb_of (by decide +kernel)
theorem g_check_place_is_couple : Gb sc_check_place ("is_couple" : Str) := gb_of (by decide +kernel)
theorem g_check_place_tuple : Gb sc_check_place ("tuple" : Str) := gb_of (by decide +kernel)
theorem b_check_place {G : Gx} (ho : IsiOk G) (e_BadPlace : ExcOk G ("BadPlace" : Str) 0 []) (f_tuple : G.mg "tuple" = none) (h_is_couple : HasFn G 3 f_is_couple []) : BodyOk G 3 N_check_place sc_check_place (defBody (top 18)) ir_check_place := fun X W B g T hB =>
    (ss_cons (s_if (q_noT (q_ce g.hK (p_call g rfl h_is_couple g_check_place_is_couple (p_ae (p_var g (v_check_place_0).f) q_an rfl) rfl rfl) (fun _ => rfl))) (ss_cons (r_rai0 g e_BadPlace g_check_place_BadPlace)
    ss_nil) ss_nil)
    (ss_cons (s_ret (p_bi g (bb := .tuple) (fun z => by rcases z with z | z <;> cases z) rfl f_tuple g_check_place_tuple (p_cons (p_var g (v_check_place_0).f) q_nil rfl) rfl rfl))
    ss_nil))
theorem s_check_place : FnScope N_check_place ["place"] sc_check_place := ⟨by rfl, by rfl, by rfl, by decide +kernel, by rfl, by decide +kernel, by decide +kernel⟩
/-! law_refuses_place -/
abbrev N_Lrefuses_place : List Str := ["thing"]
abbrev sc_Lrefuses_place : Scope := defScope (top 54)
theorem v_Lrefuses_place_0 : Vr N_Lrefuses_place sc_Lrefuses_place 0 ("thing" : Str) := vr_of (by decide +kernel)
theorem g_Lrefuses_place_BadPlace : Gb sc_Lrefuses_place ("BadPlace" : Str) := gb_of (by decide +kernel)
theorem g_Lrefuses_place_check_place : Gb sc_Lrefuses_place ("check_place" : Str) := gb_of (by decide +kernel)
theorem b_Lrefuses_place {G : Gx} (ho : IsiOk G) (h_check_place : HasFn G 4 f_check_place []) (t_BadPlace : TryOk G ("BadPlace" : Str) [("BadPlace" : Str)] [("BadDirection" : Str), ("BadAmount" : Str), ("BadSize" : Str)]) : BodyOk G 4 N_Lrefuses_place sc_Lrefuses_place (defBody (top 54)) ir_Lrefuses_place := fun X W B g T hB =>
    (ss_cons (r_try g T hB t_BadPlace g_Lrefuses_place_BadPlace (fun X' W' g' T => (ss_cons (s_expr (p_call g' rfl h_check_place g_Lrefuses_place_check_place (p_ae (p_var g' (v_Lrefuses_place_0).f) q_an rfl) rfl rfl) rfl)
    ss_nil)) (fun X' B' g' => (ss_cons (s_ret q_cst_bl)
    ss_nil)))
    (ss_cons (s_ret q_cst_bl)
    ss_nil))
theorem s_Lrefuses_place : FnScope N_Lrefuses_place ["thing"] sc_Lrefuses_place := ⟨by rfl, by rfl, by rfl, by decide +kernel, by rfl, by decide +kernel, by decide +kernel⟩
/-! law_refuses_amount -/
abbrev N_Lrefuses_amount : List Str := ["thing"]
abbrev sc_Lrefuses_amount : Scope := defScope (top 55)
theorem v_Lrefuses_amount_0 : Vr N_Lrefuses_amount sc_Lrefuses_amount 0 ("thing" : Str) := vr_of (by decide +kernel)
theorem g_Lrefuses_amount_BadAmount : Gb sc_Lrefuses_amount ("BadAmount" : Str) := gb_of (by decide +kernel)
theorem g_Lrefuses_amount_check_amount : Gb sc_Lrefuses_amount ("check_amount" : Str) := gb_of (by decide +kernel)
theorem b_Lrefuses_amount {G : Gx} (ho : IsiOk G) (h_check_amount : HasFn G 3 f_check_amount []) (t_BadAmount : TryOk G ("BadAmount" : Str) [("BadAmount" : Str)] [("BadPlace" : Str), ("BadDirection" : Str), ("BadSize" : Str)]) : BodyOk G 3 N_Lrefuses_amount sc_Lrefuses_amount (defBody (top 55)) ir_Lrefuses_amount := fun X W B g T hB =>
    (ss_cons (r_try g T hB t_BadAmount g_Lrefuses_amount_BadAmount (fun X' W' g' T => (ss_cons (s_expr (p_call g' rfl h_check_amount g_Lrefuses_amount_check_amount (p_ae (p_var g' (v_Lrefuses_amount_0).f) q_an rfl) rfl rfl) rfl)
    ss_nil)) (fun X' B' g' => (ss_cons (s_ret q_cst_bl)
    ss_nil)))
    (ss_cons (s_ret q_cst_bl)
    ss_nil))
theorem s_Lrefuses_amount : FnScope N_Lrefuses_amount ["thing"] sc_Lrefuses_amount := ⟨by rfl, by rfl, by rfl, by decide +kernel, by rfl, by decide +kernel, by decide +kernel⟩
/-! law_refuses_size -/
abbrev N_Lrefuses_size : List Str := ["thing"]
abbrev sc_Lrefuses_size : Scope := defScope (top 56)
theorem v_Lrefuses_size_0 : Vr N_Lrefuses_size sc_Lrefuses_size 0 ("thing" : Str) := vr_of (by decide +kernel)
theorem g_Lrefuses_size_BadSize : Gb sc_Lrefuses_size ("BadSize" : Str) := gb_of (by decide +kernel)
theorem g_Lrefuses_size_check_size : Gb sc_Lrefuses_size ("check_size" : Str) := gb_of (by decide +kernel)
theorem b_Lrefuses_size {G : Gx} (ho : IsiOk G) (h_check_size : HasFn G 3 f_check_size []) (t_BadSize : TryOk G ("BadSize" : Str) [("BadSize" : Str)] [("BadPlace" : Str), ("BadDirection" : Str), ("BadAmount" : Str)]) : BodyOk G 3 N_Lrefuses_size sc_Lrefuses_size (defBody (top 56)) ir_Lrefuses_size := fun X W B g T hB =>
    (ss_cons (r_try g T hB t_BadSize g_Lrefuses_size_BadSize (fun X' W' g' T => (ss_cons (s_expr (p_call g' rfl h_check_size g_Lrefuses_size_check_size (p_ae (p_var g' (v_Lrefuses_size_0).f) q_an rfl) rfl rfl) rfl)
    ss_nil)) (fun X' B' g' => (ss_cons (s_ret q_cst_bl)
    ss_nil)))
    (ss_cons (s_ret q_cst_bl)
    ss_nil))
theorem s_Lrefuses_size : FnScope N_Lrefuses_size ["thing"] sc_Lrefuses_size := ⟨by rfl, by rfl, by rfl, by decide +kernel, by rfl, by decide +kernel, by decide +kernel⟩
/-! law_checks -/
abbrev N_Lchecks : List Str := ["place", "amount", "thing"]
abbrev sc_Lchecks : Scope := defScope (top 58)
theorem v_Lchecks_0 : Vr N_Lchecks sc_Lchecks 0 ("place" : Str) := vr_of (by decide +kernel)
theorem v_Lchecks_1 : Vr N_Lchecks sc_Lchecks 1 ("amount" : Str) := vr_of (by decide +kernel)
theorem v_Lchecks_2 : Vr N_Lchecks sc_Lchecks 2 ("thing" : Str) := vr_of (by decide +kernel)
theorem g_Lchecks_Lrefuses_amount : Gb sc_Lchecks ("_law_refuses_amount" : Str) := gb_of (by decide +kernel)
theorem g_Lchecks_Lrefuses_place : Gb sc_Lchecks ("_law_refuses_place" : Str) := gb_of (by decide +kernel)
theorem g_Lchecks_Lrefuses_size : Gb sc_Lchecks ("_law_refuses_size" : Str) := gb_of (by decide +kernel)
theorem g_Lchecks_check_amount : Gb sc_Lchecks ("check_amount" : Str) := gb_of (by decide +kernel)
theorem g_Lchecks_check_place : Gb sc_Lchecks ("check_place" : Str) := gb_of (by decide +kernel)
theorem g_Lchecks_check_size : Gb sc_Lchecks ("check_size" : Str) := gb_of (by decide +kernel)
theorem g_Lchecks_isinstance : Gb sc_Lchecks ("isinstance" : Str) := gb_of (by decide +kernel)
theorem g_Lchecks_list : Gb sc_Lchecks ("list" : Str) := gb_of (by decide +kernel)
theorem g_Lchecks_tuple : Gb sc_Lchecks ("tuple" : Str) := gb_of (by decide +kernel)
theorem b_Lchecks {G : Gx} (ho : IsiOk G) (f_isinstance : G.mg "isinstance" = none) (f_list : G.mg "list" = none) (f_tuple : G.mg "tuple" = none) (h_Lrefuses_amount : HasFn G 5 f_Lrefuses_amount []) (h_Lrefuses_place : HasFn G 5 f_Lrefuses_place []) (h_Lrefuses_size : HasFn G 5 f_Lrefuses_size []) (h_check_amount : HasFn G 5 f_check_amount []) (h_check_place : HasFn G 5 f_check_place []) (h_check_size : HasFn G 5 f_check_size []) : BodyOk G 5 N_Lchecks sc_Lchecks (defBody (top 58)) ir_Lchecks := fun X W B g T hB =>
    (ss_cons (s_if (q_boT (q_orT (q_cmpT g (o := .ne) rfl (p_call g rfl h_check_place g_Lchecks_check_place (p_ae (q_frz (p_lst g f_list g_Lchecks_list (p_var g (v_Lchecks_0).f) rfl)) q_an rfl) rfl rfl) (p_var g (v_Lchecks_0).f) rfl) (q_orT (q_noT (q_ce g.hK (p_isi g ho f_isinstance g_Lchecks_isinstance (p_call g rfl h_check_place g_Lchecks_check_place (p_ae (q_frz (p_lst g f_list g_Lchecks_list (p_var g (v_Lchecks_0).f) rfl)) q_an rfl) rfl rfl) rfl (ty_of g (y := .tuple) (m := "tuple") rfl g_Lchecks_tuple f_tuple)) (fun _ => rfl))) (q_bo1T (by simp) (q_cmpT g (o := .ne) rfl (p_call g rfl h_check_place g_Lchecks_check_place (p_ae (p_var g (v_Lchecks_0).f) q_an rfl) rfl rfl) (p_var g (v_Lchecks_0).f) rfl))))) (ss_cons (s_ret q_cst_bl)
    ss_nil) ss_nil)
    (ss_cons (r_for g T (i_seq' g (q_frz (q_disp (p_cons (q_bin g (o := .add) rfl (p_var g (v_Lchecks_0).f) (q_tup (p_cons (p_var g (v_Lchecks_1).f) q_nil rfl))) (p_cons (q_tup (p_cons (p_idx g (p_var g (v_Lchecks_0).f) q_cst_int rfl) q_nil rfl)) (p_cons (q_tup (p_cons (p_idx g (p_var g (v_Lchecks_0).f) q_cst_int rfl) (p_cons q_cst_int q_nil rfl) rfl)) (p_cons (q_tup (p_cons (q_frz (q_disp (p_cons q_cst_int (p_cons q_cst_int q_nil rfl) rfl))) (p_cons (p_idx g (p_var g (v_Lchecks_0).f) q_cst_int rfl) q_nil rfl) rfl)) (p_cons (q_tup (p_cons (p_idx g (p_var g (v_Lchecks_0).f) q_cst_int rfl) (p_cons (q_tup (p_cons q_cst_int (p_cons q_cst_int q_nil rfl) rfl)) q_nil rfl) rfl)) (p_cons q_cst_non (p_cons q_cst_str (p_cons q_cst_int (p_cons (q_tup (p_cons (p_idx g (p_var g (v_Lchecks_0).f) q_cst_int rfl) (p_cons q_cst_non q_nil rfl) rfl)) (p_cons (q_frz (q_disp (p_cons q_cst_int (p_cons q_cst_int q_nil rfl) rfl))) (p_cons (q_tup (p_cons (p_idx g (p_var g (v_Lchecks_0).f) q_cst_int rfl) (p_cons (q_tup (p_cons q_cst_bl (p_cons q_cst_int q_nil rfl) rfl)) q_nil rfl) rfl)) q_nil rfl) rfl) rfl) rfl) rfl) rfl) rfl) rfl) rfl) rfl) rfl)))) (t_nm g v_Lchecks_2 (.inl (T.fn _))) (ss_cons (s_if (q_noT (q_ce g.hK (p_call g rfl h_Lrefuses_place g_Lchecks_Lrefuses_place (p_ae (p_var g (v_Lchecks_2).f) q_an rfl) rfl rfl) (fun _ => rfl))) (ss_cons (s_ret q_cst_bl)
    ss_nil) ss_nil)
    ss_nil) (fun _ => rfl))
    (ss_cons (s_if (q_cmpT g (o := .ne) rfl (p_call g rfl h_check_amount g_Lchecks_check_amount (p_ae (p_var g (v_Lchecks_1).f) q_an rfl) rfl rfl) (p_var g (v_Lchecks_1).f) rfl) (ss_cons (s_ret q_cst_bl)
    ss_nil) ss_nil)
    (ss_cons (r_for g T (i_seq' g (q_frz (q_disp (p_cons (p_idx g (p_var g (v_Lchecks_1).f) q_cst_int rfl) (p_cons (q_frz (p_lst g f_list g_Lchecks_list (p_var g (v_Lchecks_1).f) rfl)) (p_cons (q_tup (p_cons (q_bin g (o := .mul) rfl (p_idx g (p_var g (v_Lchecks_1).f) q_cst_int rfl) q_cst_int) (p_cons (q_bin g (o := .mul) rfl (p_idx g (p_var g (v_Lchecks_1).f) q_cst_int rfl) q_cst_int) q_nil rfl) rfl)) (p_cons q_cst_non (p_cons q_cst_bl (p_cons q_cst_str (p_cons (q_tup (p_cons (p_idx g (p_var g (v_Lchecks_1).f) q_cst_int rfl) (p_cons q_cst_int q_nil rfl) rfl)) q_nil rfl) rfl) rfl) rfl) rfl) rfl) rfl)))) (t_nm g v_Lchecks_2 (.inl (T.fn _))) (ss_cons (s_if (q_noT (q_ce g.hK (p_call g rfl h_Lrefuses_amount g_Lchecks_Lrefuses_amount (p_ae (p_var g (v_Lchecks_2).f) q_an rfl) rfl rfl) (fun _ => rfl))) (ss_cons (s_ret q_cst_bl)
    ss_nil) ss_nil)
    ss_nil) (fun _ => rfl))
    (ss_cons (r_for g T (i_seq' g (q_frz (q_disp (p_cons (q_tup (p_cons q_cst_int (p_cons q_cst_int q_nil rfl) rfl)) (p_cons (q_tup (p_cons (q_neg q_cst_int) (p_cons q_cst_int q_nil rfl) rfl)) (p_cons q_cst_int (p_cons (q_frz (q_disp (p_cons q_cst_int (p_cons q_cst_int q_nil rfl) rfl))) (p_cons (q_tup (p_cons q_cst_int (p_cons q_cst_int q_nil rfl) rfl)) (p_cons q_cst_non q_nil rfl) rfl) rfl) rfl) rfl) rfl)))) (t_nm g v_Lchecks_2 (.inl (T.fn _))) (ss_cons (s_if (q_noT (q_ce g.hK (p_call g rfl h_Lrefuses_size g_Lchecks_Lrefuses_size (p_ae (p_var g (v_Lchecks_2).f) q_an rfl) rfl rfl) (fun _ => rfl))) (ss_cons (s_ret q_cst_bl)
    ss_nil) ss_nil)
    ss_nil) (fun _ => rfl))
    (ss_cons (s_ret (q_cmp g (o := .eq) rfl (p_call g rfl h_check_size g_Lchecks_check_size (p_ae (q_tup (p_cons q_cst_int (p_cons q_cst_int q_nil rfl) rfl)) q_an rfl) rfl rfl) (q_tup (p_cons q_cst_int (p_cons q_cst_int q_nil rfl) rfl)) rfl))
    ss_nil))))))
theorem s_Lchecks : FnScope N_Lchecks ["place", "amount"] sc_Lchecks := ⟨by rfl, by rfl, by rfl, by decide +kernel, by rfl, by decide +kernel, by decide +kernel⟩
/-! law_plain -/
abbrev N_Lplain : List Str := ["told", "due"]
abbrev sc_Lplain : Scope := defScope (top 47)
theorem v_Lplain_0 : Vr N_Lplain sc_Lplain 0 ("told" : Str) := vr_of (by decide +kernel)
theorem v_Lplain_1 : Vr N_Lplain sc_Lplain 1 ("due" : Str) := vr_of (by decide +kernel)
theorem g_Lplain_bool : Gb sc_Lplain ("bool" : Str) := gb_of (by decide +kernel)
theorem g_Lplain_int : Gb sc_Lplain ("int" : Str) := gb_of (by decide +kernel)
theorem g_Lplain_isinstance : Gb sc_Lplain ("isinstance" : Str) := gb_of (by decide +kernel)
theorem g_Lplain_tuple : Gb sc_Lplain ("tuple" : Str) := gb_of (by decide +kernel)
theorem b_Lplain {G : Gx} (ho : IsiOk G) (f_bool : G.mg "bool" = none) (f_int : G.mg "int" = none) (f_isinstance : G.mg "isinstance" = none) (f_tuple : G.mg "tuple" = none) : BodyOk G 0 N_Lplain sc_Lplain (defBody (top 47)) ir_Lplain := fun X W B g T hB =>
    (ss_cons (s_ret (q_boV (q_and (p_isi g ho f_isinstance g_Lplain_isinstance (p_var g (v_Lplain_0).f) rfl (ty_of g (y := .tuple) (m := "tuple") rfl g_Lplain_tuple f_tuple)) (q_and (q_cmp g (o := .eq) rfl (p_var g (v_Lplain_0).f) (p_var g (v_Lplain_1).f) rfl) (q_and (p_isi g ho f_isinstance g_Lplain_isinstance (p_idx g (p_var g (v_Lplain_0).f) q_cst_int rfl) rfl (ty_of g (y := .int) (m := "int") rfl g_Lplain_int f_int)) (q_and (q_no (p_isi g ho f_isinstance g_Lplain_isinstance (p_idx g (p_var g (v_Lplain_0).f) q_cst_int rfl) rfl (ty_of g (y := .bool) (m := "bool") rfl g_Lplain_bool f_bool)) g.hK) (q_bo1 (q_no (p_isi g ho f_isinstance g_Lplain_isinstance (p_idx g (p_var g (v_Lplain_0).f) q_cst_int rfl) rfl (ty_of g (y := .bool) (m := "bool") rfl g_Lplain_bool f_bool)) g.hK))))))))
    ss_nil)
theorem s_Lplain : FnScope N_Lplain ["told", "due"] sc_Lplain := ⟨by rfl, by rfl, by rfl, by decide +kernel, by rfl, by decide +kernel, by decide +kernel⟩
/-! law_less -/
abbrev N_Lless : List Str := ["one", "other"]
abbrev sc_Lless : Scope := defScope (top 40)
theorem v_Lless_0 : Vr N_Lless sc_Lless 0 ("one" : Str) := vr_of (by decide +kernel)
theorem v_Lless_1 : Vr N_Lless sc_Lless 1 ("other" : Str) := vr_of (by decide +kernel)
theorem g_Lless_Lratio : Gb sc_Lless ("_law_ratio" : Str) := gb_of (by decide +kernel)
theorem b_Lless {G : Gx} (ho : IsiOk G) (h_Lratio : HasFn G 2 f_Lratio []) : BodyOk G 2 N_Lless sc_Lless (defBody (top 40)) ir_Lless := fun X W B g T hB =>
    (ss_cons (s_ret (p_call g rfl h_Lratio g_Lless_Lratio (p_ae (q_bin g (o := .sub) rfl (q_bin g (o := .mul) rfl (p_idx g (p_var g (v_Lless_0).f) q_cst_int rfl) (p_idx g (p_var g (v_Lless_1).f) q_cst_int rfl)) (q_bin g (o := .mul) rfl (p_idx g (p_var g (v_Lless_1).f) q_cst_int rfl) (p_idx g (p_var g (v_Lless_0).f) q_cst_int rfl))) (p_ae (q_bin g (o := .mul) rfl (p_idx g (p_var g (v_Lless_0).f) q_cst_int rfl) (p_idx g (p_var g (v_Lless_1).f) q_cst_int rfl)) q_an rfl) rfl) rfl rfl))
    ss_nil)
theorem s_Lless : FnScope N_Lless ["one", "other"] sc_Lless := ⟨by rfl, by rfl, by rfl, by decide +kernel, by rfl, by decide +kernel, by decide +kernel⟩
/-! law_step -/
abbrev N_Lstep : List Str := ["one", "other"]
abbrev sc_Lstep : Scope := defScope (top 52)
theorem v_Lstep_0 : Vr N_Lstep sc_Lstep 0 ("one" : Str) := vr_of (by decide +kernel)
theorem v_Lstep_1 : Vr N_Lstep sc_Lstep 1 ("other" : Str) := vr_of (by decide +kernel)
theorem g_Lstep_Lless : Gb sc_Lstep ("_law_less" : Str) := gb_of (by decide +kernel)
theorem b_Lstep {G : Gx} (ho : IsiOk G) (h_Lless : HasFn G 3 f_Lless []) : BodyOk G 3 N_Lstep sc_Lstep (defBody (top 52)) ir_Lstep := fun X W B g T hB =>
    (ss_cons (s_ret (q_tup (p_cons (p_call g rfl h_Lless g_Lstep_Lless (p_ae (p_idx g (p_var g (v_Lstep_1).f) q_cst_int rfl) (p_ae (p_idx g (p_var g (v_Lstep_0).f) q_cst_int rfl) q_an rfl) rfl) rfl rfl) (p_cons (p_call g rfl h_Lless g_Lstep_Lless (p_ae (p_idx g (p_var g (v_Lstep_1).f) q_cst_int rfl) (p_ae (p_idx g (p_var g (v_Lstep_0).f) q_cst_int rfl) q_an rfl) rfl) rfl rfl) q_nil rfl) rfl)))
    ss_nil)
theorem s_Lstep : FnScope N_Lstep ["one", "other"] sc_Lstep := ⟨by rfl, by rfl, by rfl, by decide +kernel, by rfl, by decide +kernel, by decide +kernel⟩
/-! law_tuples -/
abbrev N_Ltuples : List Str := ["thing", "item"]
abbrev sc_Ltuples : Scope := defScope (top 53)
theorem v_Ltuples_0 : Vr N_Ltuples sc_Ltuples 0 ("thing" : Str) := vr_of (by decide +kernel)
theorem g_Ltuples_bool : Gb sc_Ltuples ("bool" : Str) := gb_of (by decide +kernel)
theorem g_Ltuples_int : Gb sc_Ltuples ("int" : Str) := gb_of (by decide +kernel)
theorem g_Ltuples_isinstance : Gb sc_Ltuples ("isinstance" : Str) := gb_of (by decide +kernel)
theorem g_Ltuples_tuple : Gb sc_Ltuples ("tuple" : Str) := gb_of (by decide +kernel)
theorem b_Ltuples {G : Gx} (ho : IsiOk G) {r : List T → FR} {K : Nat} (f_bool : G.mg "bool" = none) (f_int : G.mg "int" = none) (f_isinstance : G.mg "isinstance" = none) (f_tuple : G.mg "tuple" = none) (hs_Ltuples : HasFn G K (sf_Ltuples r) []) : BodyOk G K N_Ltuples sc_Ltuples (defBody (top 53)) (ir_Ltuples r) := fun X W B g T hB =>
    (ss_cons (s_if (q_ce g.hK (p_isi g ho f_isinstance g_Ltuples_isinstance (p_var g (v_Ltuples_0).f) rfl (ty_of g (y := .tuple) (m := "tuple") rfl g_Ltuples_tuple f_tuple)) (fun _ => rfl)) (ss_cons (s_ret (q_no (q_frz (q_comp (own := [(("item" : Str), 1)]) g (i_seq' g (p_var g (v_Ltuples_0).f)) (by decide +kernel) (fun X' B' g' => ⟨(t_nm g' (vr_of (by decide +kernel)) (.inr (lc_of (by decide +kernel)))), (t_one (q_noT (q_ce g'.hK (p_call g' rfl hs_Ltuples (gb_of (by decide +kernel)) (p_ae (p_var g' (vf_of (by decide +kernel))) q_an rfl) rfl rfl) (fun _ => rfl)))), q_cst_int⟩) (by decide +kernel) (fun _ => rfl))) g.hK))
    ss_nil) ss_nil)
    (ss_cons (s_ret (q_boV (q_and (p_isi g ho f_isinstance g_Ltuples_isinstance (p_var g (v_Ltuples_0).f) rfl (ty_of g (y := .int) (m := "int") rfl g_Ltuples_int f_int)) (q_bo1 (q_no (p_isi g ho f_isinstance g_Ltuples_isinstance (p_var g (v_Ltuples_0).f) rfl (ty_of g (y := .bool) (m := "bool") rfl g_Ltuples_bool f_bool)) g.hK)))))
    ss_nil))
theorem s_Ltuples : FnScope N_Ltuples ["thing"] sc_Ltuples := ⟨by rfl, by rfl, by rfl, by decide +kernel, by rfl, by decide +kernel, by decide +kernel⟩
/-! plus -/
abbrev N_plus : List Str := ["one", "other"]
abbrev sc_plus : Scope := defScope (top 12)
theorem v_plus_0 : Vr N_plus sc_plus 0 ("one" : Str) := vr_of (by decide +kernel)
theorem v_plus_1 : Vr N_plus sc_plus 1 ("other" : Str) := vr_of (by decide +kernel)
theorem g_plus_in_lowest : Gb sc_plus ("in_lowest" : Str) := gb_of (by decide +kernel)
theorem b_plus {G : Gx} (ho : IsiOk G) (h_in_lowest : HasFn G 1 f_in_lowest []) : BodyOk G 1 N_plus sc_plus (defBody (top 12)) ir_plus := fun X W B g T hB =>
    (ss_cons (s_ret (p_call g rfl h_in_lowest g_plus_in_lowest (p_ae (q_bin g (o := .add) rfl (q_bin g (o := .mul) rfl (p_idx g (p_var g (v_plus_0).f) q_cst_int rfl) (p_idx g (p_var g (v_plus_1).f) q_cst_int rfl)) (q_bin g (o := .mul) rfl (p_idx g (p_var g (v_plus_1).f) q_cst_int rfl) (p_idx g (p_var g (v_plus_0).f) q_cst_int rfl))) (p_ae (q_bin g (o := .mul) rfl (p_idx g (p_var g (v_plus_0).f) q_cst_int rfl) (p_idx g (p_var g (v_plus_1).f) q_cst_int rfl)) q_an rfl) rfl) rfl rfl))
    ss_nil)
theorem s_plus : FnScope N_plus ["one", "other"] sc_plus := ⟨by rfl, by rfl, by rfl, by decide +kernel, by rfl, by decide +kernel, by decide +kernel⟩
/-! place_by -/
abbrev N_place_by : List Str := ["place", "step"]
abbrev sc_place_by : Scope := defScope (top 25)
theorem v_place_by_0 : Vr N_place_by sc_place_by 0 ("place" : Str) := vr_of (by decide +kernel)
theorem v_place_by_1 : Vr N_place_by sc_place_by 1 ("step" : Str) := vr_of (by decide +kernel)
theorem g_place_by_plus : Gb sc_place_by ("plus" : Str) := gb_of (by decide +kernel)
theorem b_place_by {G : Gx} (ho : IsiOk G) (h_plus : HasFn G 2 f_plus []) : BodyOk G 2 N_place_by sc_place_by (defBody (top 25)) ir_place_by := fun X W B g T hB =>
    (ss_cons (s_ret (q_tup (p_cons (p_call g rfl h_plus g_place_by_plus (p_ae (p_idx g (p_var g (v_place_by_0).f) q_cst_int rfl) (p_ae (p_idx g (p_var g (v_place_by_1).f) q_cst_int rfl) q_an rfl) rfl) rfl rfl) (p_cons (p_call g rfl h_plus g_place_by_plus (p_ae (p_idx g (p_var g (v_place_by_0).f) q_cst_int rfl) (p_ae (p_idx g (p_var g (v_place_by_1).f) q_cst_int rfl) q_an rfl) rfl) rfl rfl) q_nil rfl) rfl)))
    ss_nil)
theorem s_place_by : FnScope N_place_by ["place", "step"] sc_place_by := ⟨by rfl, by rfl, by rfl, by decide +kernel, by rfl, by decide +kernel, by decide +kernel⟩
/-! law_plus -/
abbrev N_Lplus : List Str := ["one", "other"]
abbrev sc_Lplus : Scope := defScope (top 39)
theorem v_Lplus_0 : Vr N_Lplus sc_Lplus 0 ("one" : Str) := vr_of (by decide +kernel)
theorem v_Lplus_1 : Vr N_Lplus sc_Lplus 1 ("other" : Str) := vr_of (by decide +kernel)
theorem g_Lplus_Lratio : Gb sc_Lplus ("_law_ratio" : Str) := gb_of (by decide +kernel)
theorem b_Lplus {G : Gx} (ho : IsiOk G) (h_Lratio : HasFn G 2 f_Lratio []) : BodyOk G 2 N_Lplus sc_Lplus (defBody (top 39)) ir_Lplus := fun X W B g T hB =>
    (ss_cons (s_ret (p_call g rfl h_Lratio g_Lplus_Lratio (p_ae (q_bin g (o := .add) rfl (q_bin g (o := .mul) rfl (p_idx g (p_var g (v_Lplus_0).f) q_cst_int rfl) (p_idx g (p_var g (v_Lplus_1).f) q_cst_int rfl)) (q_bin g (o := .mul) rfl (p_idx g (p_var g (v_Lplus_1).f) q_cst_int rfl) (p_idx g (p_var g (v_Lplus_0).f) q_cst_int rfl))) (p_ae (q_bin g (o := .mul) rfl (p_idx g (p_var g (v_Lplus_0).f) q_cst_int rfl) (p_idx g (p_var g (v_Lplus_1).f) q_cst_int rfl)) q_an rfl) rfl) rfl rfl))
    ss_nil)
theorem s_Lplus : FnScope N_Lplus ["one", "other"] sc_Lplus := ⟨by rfl, by rfl, by rfl, by decide +kernel, by rfl, by decide +kernel, by decide +kernel⟩
/-! law_by -/
abbrev N_Lby : List Str := ["place", "step"]
abbrev sc_Lby : Scope := defScope (top 51)
theorem v_Lby_0 : Vr N_Lby sc_Lby 0 ("place" : Str) := vr_of (by decide +kernel)
theorem v_Lby_1 : Vr N_Lby sc_Lby 1 ("step" : Str) := vr_of (by decide +kernel)
theorem g_Lby_Lplus : Gb sc_Lby ("_law_plus" : Str) := gb_of (by decide +kernel)
theorem b_Lby {G : Gx} (ho : IsiOk G) (h_Lplus : HasFn G 3 f_Lplus []) : BodyOk G 3 N_Lby sc_Lby (defBody (top 51)) ir_Lby := fun X W B g T hB =>
    (ss_cons (s_ret (q_tup (p_cons (p_call g rfl h_Lplus g_Lby_Lplus (p_ae (p_idx g (p_var g (v_Lby_0).f) q_cst_int rfl) (p_ae (p_idx g (p_var g (v_Lby_1).f) q_cst_int rfl) q_an rfl) rfl) rfl rfl) (p_cons (p_call g rfl h_Lplus g_Lby_Lplus (p_ae (p_idx g (p_var g (v_Lby_0).f) q_cst_int rfl) (p_ae (p_idx g (p_var g (v_Lby_1).f) q_cst_int rfl) q_an rfl) rfl) rfl rfl) q_nil rfl) rfl)))
    ss_nil)
theorem s_Lby : FnScope N_Lby ["place", "step"] sc_Lby := ⟨by rfl, by rfl, by rfl, by decide +kernel, by rfl, by decide +kernel, by decide +kernel⟩
/-! times -/
abbrev N_times : List Str := ["one", "other"]
abbrev sc_times : Scope := defScope (top 14)
theorem v_times_0 : Vr N_times sc_times 0 ("one" : Str) := vr_of (by decide +kernel)
theorem v_times_1 : Vr N_times sc_times 1 ("other" : Str) := vr_of (by decide +kernel)
theorem g_times_in_lowest : Gb sc_times ("in_lowest" : Str) := gb_of (by decide +kernel)
theorem b_times {G : Gx} (ho : IsiOk G) (h_in_lowest : HasFn G 1 f_in_lowest []) : BodyOk G 1 N_times sc_times (defBody (top 14)) ir_times := fun X W B g T hB =>
    (ss_cons (s_ret (p_call g rfl h_in_lowest g_times_in_lowest (p_ae (q_bin g (o := .mul) rfl (p_idx g (p_var g (v_times_0).f) q_cst_int rfl) (p_idx g (p_var g (v_times_1).f) q_cst_int rfl)) (p_ae (q_bin g (o := .mul) rfl (p_idx g (p_var g (v_times_0).f) q_cst_int rfl) (p_idx g (p_var g (v_times_1).f) q_cst_int rfl)) q_an rfl) rfl) rfl rfl))
    ss_nil)
theorem s_times : FnScope N_times ["one", "other"] sc_times := ⟨by rfl, by rfl, by rfl, by decide +kernel, by rfl, by decide +kernel, by decide +kernel⟩
/-! place_on -/
abbrev N_place_on : List Str := ["one", "other", "share", "step"]
abbrev sc_place_on : Scope := defScope (top 26)
theorem v_place_on_0 : Vr N_place_on sc_place_on 0 ("one" : Str) := vr_of (by decide +kernel)
theorem v_place_on_1 : Vr N_place_on sc_place_on 1 ("other" : Str) := vr_of (by decide +kernel)
theorem v_place_on_2 : Vr N_place_on sc_place_on 2 ("share" : Str) := vr_of (by decide +kernel)
theorem v_place_on_3 : Vr N_place_on sc_place_on 3 ("step" : Str) := vr_of (by decide +kernel)
theorem g_place_on_plus : Gb sc_place_on ("plus" : Str) := gb_of (by decide +kernel)
theorem g_place_on_step_from : Gb sc_place_on ("step_from" : Str) := gb_of (by decide +kernel)
theorem g_place_on_times : Gb sc_place_on ("times" : Str) := gb_of (by decide +kernel)
theorem b_place_on {G : Gx} (ho : IsiOk G) (h_plus : HasFn G 3 f_plus []) (h_step_from : HasFn G 3 f_step_from []) (h_times : HasFn G 3 f_times []) : BodyOk G 3 N_place_on sc_place_on (defBody (top 26)) ir_place_on := fun X W B g T hB =>
    (ss_cons (r_asg g T v_place_on_3 (p_call g rfl h_step_from g_place_on_step_from (p_ae (p_var g (v_place_on_0).f) (p_ae (p_var g (v_place_on_1).f) q_an rfl) rfl) rfl rfl) rfl)
    (ss_cons (s_ret (q_tup (p_cons (p_call g rfl h_plus g_place_on_plus (p_ae (p_idx g (p_var g (v_place_on_0).f) q_cst_int rfl) (p_ae (p_call g rfl h_times g_place_on_times (p_ae (p_var g (v_place_on_2).f) (p_ae (p_idx g (p_var g (v_place_on_3).f) q_cst_int rfl) q_an rfl) rfl) rfl rfl) q_an rfl) rfl) rfl rfl) (p_cons (p_call g rfl h_plus g_place_on_plus (p_ae (p_idx g (p_var g (v_place_on_0).f) q_cst_int rfl) (p_ae (p_call g rfl h_times g_place_on_times (p_ae (p_var g (v_place_on_2).f) (p_ae (p_idx g (p_var g (v_place_on_3).f) q_cst_int rfl) q_an rfl) rfl) rfl rfl) q_an rfl) rfl) rfl rfl) q_nil rfl) rfl)))
    ss_nil))
theorem s_place_on : FnScope N_place_on ["one", "other", "share"] sc_place_on := ⟨by rfl, by rfl, by rfl, by decide +kernel, by rfl, by decide +kernel, by decide +kernel⟩
/-! cross_at -/
abbrev N_cross_at : List Str := ["first", "second", "third", "one", "other"]
abbrev sc_cross_at : Scope := defScope (top 27)
theorem v_cross_at_0 : Vr N_cross_at sc_cross_at 0 ("first" : Str) := vr_of (by decide +kernel)
theorem v_cross_at_1 : Vr N_cross_at sc_cross_at 1 ("second" : Str) := vr_of (by decide +kernel)
theorem v_cross_at_2 : Vr N_cross_at sc_cross_at 2 ("third" : Str) := vr_of (by decide +kernel)
theorem v_cross_at_3 : Vr N_cross_at sc_cross_at 3 ("one" : Str) := vr_of (by decide +kernel)
theorem v_cross_at_4 : Vr N_cross_at sc_cross_at 4 ("other" : Str) := vr_of (by decide +kernel)
theorem g_cross_at_minus : Gb sc_cross_at ("minus" : Str) := gb_of (by decide +kernel)
theorem g_cross_at_step_from : Gb sc_cross_at ("step_from" : Str) := gb_of (by decide +kernel)
theorem g_cross_at_times : Gb sc_cross_at ("times" : Str) := gb_of (by decide +kernel)
theorem b_cross_at {G : Gx} (ho : IsiOk G) (h_minus : HasFn G 3 f_minus []) (h_step_from : HasFn G 3 f_step_from []) (h_times : HasFn G 3 f_times []) : BodyOk G 3 N_cross_at sc_cross_at (defBody (top 27)) ir_cross_at := fun X W B g T hB =>
    (ss_cons (r_asg g T v_cross_at_3 (p_call g rfl h_step_from g_cross_at_step_from (p_ae (p_var g (v_cross_at_0).f) (p_ae (p_var g (v_cross_at_1).f) q_an rfl) rfl) rfl rfl) rfl)
    (ss_cons (r_asg g T v_cross_at_4 (p_call g rfl h_step_from g_cross_at_step_from (p_ae (p_var g (v_cross_at_0).f) (p_ae (p_var g (v_cross_at_2).f) q_an rfl) rfl) rfl rfl) rfl)
    (ss_cons (s_ret (p_call g rfl h_minus g_cross_at_minus (p_ae (p_call g rfl h_times g_cross_at_times (p_ae (p_idx g (p_var g (v_cross_at_3).f) q_cst_int rfl) (p_ae (p_idx g (p_var g (v_cross_at_4).f) q_cst_int rfl) q_an rfl) rfl) rfl rfl) (p_ae (p_call g rfl h_times g_cross_at_times (p_ae (p_idx g (p_var g (v_cross_at_3).f) q_cst_int rfl) (p_ae (p_idx g (p_var g (v_cross_at_4).f) q_cst_int rfl) q_an rfl) rfl) rfl rfl) q_an rfl) rfl) rfl rfl))
    ss_nil)))
theorem s_cross_at : FnScope N_cross_at ["first", "second", "third"] sc_cross_at := ⟨by rfl, by rfl, by rfl, by decide +kernel, by rfl, by decide +kernel, by decide +kernel⟩
/-! law_cross -/
abbrev N_Lcross : List Str := ["first", "second", "third", "one", "other"]
abbrev sc_Lcross : Scope := defScope (top 44)
theorem v_Lcross_0 : Vr N_Lcross sc_Lcross 0 ("first" : Str) := vr_of (by decide +kernel)
theorem v_Lcross_1 : Vr N_Lcross sc_Lcross 1 ("second" : Str) := vr_of (by decide +kernel)
theorem v_Lcross_2 : Vr N_Lcross sc_Lcross 2 ("third" : Str) := vr_of (by decide +kernel)
theorem v_Lcross_3 : Vr N_Lcross sc_Lcross 3 ("one" : Str) := vr_of (by decide +kernel)
theorem v_Lcross_4 : Vr N_Lcross sc_Lcross 4 ("other" : Str) := vr_of (by decide +kernel)
theorem g_Lcross_Lless : Gb sc_Lcross ("_law_less" : Str) := gb_of (by decide +kernel)
theorem g_Lcross_Ltimes : Gb sc_Lcross ("_law_times" : Str) := gb_of (by decide +kernel)
theorem b_Lcross {G : Gx} (ho : IsiOk G) (h_Lless : HasFn G 3 f_Lless []) (h_Ltimes : HasFn G 3 f_Ltimes []) : BodyOk G 3 N_Lcross sc_Lcross (defBody (top 44)) ir_Lcross := fun X W B g T hB =>
    (ss_cons (r_asg g T v_Lcross_3 (q_tup (p_cons (p_call g rfl h_Lless g_Lcross_Lless (p_ae (p_idx g (p_var g (v_Lcross_1).f) q_cst_int rfl) (p_ae (p_idx g (p_var g (v_Lcross_0).f) q_cst_int rfl) q_an rfl) rfl) rfl rfl) (p_cons (p_call g rfl h_Lless g_Lcross_Lless (p_ae (p_idx g (p_var g (v_Lcross_1).f) q_cst_int rfl) (p_ae (p_idx g (p_var g (v_Lcross_0).f) q_cst_int rfl) q_an rfl) rfl) rfl rfl) q_nil rfl) rfl)) rfl)
    (ss_cons (r_asg g T v_Lcross_4 (q_tup (p_cons (p_call g rfl h_Lless g_Lcross_Lless (p_ae (p_idx g (p_var g (v_Lcross_2).f) q_cst_int rfl) (p_ae (p_idx g (p_var g (v_Lcross_0).f) q_cst_int rfl) q_an rfl) rfl) rfl rfl) (p_cons (p_call g rfl h_Lless g_Lcross_Lless (p_ae (p_idx g (p_var g (v_Lcross_2).f) q_cst_int rfl) (p_ae (p_idx g (p_var g (v_Lcross_0).f) q_cst_int rfl) q_an rfl) rfl) rfl rfl) q_nil rfl) rfl)) rfl)
    (ss_cons (s_ret (p_call g rfl h_Lless g_Lcross_Lless (p_ae (p_call g rfl h_Ltimes g_Lcross_Ltimes (p_ae (p_idx g (p_var g (v_Lcross_3).f) q_cst_int rfl) (p_ae (p_idx g (p_var g (v_Lcross_4).f) q_cst_int rfl) q_an rfl) rfl) rfl rfl) (p_ae (p_call g rfl h_Ltimes g_Lcross_Ltimes (p_ae (p_idx g (p_var g (v_Lcross_3).f) q_cst_int rfl) (p_ae (p_idx g (p_var g (v_Lcross_4).f) q_cst_int rfl) q_an rfl) rfl) rfl rfl) q_an rfl) rfl) rfl rfl))
    ss_nil)))
theorem s_Lcross : FnScope N_Lcross ["first", "second", "third"] sc_Lcross := ⟨by rfl, by rfl, by rfl, by decide +kernel, by rfl, by decide +kernel, by decide +kernel⟩
/-! mean_place -/
abbrev N_mean_place : List Str := ["places", "total", "place", "share"]
abbrev sc_mean_place : Scope := defScope (top 28)
theorem v_mean_place_0 : Vr N_mean_place sc_mean_place 0 ("places" : Str) := vr_of (by decide +kernel)
theorem v_mean_place_1 : Vr N_mean_place sc_mean_place 1 ("total" : Str) := vr_of (by decide +kernel)
theorem v_mean_place_2 : Vr N_mean_place sc_mean_place 2 ("place" : Str) := vr_of (by decide +kernel)
theorem v_mean_place_3 : Vr N_mean_place sc_mean_place 3 ("share" : Str) := vr_of (by decide +kernel)
theorem g_mean_place_ZERO : Gb sc_mean_place ("ZERO" : Str) := gb_of (by decide +kernel)
theorem g_mean_place_len : Gb sc_mean_place ("len" : Str) := gb_of (by decide +kernel)
theorem g_mean_place_place_by : Gb sc_mean_place ("place_by" : Str) := gb_of (by decide +kernel)
theorem g_mean_place_times : Gb sc_mean_place ("times" : Str) := gb_of (by decide +kernel)
theorem b_mean_place {G : Gx} (ho : IsiOk G) (c_ZERO : GloOk G "ZERO" (.tup [.int 0, .int 1])) (f_len : G.mg "len" = none) (h_place_by : HasFn G 3 f_place_by []) (h_times : HasFn G 3 f_times []) : BodyOk G 3 N_mean_place sc_mean_place (defBody (top 28)) ir_mean_place := fun X W B g T hB =>
    (ss_cons (r_asg g T v_mean_place_1 (q_tup (p_cons (p_glo g c_ZERO g_mean_place_ZERO) (p_cons (p_glo g c_ZERO g_mean_place_ZERO) q_nil rfl) rfl)) rfl)
    (ss_cons (r_for g T (i_seq' g (p_var g (v_mean_place_0).f)) (t_nm g v_mean_place_2 (.inl (T.fn _))) (ss_cons (r_asg g T v_mean_place_1 (p_call g rfl h_place_by g_mean_place_place_by (p_ae (p_var g (v_mean_place_1).f) (p_ae (p_var g (v_mean_place_2).f) q_an rfl) rfl) rfl rfl) rfl)
    ss_nil) (fun _ => rfl))
    (ss_cons (r_asg g T v_mean_place_3 (q_tup (p_cons q_cst_int (p_cons (p_bi g (bb := .len) (fun z => by rcases z with z | z <;> cases z) rfl f_len g_mean_place_len (p_cons (p_var g (v_mean_place_0).f) q_nil rfl) rfl rfl) q_nil rfl) rfl)) rfl)
    (ss_cons (s_ret (q_tup (p_cons (p_call g rfl h_times g_mean_place_times (p_ae (p_idx g (p_var g (v_mean_place_1).f) q_cst_int rfl) (p_ae (p_var g (v_mean_place_3).f) q_an rfl) rfl) rfl rfl) (p_cons (p_call g rfl h_times g_mean_place_times (p_ae (p_idx g (p_var g (v_mean_place_1).f) q_cst_int rfl) (p_ae (p_var g (v_mean_place_3).f) q_an rfl) rfl) rfl rfl) q_nil rfl) rfl)))
    ss_nil))))
theorem s_mean_place : FnScope N_mean_place ["places"] sc_mean_place := ⟨by rfl, by rfl, by rfl, by decide +kernel, by rfl, by decide +kernel, by decide +kernel⟩
/-! negative -/
abbrev N_negative : List Str := ["one"]
abbrev sc_negative : Scope := defScope (top 15)
theorem v_negative_0 : Vr N_negative sc_negative 0 ("one" : Str) := vr_of (by decide +kernel)
theorem b_negative {G : Gx} (ho : IsiOk G)  : BodyOk G 0 N_negative sc_negative (defBody (top 15)) ir_negative := fun X W B g T hB =>
    (ss_cons (s_ret (q_tup (p_cons (q_neg (p_idx g (p_var g (v_negative_0).f) q_cst_int rfl)) (p_cons (p_idx g (p_var g (v_negative_0).f) q_cst_int rfl) q_nil rfl) rfl)))
    ss_nil)
theorem s_negative : FnScope N_negative ["one"] sc_negative := ⟨by rfl, by rfl, by rfl, by decide +kernel, by rfl, by decide +kernel, by decide +kernel⟩
/-! turn_place -/
abbrev N_turn_place : List Str := ["place"]
abbrev sc_turn_place : Scope := defScope (top 30)
theorem v_turn_place_0 : Vr N_turn_place sc_turn_place 0 ("place" : Str) := vr_of (by decide +kernel)
theorem g_turn_place_negative : Gb sc_turn_place ("negative" : Str) := gb_of (by decide +kernel)
theorem b_turn_place {G : Gx} (ho : IsiOk G) (h_negative : HasFn G 1 f_negative []) : BodyOk G 1 N_turn_place sc_turn_place (defBody (top 30)) ir_turn_place := fun X W B g T hB =>
    (ss_cons (s_ret (q_tup (p_cons (p_call g rfl h_negative g_turn_place_negative (p_ae (p_idx g (p_var g (v_turn_place_0).f) q_cst_int rfl) q_an rfl) rfl rfl) (p_cons (p_idx g (p_var g (v_turn_place_0).f) q_cst_int rfl) q_nil rfl) rfl)))
    ss_nil)
theorem s_turn_place : FnScope N_turn_place ["place"] sc_turn_place := ⟨by rfl, by rfl, by rfl, by decide +kernel, by rfl, by decide +kernel, by decide +kernel⟩
/-! mirror_place -/
abbrev N_mirror_place : List Str := ["place"]
abbrev sc_mirror_place : Scope := defScope (top 31)
theorem v_mirror_place_0 : Vr N_mirror_place sc_mirror_place 0 ("place" : Str) := vr_of (by decide +kernel)
theorem g_mirror_place_negative : Gb sc_mirror_place ("negative" : Str) := gb_of (by decide +kernel)
theorem b_mirror_place {G : Gx} (ho : IsiOk G) (h_negative : HasFn G 1 f_negative []) : BodyOk G 1 N_mirror_place sc_mirror_place (defBody (top 31)) ir_mirror_place := fun X W B g T hB =>
    (ss_cons (s_ret (q_tup (p_cons (p_call g rfl h_negative g_mirror_place_negative (p_ae (p_idx g (p_var g (v_mirror_place_0).f) q_cst_int rfl) q_an rfl) rfl rfl) (p_cons (p_idx g (p_var g (v_mirror_place_0).f) q_cst_int rfl) q_nil rfl) rfl)))
    ss_nil)
theorem s_mirror_place : FnScope N_mirror_place ["place"] sc_mirror_place := ⟨by rfl, by rfl, by rfl, by decide +kernel, by rfl, by decide +kernel, by decide +kernel⟩
/-! grow_place -/
abbrev N_grow_place : List Str := ["place", "size"]
abbrev sc_grow_place : Scope := defScope (top 32)
theorem v_grow_place_0 : Vr N_grow_place sc_grow_place 0 ("place" : Str) := vr_of (by decide +kernel)
theorem v_grow_place_1 : Vr N_grow_place sc_grow_place 1 ("size" : Str) := vr_of (by decide +kernel)
theorem g_grow_place_times : Gb sc_grow_place ("times" : Str) := gb_of (by decide +kernel)
theorem b_grow_place {G : Gx} (ho : IsiOk G) (h_times : HasFn G 2 f_times []) : BodyOk G 2 N_grow_place sc_grow_place (defBody (top 32)) ir_grow_place := fun X W B g T hB =>
    (ss_cons (s_ret (q_tup (p_cons (p_call g rfl h_times g_grow_place_times (p_ae (p_idx g (p_var g (v_grow_place_0).f) q_cst_int rfl) (p_ae (p_var g (v_grow_place_1).f) q_an rfl) rfl) rfl rfl) (p_cons (p_call g rfl h_times g_grow_place_times (p_ae (p_idx g (p_var g (v_grow_place_0).f) q_cst_int rfl) (p_ae (p_var g (v_grow_place_1).f) q_an rfl) rfl) rfl rfl) q_nil rfl) rfl)))
    ss_nil)
theorem s_grow_place : FnScope N_grow_place ["place", "size"] sc_grow_place := ⟨by rfl, by rfl, by rfl, by decide +kernel, by rfl, by decide +kernel, by decide +kernel⟩
/-! shortened -/
abbrev N_shortened : List Str := ["across_x", "across_y", "shared"]
abbrev sc_shortened : Scope := defScope (top 21)
theorem v_shortened_0 : Vr N_shortened sc_shortened 0 ("across_x" : Str) := vr_of (by decide +kernel)
theorem v_shortened_1 : Vr N_shortened sc_shortened 1 ("across_y" : Str) := vr_of (by decide +kernel)
theorem v_shortened_2 : Vr N_shortened sc_shortened 2 ("shared" : Str) := vr_of (by decide +kernel)
theorem g_shortened_BadDirection : Gb sc_shortened ("BadDirection" : Str) := gb_of (by decide +kernel)
theorem g_shortened_gcd : Gb sc_shortened ("gcd" : Str) := gb_of (by decide +kernel)
theorem b_shortened {G : Gx} (ho : IsiOk G) (e_BadDirection : ExcOk G ("BadDirection" : Str) 0 []) (f_gcd : G.mg "gcd" = some (.builtin "math.gcd")) : BodyOk G 2 N_shortened sc_shortened (defBody (top 21)) ir_shortened := fun X W B g T hB =>
    (ss_cons (r_asg g T v_shortened_2 (p_bi g (bb := .gcd) (fun z => by rcases z with z | z <;> cases z) rfl f_gcd g_shortened_gcd (p_cons (p_var g (v_shortened_0).f) (p_cons (p_var g (v_shortened_1).f) q_nil rfl) rfl) rfl rfl) rfl)
    (ss_cons (s_if (q_cmpT g (o := .eq) rfl (p_var g (v_shortened_2).f) q_cst_int rfl) (ss_cons (r_rai0 g e_BadDirection g_shortened_BadDirection)
    ss_nil) ss_nil)
    (ss_cons (s_ret (q_tup (p_cons (q_bin g (o := .fdiv) rfl (p_var g (v_shortened_0).f) (p_var g (v_shortened_2).f)) (p_cons (q_bin g (o := .fdiv) rfl (p_var g (v_shortened_1).f) (p_var g (v_shortened_2).f)) q_nil rfl) rfl)))
    ss_nil)))
theorem s_shortened : FnScope N_shortened ["across_x", "across_y"] sc_shortened := ⟨by rfl, by rfl, by rfl, by decide +kernel, by rfl, by decide +kernel, by decide +kernel⟩
/-! direction_of -/
abbrev N_direction_of : List Str := ["step"]
abbrev sc_direction_of : Scope := defScope (top 22)
theorem v_direction_of_0 : Vr N_direction_of sc_direction_of 0 ("step" : Str) := vr_of (by decide +kernel)
theorem g_direction_of_shortened : Gb sc_direction_of ("shortened" : Str) := gb_of (by decide +kernel)
theorem b_direction_of {G : Gx} (ho : IsiOk G) (h_shortened : HasFn G 3 f_shortened []) : BodyOk G 3 N_direction_of sc_direction_of (defBody (top 22)) ir_direction_of := fun X W B g T hB =>
    (ss_cons (s_ret (p_call g rfl h_shortened g_direction_of_shortened (p_ae (q_bin g (o := .mul) rfl (p_idx g (p_idx g (p_var g (v_direction_of_0).f) q_cst_int rfl) q_cst_int rfl) (p_idx g (p_idx g (p_var g (v_direction_of_0).f) q_cst_int rfl) q_cst_int rfl)) (p_ae (q_bin g (o := .mul) rfl (p_idx g (p_idx g (p_var g (v_direction_of_0).f) q_cst_int rfl) q_cst_int rfl) (p_idx g (p_idx g (p_var g (v_direction_of_0).f) q_cst_int rfl) q_cst_int rfl)) q_an rfl) rfl) rfl rfl))
    ss_nil)
theorem s_direction_of : FnScope N_direction_of ["step"] sc_direction_of := ⟨by rfl, by rfl, by rfl, by decide +kernel, by rfl, by decide +kernel, by decide +kernel⟩
/-! side_normal -/
abbrev N_side_normal : List Str := ["one", "other", "way"]
abbrev sc_side_normal : Scope := defScope (top 29)
theorem v_side_normal_0 : Vr N_side_normal sc_side_normal 0 ("one" : Str) := vr_of (by decide +kernel)
theorem v_side_normal_1 : Vr N_side_normal sc_side_normal 1 ("other" : Str) := vr_of (by decide +kernel)
theorem v_side_normal_2 : Vr N_side_normal sc_side_normal 2 ("way" : Str) := vr_of (by decide +kernel)
theorem g_side_normal_direction_of : Gb sc_side_normal ("direction_of" : Str) := gb_of (by decide +kernel)
theorem g_side_normal_step_from : Gb sc_side_normal ("step_from" : Str) := gb_of (by decide +kernel)
theorem b_side_normal {G : Gx} (ho : IsiOk G) (h_direction_of : HasFn G 4 f_direction_of []) (h_step_from : HasFn G 4 f_step_from []) : BodyOk G 4 N_side_normal sc_side_normal (defBody (top 29)) ir_side_normal := fun X W B g T hB =>
    (ss_cons (r_asg g T v_side_normal_2 (p_call g rfl h_direction_of g_side_normal_direction_of (p_ae (p_call g rfl h_step_from g_side_normal_step_from (p_ae (p_var g (v_side_normal_0).f) (p_ae (p_var g (v_side_normal_1).f) q_an rfl) rfl) rfl rfl) q_an rfl) rfl rfl) rfl)
    (ss_cons (s_ret (q_tup (p_cons (p_idx g (p_var g (v_side_normal_2).f) q_cst_int rfl) (p_cons (q_neg (p_idx g (p_var g (v_side_normal_2).f) q_cst_int rfl)) q_nil rfl) rfl)))
    ss_nil))
theorem s_side_normal : FnScope N_side_normal ["one", "other"] sc_side_normal := ⟨by rfl, by rfl, by rfl, by decide +kernel, by rfl, by decide +kernel, by decide +kernel⟩
/-! law_normal -/
abbrev N_Lnormal : List Str := ["one", "other", "found"]
abbrev sc_Lnormal : Scope := defScope (top 57)
theorem v_Lnormal_0 : Vr N_Lnormal sc_Lnormal 0 ("one" : Str) := vr_of (by decide +kernel)
theorem v_Lnormal_1 : Vr N_Lnormal sc_Lnormal 1 ("other" : Str) := vr_of (by decide +kernel)
theorem v_Lnormal_2 : Vr N_Lnormal sc_Lnormal 2 ("found" : Str) := vr_of (by decide +kernel)
theorem g_Lnormal_BadDirection : Gb sc_Lnormal ("BadDirection" : Str) := gb_of (by decide +kernel)
theorem g_Lnormal_side_normal : Gb sc_Lnormal ("side_normal" : Str) := gb_of (by decide +kernel)
theorem b_Lnormal {G : Gx} (ho : IsiOk G) (h_side_normal : HasFn G 5 f_side_normal []) (t_BadDirection : TryOk G ("BadDirection" : Str) [("BadDirection" : Str)] [("BadPlace" : Str), ("BadAmount" : Str), ("BadSize" : Str)]) : BodyOk G 5 N_Lnormal sc_Lnormal (defBody (top 57)) ir_Lnormal := fun X W B g T hB =>
    (ss_cons (r_try g T hB t_BadDirection g_Lnormal_BadDirection (fun X' W' g' T => (ss_cons (r_asg g' T v_Lnormal_2 (p_call g' rfl h_side_normal g_Lnormal_side_normal (p_ae (p_var g' (v_Lnormal_0).f) (p_ae (p_var g' (v_Lnormal_1).f) q_an rfl) rfl) rfl rfl) rfl)
    ss_nil)) (fun X' B' g' => (ss_cons (s_ret q_cst_str)
    ss_nil)))
    (ss_cons (s_ret (p_var g (v_Lnormal_2).f))
    ss_nil))
theorem s_Lnormal : FnScope N_Lnormal ["one", "other"] sc_Lnormal := ⟨by rfl, by rfl, by rfl, by decide +kernel, by rfl, by decide +kernel, by decide +kernel⟩
/-! law_amount -/
abbrev N_Lamount : List Str := ["direction", "place"]
abbrev sc_Lamount : Scope := defScope (top 42)
theorem v_Lamount_0 : Vr N_Lamount sc_Lamount 0 ("direction" : Str) := vr_of (by decide +kernel)
theorem v_Lamount_1 : Vr N_Lamount sc_Lamount 1 ("place" : Str) := vr_of (by decide +kernel)
theorem g_Lamount_Lplus : Gb sc_Lamount ("_law_plus" : Str) := gb_of (by decide +kernel)
theorem g_Lamount_Ltimes : Gb sc_Lamount ("_law_times" : Str) := gb_of (by decide +kernel)
theorem b_Lamount {G : Gx} (ho : IsiOk G) (h_Lplus : HasFn G 3 f_Lplus []) (h_Ltimes : HasFn G 3 f_Ltimes []) : BodyOk G 3 N_Lamount sc_Lamount (defBody (top 42)) ir_Lamount := fun X W B g T hB =>
    (ss_cons (s_ret (p_call g rfl h_Lplus g_Lamount_Lplus (p_ae (p_call g rfl h_Ltimes g_Lamount_Ltimes (p_ae (q_tup (p_cons (p_idx g (p_var g (v_Lamount_0).f) q_cst_int rfl) (p_cons q_cst_int q_nil rfl) rfl)) (p_ae (p_idx g (p_var g (v_Lamount_1).f) q_cst_int rfl) q_an rfl) rfl) rfl rfl) (p_ae (p_call g rfl h_Ltimes g_Lamount_Ltimes (p_ae (q_tup (p_cons (p_idx g (p_var g (v_Lamount_0).f) q_cst_int rfl) (p_cons q_cst_int q_nil rfl) rfl)) (p_ae (p_idx g (p_var g (v_Lamount_1).f) q_cst_int rfl) q_an rfl) rfl) rfl rfl) q_an rfl) rfl) rfl rfl))
    ss_nil)
theorem s_Lamount : FnScope N_Lamount ["direction", "place"] sc_Lamount := ⟨by rfl, by rfl, by rfl, by decide +kernel, by rfl, by decide +kernel, by decide +kernel⟩
/-! law -/
abbrev N_law : List Str := ["script", "hand", "places", "turn", "one", "other", "third", "way", "share", "size", "told", "step", "part", "many", "row", "x", "y", "place", "due", "along"]
abbrev sc_law : Scope := defScope (top 59)
abbrev ir_law : List S := [.asgM 1 (.call f_Lhand (.e (.var 0) (.nil)) []),
    .asgM 2 (.comp (List.map (·.2) ([(("turn" : Str), 3)] : List (Str × Nat))) (.nm 3) (.rng1 (.cst (.int 4))) (.nil) (.call f_Lplace (.b 1 (.nil)) [])),
    .ifS (.cmp .eq (.call f_Ltake (.b 1 (.e (.cst (.int 4)) (.nil))) []) (.cst (.int 0))) [.setI 2 (.cst (.int 1)) (.idxB 2 (.cst (.int 0)))] [],
    .asg (.tp [.nm 4, .nm 5, .nm 6]) (.tup (.cons (.idx (.var 2) (.cst (.int 0))) (.cons (.idx (.var 2) (.cst (.int 1))) (.cons (.idx (.var 2) (.cst (.int 2))) .nil)))),
    .asg (.nm 7) (.call f_Lany_way (.b 1 (.nil)) []),
    .asg (.tp [.nm 8, .nm 9]) (.tup (.cons (.call f_Lsmall (.b 1 (.nil)) []) (.cons (.call f_Lratio (.e (.bin .add (.cst (.int 1)) (.call f_Ltake (.b 1 (.e (.cst (.int 9)) (.nil))) [])) (.e (.bin .add (.cst (.int 1)) (.call f_Ltake (.b 1 (.e (.cst (.int 5)) (.nil))) [])) (.nil))) []) .nil))),
    .asg (.nm 10) (.call f_amount_at (.e (.var 7) (.e (.var 4) (.nil))) []),
    .ifS (.bo false (.cons (.no (.e (.call f_Lplain (.e (.var 10) (.e (.call f_Lamount (.e (.var 7) (.e (.var 4) (.nil))) []) (.nil))) []))) (.cons (.cmp .ne (.call f_amount_at (.e (.frz (.lst (.var 7))) (.e (.frz (.lst (.var 4))) (.nil))) []) (.var 10)) (.nil)))) [.ret (.cst (.bl false))] [],
    .asg (.nm 11) (.call f_step_from (.e (.var 4) (.e (.var 5) (.nil))) []),
    .ifS (.bo false (.cons (.cmp .ne (.var 11) (.call f_Lstep (.e (.var 4) (.e (.var 5) (.nil))) [])) (.cons (.no (.e (.call f_Ltuples (.e (.var 11) (.nil)) []))) (.cons (.cmp .ne (.call f_place_by (.e (.var 4) (.e (.var 11) (.nil))) []) (.var 5)) (.cons (.cmp .ne (.call f_place_by (.e (.frz (.lst (.var 6))) (.e (.frz (.lst (.var 11))) (.nil))) []) (.call f_Lby (.e (.var 6) (.e (.var 11) (.nil))) [])) (.nil)))))) [.ret (.cst (.bl false))] [],
    .asg (.nm 12) (.tup (.cons (.call f_Ltimes (.e (.var 8) (.e (.idx (.var 11) (.cst (.int 0))) (.nil))) []) (.cons (.call f_Ltimes (.e (.var 8) (.e (.idx (.var 11) (.cst (.int 1))) (.nil))) []) (.nil)))),
    .ifS (.bo false (.cons (.cmp .ne (.call f_place_on (.e (.var 4) (.e (.var 5) (.e (.var 8) (.nil)))) []) (.call f_Lby (.e (.var 4) (.e (.var 12) (.nil))) [])) (.cons (.cmp .ne (.call f_place_on (.e (.var 4) (.e (.var 5) (.e (.tup (.cons (.cst (.int 0)) (.cons (.cst (.int 1)) (.nil)))) (.nil)))) []) (.var 4)) (.cons (.cmp .ne (.call f_place_on (.e (.frz (.lst (.var 4))) (.e (.frz (.lst (.var 5))) (.e (.tup (.cons (.cst (.int 1)) (.cons (.cst (.int 1)) (.nil)))) (.nil)))) []) (.var 5)) (.nil))))) [.ret (.cst (.bl false))] [],
    .ifS (.bo false (.cons (.cmp .ne (.call f_cross_at (.e (.var 4) (.e (.var 5) (.e (.var 6) (.nil)))) []) (.call f_Lcross (.e (.var 4) (.e (.var 5) (.e (.var 6) (.nil)))) [])) (.cons (.cmp .ne (.call f_cross_at (.e (.var 4) (.e (.var 4) (.e (.var 6) (.nil)))) []) (.tup (.cons (.cst (.int 0)) (.cons (.cst (.int 1)) (.nil))))) (.nil)))) [.ret (.cst (.bl false))] [],
    .asg (.nm 13) (.bin .add (.cst (.int 1)) (.call f_Ltake (.b 1 (.e (.cst (.int 4)) (.nil))) [])),
    .asgM 14 (.comp (List.map (·.2) ([(("turn" : Str), 3)] : List (Str × Nat))) (.nm 3) (.rng1 (.var 13)) (.nil) (.idx (.var 2) (.call f_Ltake (.b 1 (.e (.cst (.int 4)) (.nil))) []))),
    .asg (.tp [.nm 15, .nm 16]) (.tup (.cons (.tup (.cons (.cst (.int 0)) (.cons (.cst (.int 1)) (.nil)))) (.cons (.tup (.cons (.cst (.int 0)) (.cons (.cst (.int 1)) (.nil)))) (.nil)))),
    .forS (.nm 17) (.seq (.var 14)) [.asg (.tp [.nm 15, .nm 16]) (.tup (.cons (.call f_Lplus (.e (.var 15) (.e (.idx (.var 17) (.cst (.int 0))) (.nil))) []) (.cons (.call f_Lplus (.e (.var 16) (.e (.idx (.var 17) (.cst (.int 1))) (.nil))) []) .nil)))],
    .ifS (.bo false (.cons (.cmp .ne (.call f_mean_place (.e (.var 14) (.nil)) []) (.tup (.cons (.call f_Ltimes (.e (.var 15) (.e (.tup (.cons (.cst (.int 1)) (.cons (.var 13) (.nil)))) (.nil))) []) (.cons (.call f_Ltimes (.e (.var 16) (.e (.tup (.cons (.cst (.int 1)) (.cons (.var 13) (.nil)))) (.nil))) []) (.nil))))) (.cons (.no (.e (.call f_Ltuples (.e (.call f_mean_place (.e (.bi .tuple (.cons (.var 14) (.nil))) (.nil)) []) (.nil)) []))) (.nil)))) [.ret (.cst (.bl false))] [],
    .ifS (.bo false (.cons (.cmp .ne (.call f_turn_place (.e (.var 4) (.nil)) []) (.tup (.cons (.tup (.cons (.neg (.idx (.idx (.var 4) (.cst (.int 1))) (.cst (.int 0)))) (.cons (.idx (.idx (.var 4) (.cst (.int 1))) (.cst (.int 1))) (.nil)))) (.cons (.idx (.var 4) (.cst (.int 0))) (.nil))))) (.cons (.cmp .ne (.call f_mirror_place (.e (.var 4) (.nil)) []) (.tup (.cons (.tup (.cons (.neg (.idx (.idx (.var 4) (.cst (.int 0))) (.cst (.int 0)))) (.cons (.idx (.idx (.var 4) (.cst (.int 0))) (.cst (.int 1))) (.nil)))) (.cons (.idx (.var 4) (.cst (.int 1))) (.nil))))) (.nil)))) [.ret (.cst (.bl false))] [],
    .ifS (.bo false (.cons (.cmp .ne (.call f_grow_place (.e (.var 4) (.e (.var 9) (.nil))) []) (.tup (.cons (.call f_Ltimes (.e (.idx (.var 4) (.cst (.int 0))) (.e (.var 9) (.nil))) []) (.cons (.call f_Ltimes (.e (.idx (.var 4) (.cst (.int 1))) (.e (.var 9) (.nil))) []) (.nil))))) (.cons (.no (.e (.call f_Ltuples (.e (.call f_grow_place (.e (.frz (.lst (.var 4))) (.e (.var 9) (.nil))) []) (.nil)) []))) (.nil)))) [.ret (.cst (.bl false))] [],
    .asg (.nm 18) (.cst (.str ("refused" : Str))),
    .ifS (.cmp .ne (.var 4) (.var 5)) [.asg (.nm 19) (.call f_Ldirection (.e (.bin .mul (.idx (.idx (.var 11) (.cst (.int 0))) (.cst (.int 0))) (.idx (.idx (.var 11) (.cst (.int 1))) (.cst (.int 1)))) (.e (.bin .mul (.idx (.idx (.var 11) (.cst (.int 1))) (.cst (.int 0))) (.idx (.idx (.var 11) (.cst (.int 0))) (.cst (.int 1)))) (.nil))) []),
    .asg (.nm 18) (.tup (.cons (.idx (.var 19) (.cst (.int 1))) (.cons (.neg (.idx (.var 19) (.cst (.int 0)))) (.nil))))] [],
    .ret (.bo true (.cons (.cmp .eq (.call f_Lnormal (.e (.var 4) (.e (.var 5) (.nil))) []) (.var 18)) (.cons (.cmp .eq (.call f_Lnormal (.e (.var 4) (.e (.var 4) (.nil))) []) (.cst (.str ("refused" : Str)))) (.cons (.call f_Lchecks (.e (.var 6) (.e (.call f_Lamount (.e (.var 7) (.e (.var 6) (.nil))) []) (.nil))) []) (.nil)))))]
def f_law : FS := mkFS ("law" : Str) 1 19 none false ir_law
theorem v_law_0 : Vr N_law sc_law 0 ("script" : Str) := vr_of (by decide +kernel)
theorem v_law_1 : Vr N_law sc_law 1 ("hand" : Str) := vr_of (by decide +kernel)
theorem v_law_2 : Vr N_law sc_law 2 ("places" : Str) := vr_of (by decide +kernel)
theorem v_law_4 : Vr N_law sc_law 4 ("one" : Str) := vr_of (by decide +kernel)
theorem v_law_5 : Vr N_law sc_law 5 ("other" : Str) := vr_of (by decide +kernel)
theorem v_law_6 : Vr N_law sc_law 6 ("third" : Str) := vr_of (by decide +kernel)
theorem v_law_7 : Vr N_law sc_law 7 ("way" : Str) := vr_of (by decide +kernel)
theorem v_law_8 : Vr N_law sc_law 8 ("share" : Str) := vr_of (by decide +kernel)
theorem v_law_9 : Vr N_law sc_law 9 ("size" : Str) := vr_of (by decide +kernel)
theorem v_law_10 : Vr N_law sc_law 10 ("told" : Str) := vr_of (by decide +kernel)
theorem v_law_11 : Vr N_law sc_law 11 ("step" : Str) := vr_of (by decide +kernel)
theorem v_law_12 : Vr N_law sc_law 12 ("part" : Str) := vr_of (by decide +kernel)
theorem v_law_13 : Vr N_law sc_law 13 ("many" : Str) := vr_of (by decide +kernel)
theorem v_law_14 : Vr N_law sc_law 14 ("row" : Str) := vr_of (by decide +kernel)
theorem v_law_15 : Vr N_law sc_law 15 ("x" : Str) := vr_of (by decide +kernel)
theorem v_law_16 : Vr N_law sc_law 16 ("y" : Str) := vr_of (by decide +kernel)
theorem v_law_17 : Vr N_law sc_law 17 ("place" : Str) := vr_of (by decide +kernel)
theorem v_law_18 : Vr N_law sc_law 18 ("due" : Str) := vr_of (by decide +kernel)
theorem v_law_19 : Vr N_law sc_law 19 ("along" : Str) := vr_of (by decide +kernel)
theorem g_law_Lamount : Gb sc_law ("_law_amount" : Str) := gb_of (by decide +kernel)
theorem g_law_Lany_way : Gb sc_law ("_law_any_way" : Str) := gb_of (by decide +kernel)
theorem g_law_Lby : Gb sc_law ("_law_by" : Str) := gb_of (by decide +kernel)
theorem g_law_Lchecks : Gb sc_law ("_law_checks" : Str) := gb_of (by decide +kernel)
theorem g_law_Lcross : Gb sc_law ("_law_cross" : Str) := gb_of (by decide +kernel)
theorem g_law_Ldirection : Gb sc_law ("_law_direction" : Str) := gb_of (by decide +kernel)
theorem g_law_Lhand : Gb sc_law ("_law_hand" : Str) := gb_of (by decide +kernel)
theorem g_law_Lnormal : Gb sc_law ("_law_normal" : Str) := gb_of (by decide +kernel)
theorem g_law_Lplain : Gb sc_law ("_law_plain" : Str) := gb_of (by decide +kernel)
theorem g_law_Lplus : Gb sc_law ("_law_plus" : Str) := gb_of (by decide +kernel)
theorem g_law_Lratio : Gb sc_law ("_law_ratio" : Str) := gb_of (by decide +kernel)
theorem g_law_Lsmall : Gb sc_law ("_law_small" : Str) := gb_of (by decide +kernel)
theorem g_law_Lstep : Gb sc_law ("_law_step" : Str) := gb_of (by decide +kernel)
theorem g_law_Ltake : Gb sc_law ("_law_take" : Str) := gb_of (by decide +kernel)
theorem g_law_Ltimes : Gb sc_law ("_law_times" : Str) := gb_of (by decide +kernel)
theorem g_law_Ltuples : Gb sc_law ("_law_tuples" : Str) := gb_of (by decide +kernel)
theorem g_law_amount_at : Gb sc_law ("amount_at" : Str) := gb_of (by decide +kernel)
theorem g_law_cross_at : Gb sc_law ("cross_at" : Str) := gb_of (by decide +kernel)
theorem g_law_grow_place : Gb sc_law ("grow_place" : Str) := gb_of (by decide +kernel)
theorem g_law_list : Gb sc_law ("list" : Str) := gb_of (by decide +kernel)
theorem g_law_mean_place : Gb sc_law ("mean_place" : Str) := gb_of (by decide +kernel)
theorem g_law_mirror_place : Gb sc_law ("mirror_place" : Str) := gb_of (by decide +kernel)
theorem g_law_place_by : Gb sc_law ("place_by" : Str) := gb_of (by decide +kernel)
theorem g_law_place_on : Gb sc_law ("place_on" : Str) := gb_of (by decide +kernel)
theorem g_law_range : Gb sc_law ("range" : Str) := gb_of (by decide +kernel)
theorem g_law_step_from : Gb sc_law ("step_from" : Str) := gb_of (by decide +kernel)
theorem g_law_tuple : Gb sc_law ("tuple" : Str) := gb_of (by decide +kernel)
theorem g_law_turn_place : Gb sc_law ("turn_place" : Str) := gb_of (by decide +kernel)
theorem b_law {G : Gx} (ho : IsiOk G) (f_list : G.mg "list" = none) (f_range : G.mg "range" = none) (f_tuple : G.mg "tuple" = none) (h_Lamount : HasFn G 9 f_Lamount []) (h_Lany_way : HasFn G 9 f_Lany_way []) (h_Lby : HasFn G 9 f_Lby []) (h_Lchecks : HasFn G 9 f_Lchecks []) (h_Lcross : HasFn G 9 f_Lcross []) (h_Ldirection : HasFn G 9 f_Ldirection []) (h_Lhand : HasFn G 9 f_Lhand []) (h_Lnormal : HasFn G 9 f_Lnormal []) (h_Lplace : HasFn G 9 f_Lplace []) (h_Lplain : HasFn G 9 f_Lplain []) (h_Lplus : HasFn G 9 f_Lplus []) (h_Lratio : HasFn G 9 f_Lratio []) (h_Lsmall : HasFn G 9 f_Lsmall []) (h_Lstep : HasFn G 9 f_Lstep []) (h_Ltake : HasFn G 9 f_Ltake []) (h_Ltimes : HasFn G 9 f_Ltimes []) (h_Ltuples : HasFn G 9 f_Ltuples []) (h_amount_at : HasFn G 9 f_amount_at []) (h_cross_at : HasFn G 9 f_cross_at []) (h_grow_place : HasFn G 9 f_grow_place []) (h_mean_place : HasFn G 9 f_mean_place []) (h_mirror_place : HasFn G 9 f_mirror_place []) (h_place_by : HasFn G 9 f_place_by []) (h_place_on : HasFn G 9 f_place_on []) (h_step_from : HasFn G 9 f_step_from []) (h_turn_place : HasFn G 9 f_turn_place []) : BodyOk G 9 N_law sc_law (defBody (top 59)) ir_law := fun X W B g T hB =>
    (ss_cons (r_asgM g T v_law_1 (p_callM g rfl h_Lhand g_law_Lhand (p_ae (p_var g (v_law_0).f) q_an rfl) rfl rfl) rfl)
    (ss_cons (r_asgM g T v_law_2 (q_comp (own := [(("turn" : Str), 3)]) g (i_rng1' g f_range g_law_range q_cst_int rfl) (by decide +kernel) (fun X' B' g' => ⟨(t_nm g' (vr_of (by decide +kernel)) (.inr (lc_of (by decide +kernel)))), t_nil, (p_call g' rfl h_Lplace (gb_of (by decide +kernel)) (p_ab g' (vf_of (by decide +kernel)) q_an) rfl rfl)⟩) (by decide +kernel) (fun _ => rfl)) (sw_cell g (by decide +kernel)))
    (ss_cons (s_if (q_cmpT g (o := .eq) rfl (p_call g rfl h_Ltake g_law_Ltake (p_ab g (v_law_1).f (p_ae q_cst_int q_an rfl)) rfl rfl) q_cst_int rfl) (ss_cons (r_setI g (v_law_2).f q_cst_int (p_idxB g (v_law_2).f q_cst_int rfl) (fun _ => rfl) rfl)
    ss_nil) ss_nil)
    (ss_cons (r_par3 g v_law_4 v_law_5 v_law_6 (by decide) (by decide) (by decide) (by decide +kernel) (by decide +kernel) (by decide +kernel) (p_idx g (p_var g (v_law_2).f) q_cst_int rfl) (p_idx g (p_var g (v_law_2).f) q_cst_int rfl) (p_idx g (p_var g (v_law_2).f) q_cst_int rfl) rfl rfl rfl (sw_par3 g (by decide +kernel) (by decide +kernel) (by decide +kernel) (by decide +kernel) (by decide +kernel) (by decide +kernel) (by decide +kernel) rfl rfl rfl rfl rfl rfl rfl))
    (ss_cons (r_asg g T v_law_7 (p_call g rfl h_Lany_way g_law_Lany_way (p_ab g (v_law_1).f q_an) rfl rfl) rfl)
    (ss_cons (r_par g v_law_8 v_law_9 (by decide) (by decide +kernel) (by decide +kernel) (p_call g rfl h_Lsmall g_law_Lsmall (p_ab g (v_law_1).f q_an) rfl rfl) (p_call g rfl h_Lratio g_law_Lratio (p_ae (q_bin g (o := .add) rfl q_cst_int (p_call g rfl h_Ltake g_law_Ltake (p_ab g (v_law_1).f (p_ae q_cst_int q_an rfl)) rfl rfl)) (p_ae (q_bin g (o := .add) rfl q_cst_int (p_call g rfl h_Ltake g_law_Ltake (p_ab g (v_law_1).f (p_ae q_cst_int q_an rfl)) rfl rfl)) q_an rfl) rfl) rfl rfl) rfl rfl (sw_par g (by decide +kernel) (by decide +kernel) (by decide +kernel) (by decide +kernel) rfl rfl rfl rfl rfl))
    (ss_cons (r_asg g T v_law_10 (p_call g rfl h_amount_at g_law_amount_at (p_ae (p_var g (v_law_7).f) (p_ae (p_var g (v_law_4).f) q_an rfl) rfl) rfl rfl) rfl)
    (ss_cons (s_if (q_boT (q_orT (q_noT (q_ce g.hK (p_call g rfl h_Lplain g_law_Lplain (p_ae (p_var g (v_law_10).f) (p_ae (p_call g rfl h_Lamount g_law_Lamount (p_ae (p_var g (v_law_7).f) (p_ae (p_var g (v_law_4).f) q_an rfl) rfl) rfl rfl) q_an rfl) rfl) rfl rfl) (fun _ => rfl))) (q_bo1T (by simp) (q_cmpT g (o := .ne) rfl (p_call g rfl h_amount_at g_law_amount_at (p_ae (q_frz (p_lst g f_list g_law_list (p_var g (v_law_7).f) rfl)) (p_ae (q_frz (p_lst g f_list g_law_list (p_var g (v_law_4).f) rfl)) q_an rfl) rfl) rfl rfl) (p_var g (v_law_10).f) rfl)))) (ss_cons (s_ret q_cst_bl)
    ss_nil) ss_nil)
    (ss_cons (r_asg g T v_law_11 (p_call g rfl h_step_from g_law_step_from (p_ae (p_var g (v_law_4).f) (p_ae (p_var g (v_law_5).f) q_an rfl) rfl) rfl rfl) rfl)
    (ss_cons (s_if (q_boT (q_orT (q_cmpT g (o := .ne) rfl (p_var g (v_law_11).f) (p_call g rfl h_Lstep g_law_Lstep (p_ae (p_var g (v_law_4).f) (p_ae (p_var g (v_law_5).f) q_an rfl) rfl) rfl rfl) rfl) (q_orT (q_noT (q_ce g.hK (p_call g rfl h_Ltuples g_law_Ltuples (p_ae (p_var g (v_law_11).f) q_an rfl) rfl rfl) (fun _ => rfl))) (q_orT (q_cmpT g (o := .ne) rfl (p_call g rfl h_place_by g_law_place_by (p_ae (p_var g (v_law_4).f) (p_ae (p_var g (v_law_11).f) q_an rfl) rfl) rfl rfl) (p_var g (v_law_5).f) rfl) (q_bo1T (by simp) (q_cmpT g (o := .ne) rfl (p_call g rfl h_place_by g_law_place_by (p_ae (q_frz (p_lst g f_list g_law_list (p_var g (v_law_6).f) rfl)) (p_ae (q_frz (p_lst g f_list g_law_list (p_var g (v_law_11).f) rfl)) q_an rfl) rfl) rfl rfl) (p_call g rfl h_Lby g_law_Lby (p_ae (p_var g (v_law_6).f) (p_ae (p_var g (v_law_11).f) q_an rfl) rfl) rfl rfl) rfl)))))) (ss_cons (s_ret q_cst_bl)
    ss_nil) ss_nil)
    (ss_cons (r_asg g T v_law_12 (q_tup (p_cons (p_call g rfl h_Ltimes g_law_Ltimes (p_ae (p_var g (v_law_8).f) (p_ae (p_idx g (p_var g (v_law_11).f) q_cst_int rfl) q_an rfl) rfl) rfl rfl) (p_cons (p_call g rfl h_Ltimes g_law_Ltimes (p_ae (p_var g (v_law_8).f) (p_ae (p_idx g (p_var g (v_law_11).f) q_cst_int rfl) q_an rfl) rfl) rfl rfl) q_nil rfl) rfl)) rfl)
    (ss_cons (s_if (q_boT (q_orT (q_cmpT g (o := .ne) rfl (p_call g rfl h_place_on g_law_place_on (p_ae (p_var g (v_law_4).f) (p_ae (p_var g (v_law_5).f) (p_ae (p_var g (v_law_8).f) q_an rfl) rfl) rfl) rfl rfl) (p_call g rfl h_Lby g_law_Lby (p_ae (p_var g (v_law_4).f) (p_ae (p_var g (v_law_12).f) q_an rfl) rfl) rfl rfl) rfl) (q_orT (q_cmpT g (o := .ne) rfl (p_call g rfl h_place_on g_law_place_on (p_ae (p_var g (v_law_4).f) (p_ae (p_var g (v_law_5).f) (p_ae (q_tup (p_cons q_cst_int (p_cons q_cst_int q_nil rfl) rfl)) q_an rfl) rfl) rfl) rfl rfl) (p_var g (v_law_4).f) rfl) (q_bo1T (by simp) (q_cmpT g (o := .ne) rfl (p_call g rfl h_place_on g_law_place_on (p_ae (q_frz (p_lst g f_list g_law_list (p_var g (v_law_4).f) rfl)) (p_ae (q_frz (p_lst g f_list g_law_list (p_var g (v_law_5).f) rfl)) (p_ae (q_tup (p_cons q_cst_int (p_cons q_cst_int q_nil rfl) rfl)) q_an rfl) rfl) rfl) rfl rfl) (p_var g (v_law_5).f) rfl))))) (ss_cons (s_ret q_cst_bl)
    ss_nil) ss_nil)
    (ss_cons (s_if (q_boT (q_orT (q_cmpT g (o := .ne) rfl (p_call g rfl h_cross_at g_law_cross_at (p_ae (p_var g (v_law_4).f) (p_ae (p_var g (v_law_5).f) (p_ae (p_var g (v_law_6).f) q_an rfl) rfl) rfl) rfl rfl) (p_call g rfl h_Lcross g_law_Lcross (p_ae (p_var g (v_law_4).f) (p_ae (p_var g (v_law_5).f) (p_ae (p_var g (v_law_6).f) q_an rfl) rfl) rfl) rfl rfl) rfl) (q_bo1T (by simp) (q_cmpT g (o := .ne) rfl (p_call g rfl h_cross_at g_law_cross_at (p_ae (p_var g (v_law_4).f) (p_ae (p_var g (v_law_4).f) (p_ae (p_var g (v_law_6).f) q_an rfl) rfl) rfl) rfl rfl) (q_tup (p_cons q_cst_int (p_cons q_cst_int q_nil rfl) rfl)) rfl)))) (ss_cons (s_ret q_cst_bl)
    ss_nil) ss_nil)
    (ss_cons (r_asg g T v_law_13 (q_bin g (o := .add) rfl q_cst_int (p_call g rfl h_Ltake g_law_Ltake (p_ab g (v_law_1).f (p_ae q_cst_int q_an rfl)) rfl rfl)) rfl)
    (ss_cons (s_setLc (own := [(("turn" : Str), 3)]) g (v_law_14).hi (lc_of (by decide +kernel)) (by decide +kernel) rfl (by decide +kernel) (i_rng1' g f_range g_law_range (p_var g (v_law_13).f) rfl) (by decide +kernel) (fun X' B' g' => ⟨(t_nm g' (vr_of (by decide +kernel)) (.inr (lc_of (by decide +kernel)))), t_nil, (p_idx g' (p_var g' (vf_of (by decide +kernel))) (p_call g' rfl h_Ltake (gb_of (by decide +kernel)) (p_ab g' (vf_of (by decide +kernel)) (p_ae q_cst_int q_an rfl)) rfl rfl) rfl)⟩) (by decide +kernel) (fun _ => rfl))
    (ss_cons (s_asgG (q_tup (p_cons (q_tup (p_cons q_cst_int (p_cons q_cst_int q_nil rfl) rfl)) (p_cons (q_tup (p_cons q_cst_int (p_cons q_cst_int q_nil rfl) rfl)) q_nil rfl) rfl)) (t_tp g (g_cons (t_nm g v_law_15 (.inl (T.fn _))) (g_cons (t_nm g v_law_16 (.inl (T.fn _))) g_nil rfl) rfl) rfl rfl) rfl (sw_fold rfl) rfl)
    (ss_cons (r_for g T (i_seq' g (p_var g (v_law_14).f)) (t_nm g v_law_17 (.inl (T.fn _))) (ss_cons (r_par g v_law_15 v_law_16 (by decide) (by decide +kernel) (by decide +kernel) (p_call g rfl h_Lplus g_law_Lplus (p_ae (p_var g (v_law_15).f) (p_ae (p_idx g (p_var g (v_law_17).f) q_cst_int rfl) q_an rfl) rfl) rfl rfl) (p_call g rfl h_Lplus g_law_Lplus (p_ae (p_var g (v_law_16).f) (p_ae (p_idx g (p_var g (v_law_17).f) q_cst_int rfl) q_an rfl) rfl) rfl rfl) rfl rfl (sw_par g (by decide +kernel) (by decide +kernel) (by decide +kernel) (by decide +kernel) rfl rfl rfl rfl rfl))
    ss_nil) (fun _ => rfl))
    (ss_cons (s_if (q_boT (q_orT (q_cmpT g (o := .ne) rfl (p_call g rfl h_mean_place g_law_mean_place (p_ae (p_var g (v_law_14).f) q_an rfl) rfl rfl) (q_tup (p_cons (p_call g rfl h_Ltimes g_law_Ltimes (p_ae (p_var g (v_law_15).f) (p_ae (q_tup (p_cons q_cst_int (p_cons (p_var g (v_law_13).f) q_nil rfl) rfl)) q_an rfl) rfl) rfl rfl) (p_cons (p_call g rfl h_Ltimes g_law_Ltimes (p_ae (p_var g (v_law_16).f) (p_ae (q_tup (p_cons q_cst_int (p_cons (p_var g (v_law_13).f) q_nil rfl) rfl)) q_an rfl) rfl) rfl rfl) q_nil rfl) rfl)) rfl) (q_bo1T (by simp) (q_noT (q_ce g.hK (p_call g rfl h_Ltuples g_law_Ltuples (p_ae (p_call g rfl h_mean_place g_law_mean_place (p_ae (p_bi g (bb := .tuple) (fun z => by rcases z with z | z <;> cases z) rfl f_tuple g_law_tuple (p_cons (p_var g (v_law_14).f) q_nil rfl) rfl rfl) q_an rfl) rfl rfl) q_an rfl) rfl rfl) (fun _ => rfl)))))) (ss_cons (s_ret q_cst_bl)
    ss_nil) ss_nil)
    (ss_cons (s_if (q_boT (q_orT (q_cmpT g (o := .ne) rfl (p_call g rfl h_turn_place g_law_turn_place (p_ae (p_var g (v_law_4).f) q_an rfl) rfl rfl) (q_tup (p_cons (q_tup (p_cons (q_neg (p_idx g (p_idx g (p_var g (v_law_4).f) q_cst_int rfl) q_cst_int rfl)) (p_cons (p_idx g (p_idx g (p_var g (v_law_4).f) q_cst_int rfl) q_cst_int rfl) q_nil rfl) rfl)) (p_cons (p_idx g (p_var g (v_law_4).f) q_cst_int rfl) q_nil rfl) rfl)) rfl) (q_bo1T (by simp) (q_cmpT g (o := .ne) rfl (p_call g rfl h_mirror_place g_law_mirror_place (p_ae (p_var g (v_law_4).f) q_an rfl) rfl rfl) (q_tup (p_cons (q_tup (p_cons (q_neg (p_idx g (p_idx g (p_var g (v_law_4).f) q_cst_int rfl) q_cst_int rfl)) (p_cons (p_idx g (p_idx g (p_var g (v_law_4).f) q_cst_int rfl) q_cst_int rfl) q_nil rfl) rfl)) (p_cons (p_idx g (p_var g (v_law_4).f) q_cst_int rfl) q_nil rfl) rfl)) rfl)))) (ss_cons (s_ret q_cst_bl)
    ss_nil) ss_nil)
    (ss_cons (s_if (q_boT (q_orT (q_cmpT g (o := .ne) rfl (p_call g rfl h_grow_place g_law_grow_place (p_ae (p_var g (v_law_4).f) (p_ae (p_var g (v_law_9).f) q_an rfl) rfl) rfl rfl) (q_tup (p_cons (p_call g rfl h_Ltimes g_law_Ltimes (p_ae (p_idx g (p_var g (v_law_4).f) q_cst_int rfl) (p_ae (p_var g (v_law_9).f) q_an rfl) rfl) rfl rfl) (p_cons (p_call g rfl h_Ltimes g_law_Ltimes (p_ae (p_idx g (p_var g (v_law_4).f) q_cst_int rfl) (p_ae (p_var g (v_law_9).f) q_an rfl) rfl) rfl rfl) q_nil rfl) rfl)) rfl) (q_bo1T (by simp) (q_noT (q_ce g.hK (p_call g rfl h_Ltuples g_law_Ltuples (p_ae (p_call g rfl h_grow_place g_law_grow_place (p_ae (q_frz (p_lst g f_list g_law_list (p_var g (v_law_4).f) rfl)) (p_ae (p_var g (v_law_9).f) q_an rfl) rfl) rfl rfl) q_an rfl) rfl rfl) (fun _ => rfl)))))) (ss_cons (s_ret q_cst_bl)
    ss_nil) ss_nil)
    (ss_cons (r_asg g T v_law_18 q_cst_str rfl)
    (ss_cons (s_if (q_cmpT g (o := .ne) rfl (p_var g (v_law_4).f) (p_var g (v_law_5).f) rfl) (ss_cons (r_asg g T v_law_19 (p_call g rfl h_Ldirection g_law_Ldirection (p_ae (q_bin g (o := .mul) rfl (p_idx g (p_idx g (p_var g (v_law_11).f) q_cst_int rfl) q_cst_int rfl) (p_idx g (p_idx g (p_var g (v_law_11).f) q_cst_int rfl) q_cst_int rfl)) (p_ae (q_bin g (o := .mul) rfl (p_idx g (p_idx g (p_var g (v_law_11).f) q_cst_int rfl) q_cst_int rfl) (p_idx g (p_idx g (p_var g (v_law_11).f) q_cst_int rfl) q_cst_int rfl)) q_an rfl) rfl) rfl rfl) rfl)
    (ss_cons (r_asg g T v_law_18 (q_tup (p_cons (p_idx g (p_var g (v_law_19).f) q_cst_int rfl) (p_cons (q_neg (p_idx g (p_var g (v_law_19).f) q_cst_int rfl)) q_nil rfl) rfl)) rfl)
    ss_nil)) ss_nil)
    (ss_cons (s_ret (q_boV (q_and (q_cmp g (o := .eq) rfl (p_call g rfl h_Lnormal g_law_Lnormal (p_ae (p_var g (v_law_4).f) (p_ae (p_var g (v_law_5).f) q_an rfl) rfl) rfl rfl) (p_var g (v_law_18).f) rfl) (q_and (q_cmp g (o := .eq) rfl (p_call g rfl h_Lnormal g_law_Lnormal (p_ae (p_var g (v_law_4).f) (p_ae (p_var g (v_law_4).f) q_an rfl) rfl) rfl rfl) q_cst_str rfl) (q_bo1 (p_call g rfl h_Lchecks g_law_Lchecks (p_ae (p_var g (v_law_6).f) (p_ae (p_call g rfl h_Lamount g_law_Lamount (p_ae (p_var g (v_law_7).f) (p_ae (p_var g (v_law_6).f) q_an rfl) rfl) rfl rfl) q_an rfl) rfl) rfl rfl))))))
    ss_nil)))))))))))))))))))))))
theorem s_law : FnScope N_law ["script"] sc_law := ⟨by rfl, by rfl, by rfl, by decide +kernel, by rfl, by decide +kernel, by decide +kernel⟩
end K03

namespace K03
open PySem FL KS
variable {p r s : Int × Int} {k l : Nat} {a c e : Pl}
/-! ## draws -/
theorem small_ {h : List T} (hh : HandOk h) : ∃ p h', HandOk h' ∧ Qr 160 p ∧ f_Lsmall.sem [.lst h] = .ok (tq p) h' := by
  obtain ⟨u, h1, a1, a2, a3, a4⟩ := take_at (s := [.mp h]) (i := 0) rfl hh (e := .cst (.int 13)) (m := 13) rfl (by decide)
  obtain ⟨v, h2, b1, b2, b3, b4⟩ := take_at (s := [.mp h1]) (i := 0) rfl a1 (e := .cst (.int 4)) (m := 4) rfl (by decide)
  have a4' : evE (.call f_Ltake (.b 0 (.e (.cst (.int 13)) .nil)) []) [.mp h] = .ok (.int u) [.mp h1] := a4
  have b4' : evE (.call f_Ltake (.b 0 (.e (.cst (.int 4)) .nil)) []) [.mp h1] = .ok (.int v) [.mp h2] := b4
  have bu : Bd 160 (u - 6) := by
    have : Bd 10 (u - 6) := by unfold Bd; omega
    exact this.up (by decide)
  have bv : Bd 160 (1 + v) := by
    have : Bd 10 (1 + v) := by unfold Bd; omega
    exact this.up (by decide)
  have c := callV (avs := [.v (.int (u - 6)), .v (.int (1 + v))]) rfl rfl (w_Lratio (u - 6) (1 + v) (by omega) (bv.up (l := 6000) (by decide)))
  rw [nm_tq] at c
  refine ⟨_, h2, b1, Qr.nm bu bv (by omega), sem_ret (s0 := [.mp h]) (s1 := [.mp h2]) rfl rfl ?_ rfl⟩
  show evSs ir_Lsmall [.mp h] = _
  refine seq_ret ?_
  rw [s_ret_, e_call, show f_Lratio.fresh = false from rfl]
  simp only [Bool.false_eq_true, if_false, as_e, as_nil, e_bin, a4', bind_ok, kBin_, e_cst, kBin2_, b_sub, of_some, kAs_, b4', b_add, kAs2_, kCall_, c, so_ok]
theorem place_ {h : List T} (hh : HandOk h) : ∃ a h', HandOk h' ∧ QP 160 a ∧ f_Lplace.sem [.lst h] = .ok (pq a) h' := by
  obtain ⟨z, h1, a1, a2, a3, a4⟩ := take_at (s := [.mp h]) (i := 0) rfl hh (e := .cst (.int 4)) (m := 4) rfl (by decide)
  have a4' : evE (.call f_Ltake (.b 0 (.e (.cst (.int 4)) .nil)) []) [.mp h] = .ok (.int z) [.mp h1] := a4
  by_cases hz : z = 0
  · subst hz
    obtain ⟨x, h2, b1, b2, b3⟩ := w_Lnumber a1
    obtain ⟨u, h3, c1, c2, c3, c4⟩ := take_at (s := [.mp h2]) (i := 0) rfl b1 (e := .cst (.int 7)) (m := 7) rfl (by decide)
    obtain ⟨y, h4, d1, d2, d3⟩ := w_Lnumber c1
    obtain ⟨v, h5, e1, e2, e3, e4⟩ := take_at (s := [.mp h4]) (i := 0) rfl d1 (e := .cst (.int 7)) (m := 7) rfl (by decide)
    have x1 : evE (.call f_Lnumber (.b 0 .nil) []) [.mp h1] = .ok (.int x) [.mp h2] := call_at rfl rfl rfl b3
    have x2 : evE (.call f_Ltake (.b 0 (.e (.cst (.int 7)) .nil)) []) [.mp h2] = .ok (.int u) [.mp h3] := c4
    have x3 : evE (.call f_Lnumber (.b 0 .nil) []) [.mp h3] = .ok (.int y) [.mp h4] := call_at rfl rfl rfl d3
    have x4 : evE (.call f_Ltake (.b 0 (.e (.cst (.int 7)) .nil)) []) [.mp h4] = .ok (.int v) [.mp h5] := e4
    have bu : Bd 160 (1 + u) := by
      have : Bd 10 (1 + u) := by unfold Bd; omega
      exact this.up (by decide)
    have bv : Bd 160 (1 + v) := by
      have : Bd 10 (1 + v) := by unfold Bd; omega
      exact this.up (by decide)
    have k1 := callV (avs := [.v (.int x), .v (.int (1 + u))]) rfl rfl (w_Lratio x (1 + u) (by omega) (bu.up (l := 6000) (by decide)))
    have k2 := callV (avs := [.v (.int y), .v (.int (1 + v))]) rfl rfl (w_Lratio y (1 + v) (by omega) (bv.up (l := 6000) (by decide)))
    rw [nm_tq] at k1 k2
    refine ⟨(nmP x (1 + u), nmP y (1 + v)), h5, e1, ⟨Qr.nm b2 bu (by omega), Qr.nm d2 bv (by omega)⟩, sem_ret (s0 := [.mp h]) (s1 := [.mp h5]) rfl rfl ?_ rfl⟩
    show evSs ir_Lplace [.mp h] = _
    refine seq_nx (s1 := [.mp h1]) (by rw [s_if_, c_e, a4']; rfl) ?_
    refine seq_ret ?_
    rw [s_ret_, e_tup, es_cons, e_call, show f_Lratio.fresh = false from rfl]
    simp only [Bool.false_eq_true, if_false, as_e, as_nil, e_bin, x1, bind_ok, kBin_, e_cst, x2, kBin2_, b_add, of_some, kAs_, kAs2_, kCall_, k1, kEs_, es_cons, e_call, show f_Lratio.fresh = false from rfl, x3, x4, k2, es_nil, kEs2_, kTup2, so_ok]
  · obtain ⟨p, h2, b1, b2, b3⟩ := small_ a1
    obtain ⟨r, h3, c1, c2, c3⟩ := small_ b1
    have x1 : evE (.call f_Lsmall (.b 0 .nil) []) [.mp h1] = .ok (tq p) [.mp h2] := call_at rfl rfl rfl b3
    have x2 : evE (.call f_Lsmall (.b 0 .nil) []) [.mp h2] = .ok (tq r) [.mp h3] := call_at rfl rfl rfl c3
    refine ⟨(p, r), h3, c1, ⟨b2, c2⟩, sem_ret (s0 := [.mp h]) (s1 := [.mp h3]) rfl rfl ?_ rfl⟩
    show evSs ir_Lplace [.mp h] = _
    refine seq_ret ?_
    have hz' : (z != 0) = true := by simpa using hz
    rw [s_if_, c_e, a4', bind_ok, truR_int, so_ok, kIf_, hz', if_pos rfl]
    refine seq_ret ?_
    rw [s_ret_, e_tup, es_cons, x1, bind_ok, kEs_, es_cons, x2]
    rfl
/-! ## the law's checks -/
theorem loop_true {g : FS} (hf : g.fresh = false) (hm : g.mu = none) (a0 a1 : Sl) : ∀ (xs : List T) (x : Sl), pl x = true → (∀ t ∈ xs, g.sem [t] = .ok (.bl true) []) → ∃ x', pl x' = true ∧
    forL (.nm 2) (evSs [.ifS (.no (.e (.call g (.e (.var 2) (.nil)) []))) [.ret (.cst (.bl false))] []]) xs [a0, a1, x] = .nx [a0, a1, x'] := by
  intro xs
  induction xs with
  | nil => intro x hx _; exact ⟨x, hx, forL_nil⟩
  | cons t xs ih =>
    intro x hx h
    obtain ⟨x', hx', e⟩ := ih (.im t) rfl (fun u hu => h u (List.mem_cons_of_mem _ hu))
    have c := callV (g := g) (avs := [.v t]) hm rfl (h t (by simp))
    have mx : isMp [a0, a1, x] 2 = false := pl_mp hx
    refine ⟨x', hx', (forL_step (s1 := [a0, a1, .im t]) (by rw [setTg_nm, mx]; rfl) (s2 := [a0, a1, .im t]) ?_).trans e⟩
    simp [getV, c, hf]
theorem ref_place {t : T} (h : f_is_couple.sem [t] = .ok (.bl false) []) : f_Lrefuses_place.sem [t] = .ok (.bl true) [] := refuses rfl rfl (no_place h)
theorem ref_amount {t : T} (h : f_is_ratio.sem [t] = .ok (.bl false) []) : f_Lrefuses_amount.sem [t] = .ok (.bl true) [] := refuses rfl rfl (no_amount h)
theorem ref_size {t : T} (h : f_check_size.sem [t] = .ex "BadSize" [] [] []) : f_Lrefuses_size.sem [t] = .ok (.bl true) [] := refuses rfl rfl h
theorem checks_ (ha : QP 160 a) (hp : Qr 1000 p) : f_Lchecks.sem [pq a, tq p] = .ok (.bl true) [] := by
  have hbig : big = 16777216 := rfl
  have f1 : f_check_place.fresh = false := rfl
  have f2 : f_check_amount.fresh = false := rfl
  have f3 : f_check_size.fresh = false := rfl
  have k1 := callV (avs := [.v (.lst [tq a.1, tq a.2])]) rfl rfl (chk_place false ha)
  have k2 := callV (avs := [.v (pq a)]) rfl rfl (chk_place true ha)
  have k3 := callV (avs := [.v (tq p)]) rfl rfl (chk_amount hp)
  have o7 : Qr 60 ((1, 7) : Int × Int) := ⟨⟨by unfold Bd; decide, by unfold Bd; decide, by decide⟩, by decide, by decide⟩
  have k4 := callV (avs := [.v (qt 1 7)]) rfl rfl (chk_size o7 (by decide))
  have n1 := ne_pq a a
  have n2 := ne_tq p p
  have n3 := eq_tq (1, 7) (1, 7)
  rw [decide_eq_true rfl] at n1 n2 n3
  have m1 := b_mul p.1 2 (hp.rt.n.mulOk (show Bd 60 2 by unfold Bd; decide) (by decide))
  have m2 := b_mul p.2 2 (hp.rt.d.mulOk (show Bd 60 2 by unfold Bd; decide) (by decide))
  have A : ∀ t ∈ ([.tup [tq a.1, tq a.2, tq p], .tup [tq a.1], .tup [tq a.1, .int 1], .tup [.lst [.int 0, .int 1], tq a.2], .tup [tq a.1, qt 2 4], .non, .str ("ab" : Str), .int 3, .tup [tq a.1, .non], .lst [.int 1, .int 2], .tup [tq a.1, .tup [.bl true, .int 1]]] : List T), f_Lrefuses_place.sem [t] = .ok (.bl true) [] := by
    intro t ht
    simp only [List.mem_cons, List.not_mem_nil, or_false] at ht
    refine ref_place ?_
    rcases ht with rfl | rfl | rfl | rfl | rfl | rfl | rfl | rfl | rfl | rfl | rfl
    · exact cpl_len (by simp)
    · exact cpl_len (by simp)
    · exact cpl_snd ha.x (isr_int _)
    · exact cpl_fst (isr_lst _)
    · exact cpl_snd ha.x (by rw [w_is_ratio]; rfl)
    · exact cpl_non
    · exact cpl_str _
    · exact cpl_int _
    · exact cpl_snd ha.x isr_non
    · exact cpl_fstL (isr_int _)
    · exact cpl_snd ha.x (isr_b1 _ _)
  have M : ∀ t ∈ ([.int p.1, lq p, qt (p.1 * 2) (p.2 * 2), .non, .bl true, .str ("1" : Str), .tup [.int p.1, .int 0]] : List T), f_Lrefuses_amount.sem [t] = .ok (.bl true) [] := by
    intro t ht
    simp only [List.mem_cons, List.not_mem_nil, or_false] at ht
    refine ref_amount ?_
    rcases ht with rfl | rfl | rfl | rfl | rfl | rfl | rfl
    · exact isr_int _
    · exact isr_lst _
    · rw [w_is_ratio, decide_eq_false gcd2, Bool.and_false]
    · exact isr_non
    · exact isr_bl _
    · exact isr_str _
    · rw [w_is_ratio]; rfl
  have Z : ∀ t ∈ ([qt 0 1, qt (-1) 3, .int 2, .lst [.int 1, .int 2], qt 2 2, .non] : List T), f_Lrefuses_size.sem [t] = .ok (.bl true) [] := by
    intro t ht
    simp only [List.mem_cons, List.not_mem_nil, or_false] at ht
    refine ref_size ?_
    rcases ht with rfl | rfl | rfl | rfl | rfl | rfl
    · exact no_size0 (k := 60) (p := (0, 1)) ⟨⟨by unfold Bd; decide, by unfold Bd; decide, by decide⟩, by decide, by decide⟩ (by decide)
    · exact no_size0 (k := 60) (p := (-1, 3)) ⟨⟨by unfold Bd; decide, by unfold Bd; decide, by decide⟩, by decide, by decide⟩ (by decide)
    · exact no_size (isr_int _)
    · exact no_size (isr_lst _)
    · exact no_size (by rw [w_is_ratio]; rfl)
    · exact no_size isr_non
  obtain ⟨x1, y1, l1⟩ := loop_true (g := f_Lrefuses_place) rfl rfl (.im (pq a)) (.im (tq p)) _ .un rfl A
  obtain ⟨x2, y2, l2⟩ := loop_true (g := f_Lrefuses_amount) rfl rfl (.im (pq a)) (.im (tq p)) _ x1 y1 M
  obtain ⟨x3, y3, l3⟩ := loop_true (g := f_Lrefuses_size) rfl rfl (.im (pq a)) (.im (tq p)) _ x2 y2 Z
  have hadd : bop .add (pq a) (.tup [tq p]) = some (.tup [tq a.1, tq a.2, tq p]) := by simp [bop, big]
  refine sem_ret (s0 := [.im (pq a), .im (tq p)]) (s1 := [.im (pq a), .im (tq p), x3]) rfl rfl ?_ rfl
  show evSs ir_Lchecks [.im (pq a), .im (tq p), .un] = _
  refine seq_nx (s1 := [.im (pq a), .im (tq p), .un]) (by simp [getV, f1, k1, k2, n1, evM, items, isTy]) ?_
  refine seq_nx (s1 := [.im (pq a), .im (tq p), x1]) (by
    rw [s_for_]
    refine Eq.trans ?_ l1
    simp [getV, hadd, kDisp, hbig]) ?_
  refine seq_nx (s1 := [.im (pq a), .im (tq p), x1]) (by simp [getV, f2, k3, n2]) ?_
  refine seq_nx (s1 := [.im (pq a), .im (tq p), x2]) (by
    rw [s_for_]
    refine Eq.trans ?_ l2
    simp [getV, m1, m2, kDisp, hbig, evM, items]) ?_
  refine seq_nx (s1 := [.im (pq a), .im (tq p), x3]) (by
    rw [s_for_]
    refine Eq.trans ?_ l3
    simp [kDisp, hbig]) ?_
  refine seq_ret ?_
  simp [f3, k4, n3]
end K03

namespace K03
open PySem FL KS
variable {p r s : Int × Int} {k l : Nat} {a c e : Pl}
theorem four_at (x : Sl) (r : Sls) {h : List T} (hh : HandOk h) : ∃ (ps : List Pl) (h' : List T), ps.length = 4 ∧ (∀ p ∈ ps, QP 160 p) ∧ HandOk h' ∧
    evM (.comp (List.map (·.2) ([(("turn" : Str), 3)] : List (Str × Nat))) (.nm 3) (.rng1 (.cst (.int 4))) (.nil) (.call f_Lplace (.b 1 (.nil)) [])) (x :: .mu h :: .un :: .un :: r) = .ok (ps.map pq) (x :: .mu h' :: .un :: .un :: r) := by
  obtain ⟨ys, s', a1, a2, ⟨h', hk, rfl⟩, a4⟩ := comp_rel (own := [3]) (g := .nm 3) (it := .rng1 (.cst (.int 4))) (elt := .call f_Lplace (.b 1 (.nil)) []) (s := x :: .mu h :: .un :: .un :: r) (s1 := x :: .mu h :: .un :: .un :: r) (xs := (List.range (4 : Int).toNat).map fun k => .int (k : Nat)) (P := fun s => ∃ h', HandOk h' ∧ s = x :: .mu h' :: .un :: .un :: r) (Q := fun y => ∃ p, QP 160 p ∧ y = pq p) (by
      rw [i_rng_, e_cst, bind_ok, kRng_ _ _ (by decide)]) rfl (by decide) ⟨h, hh, rfl⟩ (fun s ⟨h1, hh1, e⟩ u hu => by
    subst e
    obtain ⟨p, h2, b1, b2, b3⟩ := place_ hh1
    exact ⟨_, x :: .mu h2 :: .un :: .im u :: r, pq p, rfl, call_at rfl rfl rfl b3, ⟨p, b2, rfl⟩, ⟨h2, b1, rfl⟩⟩)
  obtain ⟨ps, rfl, hz⟩ := list_of (f := pq) ys a2
  exact ⟨ps, h', by simpa using a1, hz, hk, a4⟩
theorem take1 {s : Sls} {h : List T} {m : Int} (ho : ownAt s 1 = some h) (hh : HandOk h) (hm : 1 ≤ m ∧ m < 2 ^ 60) : ∃ z h', HandOk h' ∧ 0 ≤ z ∧ z < m ∧ evE (.call f_Ltake (.b 1 (.e (.cst (.int m)) .nil)) []) s = .ok (.int z) (putOwn s 1 h') := take_at ho hh rfl hm
theorem start_ {ns : List Int} (hl : ns.length ≤ 63) : ∃ (h : List T) (a b c d : Pl), HandOk h ∧ QP 160 a ∧ QP 160 b ∧ QP 160 c ∧ QP 160 d ∧
    evSs ir_law (.im (.scr (ns.map .int)) :: List.replicate 19 .un) = evSs (ir_law.drop 3) (.im (.scr (ns.map .int)) :: .mu h :: .mu ([a, b, c, d].map pq) :: List.replicate 17 .un) := by
  obtain ⟨h0, hh0, e0⟩ := w_Lhand ns hl
  have hc := fun s => callV (g := f_Lhand) (avs := [.v (.scr (ns.map .int))]) rfl rfl e0 s true
  obtain ⟨ps, h1, l4, hq, hh1, e1⟩ := four_at (.im (.scr (ns.map .int))) (List.replicate 16 .un) hh0
  obtain ⟨a, b, c, d, rfl⟩ : ∃ a b c d, ps = [a, b, c, d] := by
    match ps, l4 with
    | [a, b, c, d], _ => exact ⟨_, _, _, _, rfl⟩
  have qa := hq a (by simp)
  have qb := hq b (by simp)
  have qc := hq c (by simp)
  have qd := hq d (by simp)
  obtain ⟨z, h2, a1, a2, a3, a4⟩ := take1 (s := .im (.scr (ns.map .int)) :: .mu h1 :: .mu ([a, b, c, d].map pq) :: List.replicate 17 .un) (m := 4) rfl hh1 (by decide)
  have a4 : evE (.call f_Ltake (.b 1 (.e (.cst (.int 4)) .nil)) []) (.im (.scr (ns.map .int)) :: .mu h1 :: .mu ([a, b, c, d].map pq) :: List.replicate 17 .un) = .ok (.int z) (.im (.scr (ns.map .int)) :: .mu h2 :: .mu ([a, b, c, d].map pq) :: List.replicate 17 .un) := a4
  have s0 : evSs ir_law (.im (.scr (ns.map .int)) :: List.replicate 19 .un) = evSs (ir_law.drop 2) (.im (.scr (ns.map .int)) :: .mu h1 :: .mu ([a, b, c, d].map pq) :: List.replicate 17 .un) := by
    refine (step_ (s1 := .im (.scr (ns.map .int)) :: .mu h0 :: List.replicate 18 .un) ?_).trans ?_
    · simp [show f_Lhand.fresh = true from rfl, getV, hc, isMp]
    refine step_ ?_
    rw [s_asgM_]
    rw [show (Sl.im (.scr (ns.map T.int)) :: Sl.mu h0 :: List.replicate 18 Sl.un) = .im (.scr (ns.map .int)) :: .mu h0 :: .un :: .un :: List.replicate 16 .un from rfl, e1, so_ok]
    rfl
  by_cases hz : z = 0
  · refine ⟨h2, a, a, c, d, a1, qa, qa, qc, qd, s0.trans (step_ ?_)⟩
    have hcnd : evC (.cmp .eq (.call f_Ltake (.b 1 (.e (.cst (.int 4)) (.nil))) []) (.cst (.int 0))) (.im (.scr (ns.map .int)) :: .mu h1 :: .mu ([a, b, c, d].map pq) :: List.replicate 17 .un) = .ok true (.im (.scr (ns.map .int)) :: .mu h2 :: .mu ([a, b, c, d].map pq) :: List.replicate 17 .un) := by
      rw [c_cmp, a4, hz]
      simp
    rw [s_if_, hcnd, so_ok, kIf_, if_pos rfl]
    simp [ownAt, Sl.own, putOwn, L2.ixN]
  · refine ⟨h2, a, b, c, d, a1, qa, qb, qc, qd, s0.trans (step_ ?_)⟩
    have hcnd : evC (.cmp .eq (.call f_Ltake (.b 1 (.e (.cst (.int 4)) (.nil))) []) (.cst (.int 0))) (.im (.scr (ns.map .int)) :: .mu h1 :: .mu ([a, b, c, d].map pq) :: List.replicate 17 .un) = .ok false (.im (.scr (ns.map .int)) :: .mu h2 :: .mu ([a, b, c, d].map pq) :: List.replicate 17 .un) := by
      rw [c_cmp, a4]
      simp [hz]
    rw [s_if_, hcnd, so_ok, kIf_, if_neg Bool.false_ne_true, ss_nil_]
theorem pick_at {a b : Sl} {ps : List Pl} {r : Sls} {h : List T} (hh : HandOk h) (hl : ps.length = 4) : ∃ p ∈ ps, ∃ h', HandOk h' ∧
    evE (.idx (.var 2) (.call f_Ltake (.b 1 (.e (.cst (.int 4)) (.nil))) [])) (a :: .mu h :: .im (.lst (ps.map pq)) :: b :: r) = .ok (pq p) (a :: .mu h' :: .im (.lst (ps.map pq)) :: b :: r) := by
  obtain ⟨z, h', a1, a2, a3, a4⟩ := take1 (s := a :: .mu h :: .im (.lst (ps.map pq)) :: b :: r) (m := 4) rfl hh (by decide)
  obtain ⟨p, hp, hat⟩ := atF (f := pq) (xs := ps) a2 (by omega)
  refine ⟨p, hp, h', a1, ?_⟩
  simp only [e_idx, e_var, getV, List.getElem?_cons_succ, List.getElem?_cons_zero, bind_ok, kIdx_, a4, kIdx2_, idx_lst, hat, of_some]
  rfl
theorem row_at {a : Sl} {r : Sls} {ps : List Pl} {h : List T} {n : Int} (hh : HandOk h) (hl : ps.length = 4) (hn : 1 ≤ n ∧ n ≤ 4) (hv : ∀ h, getV (a :: .mu h :: .im (.lst (ps.map pq)) :: .un :: r) 13 = .ok (.int n) (a :: .mu h :: .im (.lst (ps.map pq)) :: .un :: r)) : ∃ (qs : List Pl) (h' : List T), (∀ p ∈ qs, p ∈ ps) ∧ (qs.length : Int) = n ∧ HandOk h' ∧
    evM (.comp (List.map (·.2) ([(("turn" : Str), 3)] : List (Str × Nat))) (.nm 3) (.rng1 (.var 13)) (.nil) (.idx (.var 2) (.call f_Ltake (.b 1 (.e (.cst (.int 4)) (.nil))) []))) (a :: .mu h :: .im (.lst (ps.map pq)) :: .un :: r) = .ok (qs.map pq) (a :: .mu h' :: .im (.lst (ps.map pq)) :: .un :: r) := by
  obtain ⟨ys, s', a1, a2, ⟨h', hk, rfl⟩, a4⟩ := comp_rel (own := [3]) (g := .nm 3) (it := .rng1 (.var 13)) (elt := .idx (.var 2) (.call f_Ltake (.b 1 (.e (.cst (.int 4)) (.nil))) [])) (s := a :: .mu h :: .im (.lst (ps.map pq)) :: .un :: r) (s1 := a :: .mu h :: .im (.lst (ps.map pq)) :: .un :: r) (xs := (List.range n.toNat).map fun k => .int (k : Nat)) (P := fun s => ∃ h', HandOk h' ∧ s = a :: .mu h' :: .im (.lst (ps.map pq)) :: .un :: r) (Q := fun y => ∃ p, p ∈ ps ∧ y = pq p) (by
      rw [i_rng_, e_var, hv, bind_ok, kRng_ _ _ (by omega)]) rfl (by rw [List.length_map, List.length_range]; have : big = 16777216 := rfl; omega) ⟨h, hh, rfl⟩ (fun s ⟨h1, hh1, e⟩ u hu => by
    subst e
    obtain ⟨p, hp, h2, b1, b2⟩ := pick_at (a := a) (b := .im u) (r := r) hh1 hl
    exact ⟨_, _, pq p, rfl, b2, ⟨p, hp, rfl⟩, ⟨h2, b1, rfl⟩⟩)
  obtain ⟨qs, rfl, hz⟩ := list_of (f := pq) ys a2
  refine ⟨qs, h', hz, ?_, hk, a4⟩
  rw [List.length_map, List.length_map, List.length_range] at a1
  omega
theorem xy_loop (a0 a1 a2 a3 a4 a5 a6 a7 a8 a9 a10 a11 a12 a13 a14 : Sl) (r : Sls) : ∀ (ps : List Pl) (q : Pl) (x : Sl) (k : Nat), pl x = true → (∀ p ∈ ps, QP 160 p) → QP k q → k + 161 * ps.length ≤ 2900 → ∃ x',
    forL (.nm 17) (evSs [.asg (.tp [.nm 15, .nm 16]) (.tup (.cons (.call f_Lplus (.e (.var 15) (.e (.idx (.var 17) (.cst (.int 0))) (.nil))) []) (.cons (.call f_Lplus (.e (.var 16) (.e (.idx (.var 17) (.cst (.int 1))) (.nil))) []) .nil)))]) (ps.map pq) (a0 :: a1 :: a2 :: a3 :: a4 :: a5 :: a6 :: a7 :: a8 :: a9 :: a10 :: a11 :: a12 :: a13 :: a14 :: .im (tq q.1) :: .im (tq q.2) :: x :: r) = .nx (a0 :: a1 :: a2 :: a3 :: a4 :: a5 :: a6 :: a7 :: a8 :: a9 :: a10 :: a11 :: a12 :: a13 :: a14 :: .im (tq (ps.foldl byP q).1) :: .im (tq (ps.foldl byP q).2) :: x' :: r) := by
  intro ps
  induction ps with
  | nil => intro q x k _ _ _ _; exact ⟨x, forL_nil⟩
  | cons p ps ih =>
    intro q x k hx hp hq hk
    rw [List.length_cons] at hk
    have hp0 := hp p (by simp)
    obtain ⟨x', h2⟩ := ih (byP q p) (.im (pq p)) (k + 160 + 1) rfl (fun q m => hp q (List.mem_cons_of_mem _ m)) (byP_q hq hp0) (by omega)
    refine ⟨x', ?_⟩
    have mx : isMp (a0 :: a1 :: a2 :: a3 :: a4 :: a5 :: a6 :: a7 :: a8 :: a9 :: a10 :: a11 :: a12 :: a13 :: a14 :: .im (tq q.1) :: .im (tq q.2) :: x :: r) 17 = false := pl_mp hx
    have c1 := callV (avs := [.v (tq q.1), .v (tq p.1)]) rfl rfl (w_Ladd (hq.x.up (by omega)) (hp0.x.up (by decide)))
    have c2 := callV (avs := [.v (tq q.2), .v (tq p.2)]) rfl rfl (w_Ladd (hq.y.up (by omega)) (hp0.y.up (by decide)))
    rw [List.map_cons, List.foldl_cons]
    refine (forL_step (s1 := a0 :: a1 :: a2 :: a3 :: a4 :: a5 :: a6 :: a7 :: a8 :: a9 :: a10 :: a11 :: a12 :: a13 :: a14 :: .im (tq q.1) :: .im (tq q.2) :: .im (pq p) :: r) (by rw [setTg_nm, mx]; rfl) (s2 := a0 :: a1 :: a2 :: a3 :: a4 :: a5 :: a6 :: a7 :: a8 :: a9 :: a10 :: a11 :: a12 :: a13 :: a14 :: .im (tq (byP q p).1) :: .im (tq (byP q p).2) :: .im (pq p) :: r) ?_).trans h2
    simp [getV, c1, c2, fr_Lplus, setTg_nm, setTg_tup, setTgs, isMp, byP]
    try rfl
/-- the law's reading of the way to the right -/
theorem normal_ok (ha : QP 160 a) (hc : QP 160 c) (h : a ≠ c) : f_Lnormal.sem [pq a, pq c] = .ok (tq (nrm (sh ((stepP a c).1.1 * (stepP a c).2.2) ((stepP a c).2.1 * (stepP a c).1.2)))) [] := by
  have c1 := callV (avs := [.v (pq a), .v (pq c)]) rfl rfl (w_normal (ha.up (by decide)) (hc.up (by decide)) (step_ne ha hc h))
  generalize tq (nrm (sh ((stepP a c).1.1 * (stepP a c).2.2) ((stepP a c).2.1 * (stepP a c).1.2))) = t at *
  refine sem_ret (s0 := [.im (pq a), .im (pq c)]) (s1 := [.im (pq a), .im (pq c), .im t]) rfl rfl ?_ rfl
  show evSs ir_Lnormal [.im (pq a), .im (pq c), .un] = _
  refine seq_nx (s1 := [.im (pq a), .im (pq c), .im t]) (by simp [getV, show f_side_normal.fresh = false from rfl, c1, setTg_nm, isMp]) ?_
  exact seq_ret (by simp [getV])
theorem normal_no (ha : QP 160 a) : f_Lnormal.sem [pq a, pq a] = .ok (.str ("refused" : Str)) [] := by
  have c1 := callE0 (g := f_side_normal) (avs := [.v (pq a), .v (pq a)]) rfl rfl (no_normal (ha.up (by decide)))
  refine sem_ret (s0 := [.im (pq a), .im (pq a)]) (s1 := [.im (pq a), .im (pq a), .un]) rfl rfl ?_ rfl
  show evSs ir_Lnormal [.im (pq a), .im (pq a), .un] = _
  refine seq_ret ?_
  rw [s_try_]
  have : evSs [.asg (.nm 2) (.call f_side_normal (.e (.var 0) (.e (.var 1) (.nil))) [])] [.im (pq a), .im (pq a), .un] = .ex "BadDirection" [] [] [.im (pq a), .im (pq a), .un] := by
    simp [getV, show f_side_normal.fresh = false from rfl, c1]
  rw [this, kTry_none (in1 _)]
  simp
theorem law_true (ns : List Int) (hl : ns.length ≤ 63) : ∃ o, f_law.sem [.scr (ns.map T.int)] = .ok (.bl true) o := by
  have hbig : big = 16777216 := rfl
  obtain ⟨h, a, b, c, d, hh, qa, qb, qc, qd, e0⟩ := start_ hl
  generalize hsc : T.scr (ns.map T.int) = sc at *
  generalize hP : T.lst ([a, b, c, d].map pq) = PL at *
  -- the draws
  obtain ⟨w, h1, a1, a2, a3⟩ := w_Lany_way hh
  obtain ⟨sr, h2, b1, b2, b3⟩ := small_ a1
  have x1 : evE (.call f_Lany_way (.b 1 .nil) []) [.im sc, .mu h, .im PL, .un, .im (pq a), .im (pq b), .im (pq c), .un, .un, .un, .un, .un, .un, .un, .un, .un, .un, .un, .un, .un] = .ok (tq w) [.im sc, .mu h1, .im PL, .un, .im (pq a), .im (pq b), .im (pq c), .un, .un, .un, .un, .un, .un, .un, .un, .un, .un, .un, .un, .un] := call_at rfl rfl rfl a3
  have x2 : evE (.call f_Lsmall (.b 1 .nil) []) [.im sc, .mu h1, .im PL, .un, .im (pq a), .im (pq b), .im (pq c), .im (tq w), .un, .un, .un, .un, .un, .un, .un, .un, .un, .un, .un, .un] = .ok (tq sr) [.im sc, .mu h2, .im PL, .un, .im (pq a), .im (pq b), .im (pq c), .im (tq w), .un, .un, .un, .un, .un, .un, .un, .un, .un, .un, .un, .un] := call_at rfl rfl rfl b3
  obtain ⟨u, h3, d1, d2, d3, d4⟩ := take1 (s := [.im sc, .mu h2, .im PL, .un, .im (pq a), .im (pq b), .im (pq c), .im (tq w), .un, .un, .un, .un, .un, .un, .un, .un, .un, .un, .un, .un]) (m := 9) rfl b1 (by decide)
  have d4 : evE (.call f_Ltake (.b 1 (.e (.cst (.int 9)) .nil)) []) [.im sc, .mu h2, .im PL, .un, .im (pq a), .im (pq b), .im (pq c), .im (tq w), .un, .un, .un, .un, .un, .un, .un, .un, .un, .un, .un, .un] = .ok (.int u) [.im sc, .mu h3, .im PL, .un, .im (pq a), .im (pq b), .im (pq c), .im (tq w), .un, .un, .un, .un, .un, .un, .un, .un, .un, .un, .un, .un] := d4
  obtain ⟨v, h4, g1, g2, g3, g4⟩ := take1 (s := [.im sc, .mu h3, .im PL, .un, .im (pq a), .im (pq b), .im (pq c), .im (tq w), .un, .un, .un, .un, .un, .un, .un, .un, .un, .un, .un, .un]) (m := 5) rfl d1 (by decide)
  have g4 : evE (.call f_Ltake (.b 1 (.e (.cst (.int 5)) .nil)) []) [.im sc, .mu h3, .im PL, .un, .im (pq a), .im (pq b), .im (pq c), .im (tq w), .un, .un, .un, .un, .un, .un, .un, .un, .un, .un, .un, .un] = .ok (.int v) [.im sc, .mu h4, .im PL, .un, .im (pq a), .im (pq b), .im (pq c), .im (tq w), .un, .un, .un, .un, .un, .un, .un, .un, .un, .un, .un, .un] := g4
  have bu : Bd 160 (1 + u) := by
    have : Bd 10 (1 + u) := by unfold Bd; omega
    exact this.up (by decide)
  have bv : Bd 160 (1 + v) := by
    have : Bd 10 (1 + v) := by unfold Bd; omega
    exact this.up (by decide)
  have cz := callV (avs := [.v (.int (1 + u)), .v (.int (1 + v))]) rfl rfl (w_Lratio (1 + u) (1 + v) (by omega) (bv.up (l := 6000) (by decide)))
  rw [nm_tq] at cz
  have zq : Qr 160 (nmP (1 + u) (1 + v)) := Qr.nm bu bv (by omega)
  generalize nmP (1 + u) (1 + v) = z at *
  -- what is reckoned
  have st := stepP_q qa qb
  have A1 := callV (avs := [.v (tq w), .v (pq a)]) rfl rfl (w_amount true true (w := w) (a := a) (a2.a.up (by decide)) (a2.b.up (by decide)) (qa.up (by decide)))
  have A2 := callV (avs := [.v (lq w), .v (.lst [tq a.1, tq a.2])]) rfl rfl (w_amount false false (w := w) (a := a) (a2.a.up (by decide)) (a2.b.up (by decide)) (qa.up (by decide)))
  have A3 := callV (avs := [.v (tq w), .v (pq a)]) rfl rfl (w_Lamount (w := w) (a := a) (a2.a.up (by decide)) (a2.b.up (by decide)) (qa.up (by decide)))
  have A4 := callV (avs := [.v (tq w), .v (pq c)]) rfl rfl (w_Lamount (w := w) (a := c) (a2.a.up (by decide)) (a2.b.up (by decide)) (qc.up (by decide)))
  have qm := amt_q a2.a a2.b qc
  have A5 := callV (avs := [.v (pq c), .v (tq (amt w c))]) rfl rfl (checks_ qc (qm.up (by decide)))
  generalize amt w c = mc at *
  generalize amt w a = ma at *
  have A6 := callV (avs := [.v (tq ma), .v (tq ma)]) rfl rfl (by have := w_Lplain ma ma; rwa [decide_eq_true rfl] at this)
  have nm := ne_tq ma ma
  rw [decide_eq_true rfl] at nm
  have B1 := callV (avs := [.v (pq a), .v (pq b)]) rfl rfl (w_step true true (qa.up (by decide)) (qb.up (by decide)))
  have B2 := callV (avs := [.v (pq a), .v (pq b)]) rfl rfl (w_Lstep (qa.up (by decide)) (qb.up (by decide)))
  have B3 := callV (avs := [.v (pq (stepP a b))]) rfl rfl (w_tup_pq (stepP a b))
  have eb : byP a (stepP a b) = b := Prod.ext (add_sub qa.x qb.x) (add_sub qa.y qb.y)
  have B4 := callV (avs := [.v (pq a), .v (pq (stepP a b))]) rfl rfl (w_by true true (qa.up (by decide)) (st.up (by decide)))
  rw [eb] at B4
  have B5 := callV (avs := [.v (.lst [tq c.1, tq c.2]), .v (.lst [tq (stepP a b).1, tq (stepP a b).2])]) rfl rfl (w_by false false (qc.up (by decide)) (st.up (by decide)))
  have B6 := callV (avs := [.v (pq c), .v (pq (stepP a b))]) rfl rfl (w_Lby (qc.up (by decide)) (st.up (by decide)))
  have C1 := callV (avs := [.v (tq sr), .v (tq (stepP a b).1)]) rfl rfl (w_Lmul (b2.up (by decide)) (st.x.up (by decide)))
  have C2 := callV (avs := [.v (tq sr), .v (tq (stepP a b).2)]) rfl rfl (w_Lmul (b2.up (by decide)) (st.y.up (by decide)))
  have sq := scP_q b2 st
  have C3 := callV (avs := [.v (pq a), .v (pq b), .v (tq sr)]) rfl rfl (w_place_on true true (qa.up (by decide)) (qb.up (by decide)) (b2.up (by decide)))
  have C4 := callV (avs := [.v (pq a), .v (pq (scP sr (stepP a b)))]) rfl rfl (w_Lby (qa.up (by decide)) (sq.up (by decide)))
  have o0 : Qr 60 ((0, 1) : Int × Int) := ⟨⟨by unfold Bd; decide, by unfold Bd; decide, by decide⟩, by decide, by decide⟩
  have o1 : Qr 60 ((1, 1) : Int × Int) := ⟨⟨by unfold Bd; decide, by unfold Bd; decide, by decide⟩, by decide, by decide⟩
  have C5 := callV (avs := [.v (pq a), .v (pq b), .v (qt 0 1)]) rfl rfl (w_place_on true true (s := (0, 1)) (qa.up (by decide)) (qb.up (by decide)) (o0.up (by decide)))
  have C6 := callV (avs := [.v (.lst [tq a.1, tq a.2]), .v (.lst [tq b.1, tq b.2]), .v (qt 1 1)]) rfl rfl (w_place_on false false (s := (1, 1)) (qa.up (by decide)) (qb.up (by decide)) (o1.up (by decide)))
  have e5 : byP a (scP (0, 1) (stepP a b)) = a := by
    unfold byP scP
    rw [mul_zero' st.x.pos, mul_zero' st.y.pos, add_zero' qa.x.pos qa.x.cop, add_zero' qa.y.pos qa.y.cop]
  have e6 : byP a (scP (1, 1) (stepP a b)) = b := by
    unfold scP
    rw [mul_one' st.x.pos st.x.cop, mul_one' st.y.pos st.y.cop]
    exact eb
  rw [e5] at C5
  rw [e6] at C6
  have D1 := callV (avs := [.v (pq a), .v (pq b), .v (pq c)]) rfl rfl (w_cross true true true (qa.up (by decide)) (qb.up (by decide)) (qc.up (by decide)))
  have D2 := callV (avs := [.v (pq a), .v (pq b), .v (pq c)]) rfl rfl (w_Lcross (qa.up (by decide)) (qb.up (by decide)) (qc.up (by decide)))
  have D3 := callV (avs := [.v (pq a), .v (pq a), .v (pq c)]) rfl rfl (w_cross true true true (qa.up (by decide)) (qa.up (by decide)) (qc.up (by decide)))
  have e7 : crP a a c = (0, 1) := by
    have sc := stepP_q qa qc
    unfold crP
    rw [step_self qa]
    show sub (mul (0, 1) (stepP a c).2) (mul (0, 1) (stepP a c).1) = _
    rw [mul_zero' sc.x.pos, mul_zero' sc.y.pos, sub_self (by decide)]
  rw [e7] at D3
  have G1 := callV (avs := [.v (pq a)]) rfl rfl (w_turnP (a := a))
  have G2 := callV (avs := [.v (pq a)]) rfl rfl (w_mirrorP (a := a))
  have G3 := callV (avs := [.v (pq a), .v (tq z)]) rfl rfl (w_growP true (qa.up (by decide)) (zq.up (by decide)))
  have G4 := callV (avs := [.v (.lst [tq a.1, tq a.2]), .v (tq z)]) rfl rfl (w_growP false (qa.up (by decide)) (zq.up (by decide)))
  have G5 := callV (avs := [.v (tq a.1), .v (tq z)]) rfl rfl (w_Lmul (qa.x.up (by decide)) (zq.up (by decide)))
  have G6 := callV (avs := [.v (tq a.2), .v (tq z)]) rfl rfl (w_Lmul (qa.y.up (by decide)) (zq.up (by decide)))
  have G7 := callV (avs := [.v (pq (mul a.1 z, mul a.2 z))]) rfl rfl (w_tup_pq (mul a.1 z, mul a.2 z))
  have np := fun q : Pl => ne_pq q q
  simp only [decide_eq_true, Bool.not_true] at np
  have F1 : f_amount_at.fresh = false := rfl
  have F2 : f_Lamount.fresh = false := rfl
  have F3 : f_Lplain.fresh = false := rfl
  have F4 : f_Lstep.fresh = false := rfl
  have F5 : f_Ltuples.fresh = false := rfl
  have F6 : f_place_by.fresh = false := rfl
  have F7 : f_Lby.fresh = false := rfl
  have F8 : f_place_on.fresh = false := rfl
  have F9 : f_cross_at.fresh = false := rfl
  have F10 : f_Lcross.fresh = false := rfl
  have F11 : f_mean_place.fresh = false := rfl
  have F12 : f_turn_place.fresh = false := rfl
  have F13 : f_mirror_place.fresh = false := rfl
  have F14 : f_grow_place.fresh = false := rfl
  have F15 : f_Lratio.fresh = false := rfl
  have F16 : f_Lnormal.fresh = false := rfl
  have F17 : f_Lchecks.fresh = false := rfl
  have F18 : f_Ldirection.fresh = false := rfl
  -- many, row
  obtain ⟨n, h5, i1, i2, i3, i4⟩ := take1 (s := [.im sc, .mu h4, .im PL, .un, .im (pq a), .im (pq b), .im (pq c), .im (tq w), .im (tq sr), .im (tq z), .im (tq ma), .im (pq (stepP a b)), .im (pq (scP sr (stepP a b))), .un, .un, .un, .un, .un, .un, .un]) (m := 4) rfl g1 (by decide)
  have i4 : evE (.call f_Ltake (.b 1 (.e (.cst (.int 4)) .nil)) []) [.im sc, .mu h4, .im PL, .un, .im (pq a), .im (pq b), .im (pq c), .im (tq w), .im (tq sr), .im (tq z), .im (tq ma), .im (pq (stepP a b)), .im (pq (scP sr (stepP a b))), .un, .un, .un, .un, .un, .un, .un] = .ok (.int n) [.im sc, .mu h5, .im PL, .un, .im (pq a), .im (pq b), .im (pq c), .im (tq w), .im (tq sr), .im (tq z), .im (tq ma), .im (pq (stepP a b)), .im (pq (scP sr (stepP a b))), .un, .un, .un, .un, .un, .un, .un] := i4
  obtain ⟨qs, h6, j1, j2, j3, j4⟩ := row_at (a := .im sc) (r := [.im (pq a), .im (pq b), .im (pq c), .im (tq w), .im (tq sr), .im (tq z), .im (tq ma), .im (pq (stepP a b)), .im (pq (scP sr (stepP a b))), .im (.int (1 + n)), .un, .un, .un, .un, .un, .un]) (ps := [a, b, c, d]) (n := 1 + n) i1 rfl (by omega) (fun h => rfl)
  rw [hP] at j4
  have qq : ∀ p ∈ qs, QP 160 p := fun p hp => by
    have := j1 p hp
    simp only [List.mem_cons, List.not_mem_nil, or_false] at this
    rcases this with rfl | rfl | rfl | rfl <;> assumption
  have qn : qs ≠ [] := fun e => by subst e; simp at j2; omega
  have ql : qs.length ≤ 4 := by omega
  have z0 : Qr 2 ((0, 1) : Int × Int) := ⟨⟨by unfold Bd; decide, by unfold Bd; decide, by decide⟩, by decide, by decide⟩
  have z2 : QP 2 (((0, 1), (0, 1)) : Pl) := ⟨z0, z0⟩
  have tot : QP 1500 (totP qs) := (tot_q qs _ 2 qq z2).up (by omega)
  obtain ⟨x17, lp⟩ := xy_loop (.im sc) (.mu h6) (.im PL) .un (.im (pq a)) (.im (pq b)) (.im (pq c)) (.im (tq w)) (.im (tq sr)) (.im (tq z)) (.im (tq ma)) (.im (pq (stepP a b))) (.im (pq (scP sr (stepP a b)))) (.im (.int (1 + n))) (.im (.lst (qs.map pq))) [.un, .un] qs ((0, 1), (0, 1)) .un 2 rfl qq z2 (by omega)
  have M1 := callV (avs := [.v (.lst (qs.map pq))]) rfl rfl (w_mean (.inl rfl) qq (by omega) qn)
  have M2 := callV (avs := [.v (.tup (qs.map pq))]) rfl rfl (w_mean (.inr rfl) qq (by omega) qn)
  rw [j2] at M1 M2
  have qn1 : Qr 60 (1, 1 + n) := ⟨⟨by show (1 : Int).natAbs < 2 ^ 60; decide, by unfold Bd; show (1 + n : Int).natAbs < _; omega, by show (1 + n : Int) ≠ 0; omega⟩, by show (0 : Int) < 1 + n; omega, Nat.gcd_one_left _⟩
  have M3 := callV (avs := [.v (tq (totP qs).1), .v (tq (1, 1 + n))]) rfl rfl (w_Lmul (tot.x.up (by decide)) (qn1.up (by decide)))
  have M4 := callV (avs := [.v (tq (totP qs).2), .v (tq (1, 1 + n))]) rfl rfl (w_Lmul (tot.y.up (by decide)) (qn1.up (by decide)))
  have M5 := callV (avs := [.v (pq (mul (totP qs).1 (1, 1 + n), mul (totP qs).2 (1, 1 + n)))]) rfl rfl (w_tup_pq (mul (totP qs).1 (1, 1 + n), mul (totP qs).2 (1, 1 + n)))
  have M6 := np (mul (totP qs).1 (1, 1 + n), mul (totP qs).2 (1, 1 + n))
  change forL _ _ _ _ = SO.nx (_ :: _ :: _ :: _ :: _ :: _ :: _ :: _ :: _ :: _ :: _ :: _ :: _ :: _ :: _ :: .im (tq (totP qs).1) :: .im (tq (totP qs).2) :: _) at lp
  generalize mul (totP qs).1 (1, 1 + n) = mx at *
  generalize mul (totP qs).2 (1, 1 + n) = my at *
  generalize totP qs = tt at *
  have fin : ∃ dd d19, evSs (ir_law.drop 21) [.im sc, .mu h6, .im PL, .un, .im (pq a), .im (pq b), .im (pq c), .im (tq w), .im (tq sr), .im (tq z), .im (tq ma), .im (pq (stepP a b)), .im (pq (scP sr (stepP a b))), .im (.int (1 + n)), .im (.lst (qs.map pq)), .im (tq tt.1), .im (tq tt.2), x17, .im (.str ("refused" : Str)), .un] = .ret (.bl true) [.im sc, .mu h6, .im PL, .un, .im (pq a), .im (pq b), .im (pq c), .im (tq w), .im (tq sr), .im (tq z), .im (tq ma), .im (pq (stepP a b)), .im (pq (scP sr (stepP a b))), .im (.int (1 + n)), .im (.lst (qs.map pq)), .im (tq tt.1), .im (tq tt.2), x17, dd, d19] := by
    have N2 := callV (avs := [.v (pq a), .v (pq a)]) rfl rfl (normal_no qa)
    have es : cop .eq (.str ("refused" : Str)) (.str ("refused" : Str)) = some (.bl true) := eq_self' (by decide +kernel)
    have nab := ne_pq a b
    by_cases hab : a = b
    · rw [decide_eq_true hab] at nab
      have N1 : ∀ (s : Sls) (fin : Bool), after f_Lnormal [.v (pq a), .v (pq b)] [] s fin = .ok (.str ("refused" : Str)) s := by
        rw [← hab]
        exact N2
      refine ⟨.im (.str ("refused" : Str)), .un, seq_nx (s1 := [.im sc, .mu h6, .im PL, .un, .im (pq a), .im (pq b), .im (pq c), .im (tq w), .im (tq sr), .im (tq z), .im (tq ma), .im (pq (stepP a b)), .im (pq (scP sr (stepP a b))), .im (.int (1 + n)), .im (.lst (qs.map pq)), .im (tq tt.1), .im (tq tt.2), x17, .im (.str ("refused" : Str)), .un]) (by simp [getV, nab]) (seq_ret ?_)⟩
      simp [getV, F2, F16, F17, N1, N2, A4, A5, es]
    · rw [decide_eq_false hab] at nab
      have N1 := callV (avs := [.v (pq a), .v (pq b)]) rfl rfl (normal_ok qa qb hab)
      have hne := step_ne qa qb hab
      have m1 := b_mul (stepP a b).1.1 (stepP a b).2.2 (st.x.rt.n.mulOk st.y.rt.d (by decide))
      have m2 := b_mul (stepP a b).2.1 (stepP a b).1.2 (st.y.rt.n.mulOk st.x.rt.d (by decide))
      have N3 := callV (avs := [.v (.int ((stepP a b).1.1 * (stepP a b).2.2)), .v (.int ((stepP a b).2.1 * (stepP a b).1.2))]) rfl rfl (w_Ldirection hne ((st.x.rt.n.mul st.y.rt.d).up (by decide)) ((st.y.rt.n.mul st.x.rt.d).up (by decide)))
      generalize sh ((stepP a b).1.1 * (stepP a b).2.2) ((stepP a b).2.1 * (stepP a b).1.2) = dd at *
      have ee := eq_tq (nrm dd) (nrm dd)
      rw [decide_eq_true rfl] at ee
      have en : tq (nrm dd) = .tup [.int dd.2, .int (-dd.1)] := rfl
      rw [en] at N1 ee
      refine ⟨.im (.tup [.int dd.2, .int (-dd.1)]), .im (tq dd), seq_nx (s1 := [.im sc, .mu h6, .im PL, .un, .im (pq a), .im (pq b), .im (pq c), .im (tq w), .im (tq sr), .im (tq z), .im (tq ma), .im (pq (stepP a b)), .im (pq (scP sr (stepP a b))), .im (.int (1 + n)), .im (.lst (qs.map pq)), .im (tq tt.1), .im (tq tt.2), x17, .im (.tup [.int dd.2, .int (-dd.1)]), .im (tq dd)]) ?_ (seq_ret ?_)⟩
      · simp [getV, nab, m1, m2, N3, F18, setTg_nm, isMp]
      · simp [getV, F2, F16, F17, N1, N2, A4, A5, es, ee]
  obtain ⟨dd, d19, fin⟩ := fin
  refine ⟨_, sem_ret (s0 := [.im sc]) (s1 := [.im sc, .mu h6, .im PL, .un, .im (pq a), .im (pq b), .im (pq c), .im (tq w), .im (tq sr), .im (tq z), .im (tq ma), .im (pq (stepP a b)), .im (pq (scP sr (stepP a b))), .im (.int (1 + n)), .im (.lst (qs.map pq)), .im (tq tt.1), .im (tq tt.2), x17, dd, d19]) rfl (by subst hsc; rfl) (e0.trans ?_) rfl⟩
  refine (step_ (s1 := [.im sc, .mu h, .im PL, .un, .im (pq a), .im (pq b), .im (pq c), .un, .un, .un, .un, .un, .un, .un, .un, .un, .un, .un, .un, .un]) ?_).trans ?_
  · subst hP
    simp [getV, setTg_nm, setTg_tup, setTgs, isMp]
  refine (step_ (s1 := [.im sc, .mu h1, .im PL, .un, .im (pq a), .im (pq b), .im (pq c), .im (tq w), .un, .un, .un, .un, .un, .un, .un, .un, .un, .un, .un, .un]) ?_).trans ?_
  · rw [s_asg_, x1]
    rfl
  refine (step_ (s1 := [.im sc, .mu h4, .im PL, .un, .im (pq a), .im (pq b), .im (pq c), .im (tq w), .im (tq sr), .im (tq z), .un, .un, .un, .un, .un, .un, .un, .un, .un, .un]) ?_).trans ?_
  · rw [s_asg_, e_tup, es_cons, x2, bind_ok, kEs_, es_cons, e_call, F15]
    simp only [Bool.false_eq_true, if_false, as_e, as_nil, e_bin, e_cst, bind_ok, kBin_, d4, kBin2_, b_add, of_some, kAs_, g4, kAs2_, kCall_, cz, kEs_, es_nil, kEs2_, kTup2, so_ok, kAsg_]
    rfl
  refine (step_ (s1 := [.im sc, .mu h4, .im PL, .un, .im (pq a), .im (pq b), .im (pq c), .im (tq w), .im (tq sr), .im (tq z), .im (tq ma), .un, .un, .un, .un, .un, .un, .un, .un, .un]) ?_).trans ?_
  · simp [getV, F1, A1, setTg_nm, isMp]
  refine (step_ (s1 := [.im sc, .mu h4, .im PL, .un, .im (pq a), .im (pq b), .im (pq c), .im (tq w), .im (tq sr), .im (tq z), .im (tq ma), .un, .un, .un, .un, .un, .un, .un, .un, .un]) ?_).trans ?_
  · simp [getV, F1, F2, F3, A2, A3, A6, nm, evM, items]
  refine (step_ (s1 := [.im sc, .mu h4, .im PL, .un, .im (pq a), .im (pq b), .im (pq c), .im (tq w), .im (tq sr), .im (tq z), .im (tq ma), .im (pq (stepP a b)), .un, .un, .un, .un, .un, .un, .un, .un]) ?_).trans ?_
  · simp [getV, fr_step, B1, setTg_nm, isMp]
  refine (step_ (s1 := [.im sc, .mu h4, .im PL, .un, .im (pq a), .im (pq b), .im (pq c), .im (tq w), .im (tq sr), .im (tq z), .im (tq ma), .im (pq (stepP a b)), .un, .un, .un, .un, .un, .un, .un, .un]) ?_).trans ?_
  · simp [getV, F4, F5, F6, F7, B2, B3, B4, B5, B6, np, evM, items]
  refine (step_ (s1 := [.im sc, .mu h4, .im PL, .un, .im (pq a), .im (pq b), .im (pq c), .im (tq w), .im (tq sr), .im (tq z), .im (tq ma), .im (pq (stepP a b)), .im (pq (scP sr (stepP a b))), .un, .un, .un, .un, .un, .un, .un]) ?_).trans ?_
  · simp [getV, fr_Ltimes, C1, C2, setTg_nm, isMp, scP]
  refine (step_ (s1 := [.im sc, .mu h4, .im PL, .un, .im (pq a), .im (pq b), .im (pq c), .im (tq w), .im (tq sr), .im (tq z), .im (tq ma), .im (pq (stepP a b)), .im (pq (scP sr (stepP a b))), .un, .un, .un, .un, .un, .un, .un]) ?_).trans ?_
  · simp [getV, F7, F8, C3, C4, C5, C6, np, evM, items]
  refine (step_ (s1 := [.im sc, .mu h4, .im PL, .un, .im (pq a), .im (pq b), .im (pq c), .im (tq w), .im (tq sr), .im (tq z), .im (tq ma), .im (pq (stepP a b)), .im (pq (scP sr (stepP a b))), .un, .un, .un, .un, .un, .un, .un]) ?_).trans ?_
  · have ncr := ne_tq (crP a b c) (crP a b c)
    have n01 := ne_tq (0, 1) (0, 1)
    rw [decide_eq_true rfl] at ncr n01
    simp [getV, F9, F10, D1, D2, D3, ncr, n01]
  refine (step_ (s1 := [.im sc, .mu h5, .im PL, .un, .im (pq a), .im (pq b), .im (pq c), .im (tq w), .im (tq sr), .im (tq z), .im (tq ma), .im (pq (stepP a b)), .im (pq (scP sr (stepP a b))), .im (.int (1 + n)), .un, .un, .un, .un, .un, .un]) ?_).trans ?_
  · rw [s_asg_, e_bin, e_cst, bind_ok, kBin_, i4]
    rfl
  refine (step_ (s1 := [.im sc, .mu h6, .im PL, .un, .im (pq a), .im (pq b), .im (pq c), .im (tq w), .im (tq sr), .im (tq z), .im (tq ma), .im (pq (stepP a b)), .im (pq (scP sr (stepP a b))), .im (.int (1 + n)), .mu (qs.map pq), .un, .un, .un, .un, .un]) ?_).trans ?_
  · rw [s_asgM_, j4]
    rfl
  refine (step_ (s1 := [.im sc, .mu h6, .im PL, .un, .im (pq a), .im (pq b), .im (pq c), .im (tq w), .im (tq sr), .im (tq z), .im (tq ma), .im (pq (stepP a b)), .im (pq (scP sr (stepP a b))), .im (.int (1 + n)), .mu (qs.map pq), .im (qt 0 1), .im (qt 0 1), .un, .un, .un]) ?_).trans ?_
  · simp [setTg_nm, setTg_tup, setTgs, isMp]
  refine (step_ (s1 := [.im sc, .mu h6, .im PL, .un, .im (pq a), .im (pq b), .im (pq c), .im (tq w), .im (tq sr), .im (tq z), .im (tq ma), .im (pq (stepP a b)), .im (pq (scP sr (stepP a b))), .im (.int (1 + n)), .im (.lst (qs.map pq)), .im (tq tt.1), .im (tq tt.2), x17, .un, .un]) ?_).trans ?_
  · rw [s_for_, i_seq_, e_var]
    simp only [getV, List.getElem?_cons_succ, List.getElem?_cons_zero, List.set_cons_succ, List.set_cons_zero, bind_ok, kSeq_lst, so_ok, kFor_]
    exact lp
  refine (step_ (s1 := [.im sc, .mu h6, .im PL, .un, .im (pq a), .im (pq b), .im (pq c), .im (tq w), .im (tq sr), .im (tq z), .im (tq ma), .im (pq (stepP a b)), .im (pq (scP sr (stepP a b))), .im (.int (1 + n)), .im (.lst (qs.map pq)), .im (tq tt.1), .im (tq tt.2), x17, .un, .un]) ?_).trans ?_
  · simp [getV, F5, F11, fr_Ltimes, M1, M2, M3, M4, M5, M6, biF]
  refine (step_ (s1 := [.im sc, .mu h6, .im PL, .un, .im (pq a), .im (pq b), .im (pq c), .im (tq w), .im (tq sr), .im (tq z), .im (tq ma), .im (pq (stepP a b)), .im (pq (scP sr (stepP a b))), .im (.int (1 + n)), .im (.lst (qs.map pq)), .im (tq tt.1), .im (tq tt.2), x17, .un, .un]) ?_).trans ?_
  · have e1 := np ((-a.2.1, a.2.2), a.1)
    have e2 := np ((-a.1.1, a.1.2), a.2)
    simp [getV, F12, F13, G1, G2, e1, e2]
  refine (step_ (s1 := [.im sc, .mu h6, .im PL, .un, .im (pq a), .im (pq b), .im (pq c), .im (tq w), .im (tq sr), .im (tq z), .im (tq ma), .im (pq (stepP a b)), .im (pq (scP sr (stepP a b))), .im (.int (1 + n)), .im (.lst (qs.map pq)), .im (tq tt.1), .im (tq tt.2), x17, .un, .un]) ?_).trans ?_
  · have e1 := np (mul a.1 z, mul a.2 z)
    simp [getV, F5, F14, fr_Ltimes, G3, G4, G5, G6, G7, e1, evM, items]
  refine (step_ (s1 := [.im sc, .mu h6, .im PL, .un, .im (pq a), .im (pq b), .im (pq c), .im (tq w), .im (tq sr), .im (tq z), .im (tq ma), .im (pq (stepP a b)), .im (pq (scP sr (stepP a b))), .im (.int (1 + n)), .im (.lst (qs.map pq)), .im (tq tt.1), .im (tq tt.2), x17, .im (.str ("refused" : Str)), .un]) ?_).trans ?_
  · simp [setTg_nm, isMp]
  exact fin
end K03

namespace K03.H
open PySem PySem.Spec L2 FL KS
/-! the head -/
open PySem.W (Frag)
abbrev D_Lhand : He.DefD := ⟨(("_law_hand" : Str), none), ("_law_hand" : Str), ("_law_hand" : Str), defArgs (top 34), defBody (top 34), sc_Lhand, [], []⟩
abbrev D_Lmixed : He.DefD := ⟨(("_law_mixed" : Str), none), ("_law_mixed" : Str), ("_law_mixed" : Str), defArgs (top 35), defBody (top 35), sc_Lmixed, [], []⟩
abbrev D_Ltake : He.DefD := ⟨(("_law_take" : Str), none), ("_law_take" : Str), ("_law_take" : Str), defArgs (top 36), defBody (top 36), sc_Ltake, [], []⟩
abbrev D_Lway : He.DefD := ⟨(("_law_way" : Str), none), ("_law_way" : Str), ("_law_way" : Str), defArgs (top 45), defBody (top 45), sc_Lway, [], []⟩
abbrev D_Lnumber : He.DefD := ⟨(("_law_number" : Str), none), ("_law_number" : Str), ("_law_number" : Str), defArgs (top 46), defBody (top 46), sc_Lnumber, [], []⟩
abbrev D_Lgcd : He.DefD := ⟨(("_law_gcd" : Str), none), ("_law_gcd" : Str), ("_law_gcd" : Str), defArgs (top 37), defBody (top 37), sc_Lgcd, [], []⟩
abbrev D_Ldirection : He.DefD := ⟨(("_law_direction" : Str), none), ("_law_direction" : Str), ("_law_direction" : Str), defArgs (top 43), defBody (top 43), sc_Ldirection, [], []⟩
abbrev D_Lany_way : He.DefD := ⟨(("_law_any_way" : Str), none), ("_law_any_way" : Str), ("_law_any_way" : Str), defArgs (top 50), defBody (top 50), sc_Lany_way, [], []⟩
abbrev D_in_lowest : He.DefD := ⟨(("in_lowest" : Str), none), ("in_lowest" : Str), ("in_lowest" : Str), defArgs (top 11), defBody (top 11), sc_in_lowest, [], []⟩
abbrev D_amount_at : He.DefD := ⟨(("amount_at" : Str), none), ("amount_at" : Str), ("amount_at" : Str), defArgs (top 23), defBody (top 23), sc_amount_at, [], []⟩
abbrev D_minus : He.DefD := ⟨(("minus" : Str), none), ("minus" : Str), ("minus" : Str), defArgs (top 13), defBody (top 13), sc_minus, [], []⟩
abbrev D_step_from : He.DefD := ⟨(("step_from" : Str), none), ("step_from" : Str), ("step_from" : Str), defArgs (top 24), defBody (top 24), sc_step_from, [], []⟩
abbrev D_Lratio : He.DefD := ⟨(("_law_ratio" : Str), none), ("_law_ratio" : Str), ("_law_ratio" : Str), defArgs (top 38), defBody (top 38), sc_Lratio, [], []⟩
abbrev D_Lsmall : He.DefD := ⟨(("_law_small" : Str), none), ("_law_small" : Str), ("_law_small" : Str), defArgs (top 48), defBody (top 48), sc_Lsmall, [], []⟩
abbrev D_Lplace : He.DefD := ⟨(("_law_place" : Str), none), ("_law_place" : Str), ("_law_place" : Str), defArgs (top 49), defBody (top 49), sc_Lplace, [], []⟩
abbrev D_Ltimes : He.DefD := ⟨(("_law_times" : Str), none), ("_law_times" : Str), ("_law_times" : Str), defArgs (top 41), defBody (top 41), sc_Ltimes, [], []⟩
abbrev D_is_whole : He.DefD := ⟨(("is_whole" : Str), none), ("is_whole" : Str), ("is_whole" : Str), defArgs (top 9), defBody (top 9), sc_is_whole, [.non, .non], []⟩
abbrev D_is_ratio : He.DefD := ⟨(("is_ratio" : Str), none), ("is_ratio" : Str), ("is_ratio" : Str), defArgs (top 10), defBody (top 10), sc_is_ratio, [], []⟩
abbrev D_check_amount : He.DefD := ⟨(("check_amount" : Str), none), ("check_amount" : Str), ("check_amount" : Str), defArgs (top 19), defBody (top 19), sc_check_amount, [], []⟩
abbrev D_check_size : He.DefD := ⟨(("check_size" : Str), none), ("check_size" : Str), ("check_size" : Str), defArgs (top 20), defBody (top 20), sc_check_size, [], []⟩
abbrev D_is_couple : He.DefD := ⟨(("is_couple" : Str), none), ("is_couple" : Str), ("is_couple" : Str), defArgs (top 17), defBody (top 17), sc_is_couple, [], []⟩
abbrev D_check_place : He.DefD := ⟨(("check_place" : Str), none), ("check_place" : Str), ("check_place" : Str), defArgs (top 18), defBody (top 18), sc_check_place, [], []⟩
abbrev D_Lrefuses_place : He.DefD := ⟨(("_law_refuses_place" : Str), none), ("_law_refuses_place" : Str), ("_law_refuses_place" : Str), defArgs (top 54), defBody (top 54), sc_Lrefuses_place, [], []⟩
abbrev D_Lrefuses_amount : He.DefD := ⟨(("_law_refuses_amount" : Str), none), ("_law_refuses_amount" : Str), ("_law_refuses_amount" : Str), defArgs (top 55), defBody (top 55), sc_Lrefuses_amount, [], []⟩
abbrev D_Lrefuses_size : He.DefD := ⟨(("_law_refuses_size" : Str), none), ("_law_refuses_size" : Str), ("_law_refuses_size" : Str), defArgs (top 56), defBody (top 56), sc_Lrefuses_size, [], []⟩
abbrev D_Lchecks : He.DefD := ⟨(("_law_checks" : Str), none), ("_law_checks" : Str), ("_law_checks" : Str), defArgs (top 58), defBody (top 58), sc_Lchecks, [], []⟩
abbrev D_Lplain : He.DefD := ⟨(("_law_plain" : Str), none), ("_law_plain" : Str), ("_law_plain" : Str), defArgs (top 47), defBody (top 47), sc_Lplain, [], []⟩
abbrev D_Lless : He.DefD := ⟨(("_law_less" : Str), none), ("_law_less" : Str), ("_law_less" : Str), defArgs (top 40), defBody (top 40), sc_Lless, [], []⟩
abbrev D_Lstep : He.DefD := ⟨(("_law_step" : Str), none), ("_law_step" : Str), ("_law_step" : Str), defArgs (top 52), defBody (top 52), sc_Lstep, [], []⟩
abbrev D_Ltuples : He.DefD := ⟨(("_law_tuples" : Str), none), ("_law_tuples" : Str), ("_law_tuples" : Str), defArgs (top 53), defBody (top 53), sc_Ltuples, [], []⟩
abbrev D_plus : He.DefD := ⟨(("plus" : Str), none), ("plus" : Str), ("plus" : Str), defArgs (top 12), defBody (top 12), sc_plus, [], []⟩
abbrev D_place_by : He.DefD := ⟨(("place_by" : Str), none), ("place_by" : Str), ("place_by" : Str), defArgs (top 25), defBody (top 25), sc_place_by, [], []⟩
abbrev D_Lplus : He.DefD := ⟨(("_law_plus" : Str), none), ("_law_plus" : Str), ("_law_plus" : Str), defArgs (top 39), defBody (top 39), sc_Lplus, [], []⟩
abbrev D_Lby : He.DefD := ⟨(("_law_by" : Str), none), ("_law_by" : Str), ("_law_by" : Str), defArgs (top 51), defBody (top 51), sc_Lby, [], []⟩
abbrev D_times : He.DefD := ⟨(("times" : Str), none), ("times" : Str), ("times" : Str), defArgs (top 14), defBody (top 14), sc_times, [], []⟩
abbrev D_place_on : He.DefD := ⟨(("place_on" : Str), none), ("place_on" : Str), ("place_on" : Str), defArgs (top 26), defBody (top 26), sc_place_on, [], []⟩
abbrev D_cross_at : He.DefD := ⟨(("cross_at" : Str), none), ("cross_at" : Str), ("cross_at" : Str), defArgs (top 27), defBody (top 27), sc_cross_at, [], []⟩
abbrev D_Lcross : He.DefD := ⟨(("_law_cross" : Str), none), ("_law_cross" : Str), ("_law_cross" : Str), defArgs (top 44), defBody (top 44), sc_Lcross, [], []⟩
abbrev D_mean_place : He.DefD := ⟨(("mean_place" : Str), none), ("mean_place" : Str), ("mean_place" : Str), defArgs (top 28), defBody (top 28), sc_mean_place, [], []⟩
abbrev D_negative : He.DefD := ⟨(("negative" : Str), none), ("negative" : Str), ("negative" : Str), defArgs (top 15), defBody (top 15), sc_negative, [], []⟩
abbrev D_turn_place : He.DefD := ⟨(("turn_place" : Str), none), ("turn_place" : Str), ("turn_place" : Str), defArgs (top 30), defBody (top 30), sc_turn_place, [], []⟩
abbrev D_mirror_place : He.DefD := ⟨(("mirror_place" : Str), none), ("mirror_place" : Str), ("mirror_place" : Str), defArgs (top 31), defBody (top 31), sc_mirror_place, [], []⟩
abbrev D_grow_place : He.DefD := ⟨(("grow_place" : Str), none), ("grow_place" : Str), ("grow_place" : Str), defArgs (top 32), defBody (top 32), sc_grow_place, [], []⟩
abbrev D_shortened : He.DefD := ⟨(("shortened" : Str), none), ("shortened" : Str), ("shortened" : Str), defArgs (top 21), defBody (top 21), sc_shortened, [], []⟩
abbrev D_direction_of : He.DefD := ⟨(("direction_of" : Str), none), ("direction_of" : Str), ("direction_of" : Str), defArgs (top 22), defBody (top 22), sc_direction_of, [], []⟩
abbrev D_side_normal : He.DefD := ⟨(("side_normal" : Str), none), ("side_normal" : Str), ("side_normal" : Str), defArgs (top 29), defBody (top 29), sc_side_normal, [], []⟩
abbrev D_Lnormal : He.DefD := ⟨(("_law_normal" : Str), none), ("_law_normal" : Str), ("_law_normal" : Str), defArgs (top 57), defBody (top 57), sc_Lnormal, [], []⟩
abbrev D_Lamount : He.DefD := ⟨(("_law_amount" : Str), none), ("_law_amount" : Str), ("_law_amount" : Str), defArgs (top 42), defBody (top 42), sc_Lamount, [], []⟩
abbrev D_law : He.DefD := ⟨(("law" : Str), none), ("law" : Str), ("law" : Str), defArgs (top 59), defBody (top 59), sc_law, [], []⟩
abbrev mth_BadPlace : Stmt := (clsB (top 3)).getD 0 (.Pass ⟨0, 0, 0, 0⟩)
abbrev XD_BadPlace : XcD := { c := ("BadPlace" : Str), name := "__init__", qual := ("BadPlace.__init__" : Str), params := defArgs mth_BadPlace, scope := defScope mth_BadPlace, ps := [("self" : Str)], slf := "self", xs := [.s ("place" : Str) 0 ⟨8, 25, 8, 32⟩], fs := [], p0 := ⟨8, 8, 8, 13⟩, p1 := ⟨8, 8, 8, 15⟩, p2 := ⟨8, 8, 8, 24⟩, p3 := ⟨8, 8, 8, 33⟩, p4 := ⟨8, 8, 8, 33⟩ }
theorem XT_BadPlace : XcT PySem.Challenge.rw_feltstone_k03_whole_places_and_amounts.prog XD_BadPlace := ⟨by rfl, by rfl, by rfl, by decide +kernel, by decide +kernel, by decide +kernel, by decide +kernel, by decide +kernel, by decide +kernel, ⟨_, by rfl, by rfl, by decide +kernel⟩, by decide +kernel, by decide +kernel, by decide +kernel, fun _ => rfl, fun _ _ _ _ _ _ _ us hl => match us, hl with | [_], _ => rfl, by decide, by decide⟩
abbrev mth_BadDirection : Stmt := (clsB (top 4)).getD 0 (.Pass ⟨0, 0, 0, 0⟩)
abbrev XD_BadDirection : XcD := { c := ("BadDirection" : Str), name := "__init__", qual := ("BadDirection.__init__" : Str), params := defArgs mth_BadDirection, scope := defScope mth_BadDirection, ps := [("self" : Str)], slf := "self", xs := [.s ("direction" : Str) 0 ⟨12, 25, 12, 36⟩], fs := [], p0 := ⟨12, 8, 12, 13⟩, p1 := ⟨12, 8, 12, 15⟩, p2 := ⟨12, 8, 12, 24⟩, p3 := ⟨12, 8, 12, 37⟩, p4 := ⟨12, 8, 12, 37⟩ }
theorem XT_BadDirection : XcT PySem.Challenge.rw_feltstone_k03_whole_places_and_amounts.prog XD_BadDirection := ⟨by rfl, by rfl, by rfl, by decide +kernel, by decide +kernel, by decide +kernel, by decide +kernel, by decide +kernel, by decide +kernel, ⟨_, by rfl, by rfl, by decide +kernel⟩, by decide +kernel, by decide +kernel, by decide +kernel, fun _ => rfl, fun _ _ _ _ _ _ _ us hl => match us, hl with | [_], _ => rfl, by decide, by decide⟩
abbrev mth_BadAmount : Stmt := (clsB (top 5)).getD 0 (.Pass ⟨0, 0, 0, 0⟩)
abbrev XD_BadAmount : XcD := { c := ("BadAmount" : Str), name := "__init__", qual := ("BadAmount.__init__" : Str), params := defArgs mth_BadAmount, scope := defScope mth_BadAmount, ps := [("self" : Str)], slf := "self", xs := [.s ("amount" : Str) 0 ⟨16, 25, 16, 33⟩], fs := [], p0 := ⟨16, 8, 16, 13⟩, p1 := ⟨16, 8, 16, 15⟩, p2 := ⟨16, 8, 16, 24⟩, p3 := ⟨16, 8, 16, 34⟩, p4 := ⟨16, 8, 16, 34⟩ }
theorem XT_BadAmount : XcT PySem.Challenge.rw_feltstone_k03_whole_places_and_amounts.prog XD_BadAmount := ⟨by rfl, by rfl, by rfl, by decide +kernel, by decide +kernel, by decide +kernel, by decide +kernel, by decide +kernel, by decide +kernel, ⟨_, by rfl, by rfl, by decide +kernel⟩, by decide +kernel, by decide +kernel, by decide +kernel, fun _ => rfl, fun _ _ _ _ _ _ _ us hl => match us, hl with | [_], _ => rfl, by decide, by decide⟩
abbrev mth_BadSize : Stmt := (clsB (top 6)).getD 0 (.Pass ⟨0, 0, 0, 0⟩)
abbrev XD_BadSize : XcD := { c := ("BadSize" : Str), name := "__init__", qual := ("BadSize.__init__" : Str), params := defArgs mth_BadSize, scope := defScope mth_BadSize, ps := [("self" : Str)], slf := "self", xs := [.s ("size" : Str) 0 ⟨20, 25, 20, 31⟩], fs := [], p0 := ⟨20, 8, 20, 13⟩, p1 := ⟨20, 8, 20, 15⟩, p2 := ⟨20, 8, 20, 24⟩, p3 := ⟨20, 8, 20, 32⟩, p4 := ⟨20, 8, 20, 32⟩ }
theorem XT_BadSize : XcT PySem.Challenge.rw_feltstone_k03_whole_places_and_amounts.prog XD_BadSize := ⟨by rfl, by rfl, by rfl, by decide +kernel, by decide +kernel, by decide +kernel, by decide +kernel, by decide +kernel, by decide +kernel, ⟨_, by rfl, by rfl, by decide +kernel⟩, by decide +kernel, by decide +kernel, by decide +kernel, fun _ => rfl, fun _ _ _ _ _ _ _ us hl => match us, hl with | [_], _ => rfl, by decide, by decide⟩
def fn : List He.DefD := [D_Lhand, D_Lmixed, D_Ltake, D_Lway, D_Lnumber, D_Lgcd, D_Ldirection, D_Lany_way, D_in_lowest, D_amount_at, D_minus, D_step_from, D_Lratio, D_Lsmall, D_Lplace, D_Ltimes, D_is_whole, D_is_ratio, D_check_amount, D_check_size, D_is_couple, D_check_place, D_Lrefuses_place, D_Lrefuses_amount, D_Lrefuses_size, D_Lchecks, D_Lplain, D_Lless, D_Lstep, D_Ltuples, D_plus, D_place_by, D_Lplus, D_Lby, D_times, D_place_on, D_cross_at, D_Lcross, D_mean_place, D_negative, D_turn_place, D_mirror_place, D_grow_place, D_shortened, D_direction_of, D_side_normal, D_Lnormal, D_Lamount, D_law]
def fa : List He.Fa := [.glo ("_law_hand" : Str), .glo ("_law_mixed" : Str), .glo ("_law_take" : Str), .glo ("_law_way" : Str), .glo ("_law_number" : Str), .glo ("_law_gcd" : Str), .glo ("_law_direction" : Str), .glo ("_law_any_way" : Str), .glo ("in_lowest" : Str), .glo ("amount_at" : Str), .glo ("minus" : Str), .glo ("step_from" : Str), .glo ("_law_ratio" : Str), .glo ("_law_small" : Str), .glo ("_law_place" : Str), .glo ("_law_times" : Str), .glo ("is_whole" : Str), .glo ("is_ratio" : Str), .glo ("check_amount" : Str), .glo ("check_size" : Str), .glo ("is_couple" : Str), .glo ("check_place" : Str), .glo ("_law_refuses_place" : Str), .glo ("_law_refuses_amount" : Str), .glo ("_law_refuses_size" : Str), .glo ("_law_checks" : Str), .glo ("_law_plain" : Str), .glo ("_law_less" : Str), .glo ("_law_step" : Str), .glo ("_law_tuples" : Str), .glo ("plus" : Str), .glo ("place_by" : Str), .glo ("_law_plus" : Str), .glo ("_law_by" : Str), .glo ("times" : Str), .glo ("place_on" : Str), .glo ("cross_at" : Str), .glo ("_law_cross" : Str), .glo ("mean_place" : Str), .glo ("negative" : Str), .glo ("turn_place" : Str), .glo ("mirror_place" : Str), .glo ("grow_place" : Str), .glo ("shortened" : Str), .glo ("direction_of" : Str), .glo ("side_normal" : Str), .glo ("_law_normal" : Str), .glo ("_law_amount" : Str), .glo ("law" : Str), .glo ("ZERO" : Str), .free ("abs" : Str), .free ("bool" : Str), .free ("int" : Str), .free ("isinstance" : Str), .free ("len" : Str), .free ("list" : Str), .free ("range" : Str), .free ("tuple" : Str), .glo ("BadAmount" : Str), .exm ("BadPlace" : Str) ("BadAmount" : Str) false, .exm ("BadDirection" : Str) ("BadAmount" : Str) false, .exm ("BadAmount" : Str) ("BadAmount" : Str) true, .exm ("BadSize" : Str) ("BadAmount" : Str) false, .glo ("BadDirection" : Str), .exm ("BadPlace" : Str) ("BadDirection" : Str) false, .exm ("BadDirection" : Str) ("BadDirection" : Str) true, .exm ("BadAmount" : Str) ("BadDirection" : Str) false, .exm ("BadSize" : Str) ("BadDirection" : Str) false, .glo ("BadPlace" : Str), .exm ("BadPlace" : Str) ("BadPlace" : Str) true, .exm ("BadDirection" : Str) ("BadPlace" : Str) false, .exm ("BadAmount" : Str) ("BadPlace" : Str) false, .exm ("BadSize" : Str) ("BadPlace" : Str) false, .glo ("BadSize" : Str), .exm ("BadPlace" : Str) ("BadSize" : Str) false, .exm ("BadDirection" : Str) ("BadSize" : Str) false, .exm ("BadAmount" : Str) ("BadSize" : Str) false, .exm ("BadSize" : Str) ("BadSize" : Str) true, .free "super"]
def xs : List XcD := [XD_BadPlace, XD_BadDirection, XD_BadAmount, XD_BadSize]
def chk (K : Frag) : Bool := He.tupB K ("ZERO" : Str) [.int 0, .int 1] && bltB K "gcd" "math.gcd"
def loose0 : List Str := [("gcd" : Str), ("FeltError" : Str), ("BadPlace" : Str), ("BadDirection" : Str), ("BadAmount" : Str), ("BadSize" : Str), ("ZERO" : Str), ("is_whole" : Str), ("is_ratio" : Str), ("in_lowest" : Str), ("plus" : Str), ("minus" : Str), ("times" : Str), ("negative" : Str), ("is_couple" : Str), ("check_place" : Str), ("check_amount" : Str), ("check_size" : Str), ("shortened" : Str), ("direction_of" : Str), ("amount_at" : Str), ("step_from" : Str), ("place_by" : Str), ("place_on" : Str), ("cross_at" : Str), ("mean_place" : Str), ("side_normal" : Str), ("turn_place" : Str), ("mirror_place" : Str), ("grow_place" : Str), ("_law_hand" : Str), ("_law_mixed" : Str), ("_law_take" : Str), ("_law_gcd" : Str), ("_law_ratio" : Str)]
def loose1 : List Str := [("_law_plus" : Str), ("_law_less" : Str), ("_law_times" : Str), ("_law_amount" : Str), ("_law_direction" : Str), ("_law_cross" : Str), ("_law_way" : Str), ("_law_number" : Str), ("_law_plain" : Str), ("_law_small" : Str), ("_law_place" : Str), ("_law_any_way" : Str), ("_law_by" : Str), ("_law_step" : Str), ("_law_tuples" : Str), ("_law_refuses_place" : Str), ("_law_refuses_amount" : Str), ("_law_refuses_size" : Str), ("_law_normal" : Str), ("_law_checks" : Str)]
abbrev loose : List Str := loose0 ++ loose1
abbrev R : PySem.W.OpenRow := PySem.W.OpenLaw.row PySem.Challenge.rw_feltstone_k03_whole_places_and_amounts
abbrev hk : PySem.W.Hook := hookX R.prog 5 fa fn xs chk
def ob (s : PySem.W.SharedT) : AlX := obsXG R.prog 5 fa fn xs chk (HandSHeadRun.getT s)
theorem ob_eq (s : PySem.W.SharedT) : ob s = hk.obs s.abs := obsXG_eq (HandSHeadRun.getT_eq s)
abbrev vw : List Nat := [0, 59]
theorem run (w : World) : HandSHeadRun.RunEqI R (PySem.W.view R.prog vw) hk ob 4000 loose w := by
  unfold HandSHeadRun.RunEqI
  kernel_rfl
/-! every def keeps its meaning -/
theorem chain {w : World} {K : Frag} {h base : Heap} {mg : Str → Option Value} (X : K.In h) (Gm : h.Ns mainGlobals mg) (c : SaysX R.prog fa fn xs chk K) : ∃ fd, FunD K "law" "law" (defArgs (top 59)) (defBody (top 59)) sc_law [] [] (He.ga K "law") fd ∧ FnOk R.prog w K mg base (L2.CX R.prog w) 10 (He.ga K "law") fd ["script"] (spF (mkG R.prog w base K mg) f_law) := by
  have ho : IsiOk (mkG R.prog w base K mg) := mkG_isi
  have cD := c.D
  have f_super : mg "super" = none := He.free_ok X Gm (cD.fact 78 (f := .free "super") rfl)
  have ck : chk K = true := c.ck
  simp only [chk, Bool.and_eq_true] at ck
  have c_ZERO : GloOk (mkG R.prog w base K mg) "ZERO" (.tup [.int 0, .int 1]) := gloTup (He.glo_ok X Gm (cD.fact 49 (f := .glo ("ZERO" : Str)) rfl)) ck.1 (fun F => by simp [Reps, Rep, He.Dv.v])
  have f_abs : mg "abs" = none := He.free_ok X Gm (cD.fact 50 (f := .free ("abs" : Str)) rfl)
  have f_bool : mg "bool" = none := He.free_ok X Gm (cD.fact 51 (f := .free ("bool" : Str)) rfl)
  have f_gcd : mg "gcd" = some (.builtin "math.gcd") := blt_ok X Gm ck.2
  have f_int : mg "int" = none := He.free_ok X Gm (cD.fact 52 (f := .free ("int" : Str)) rfl)
  have f_isinstance : mg "isinstance" = none := He.free_ok X Gm (cD.fact 53 (f := .free ("isinstance" : Str)) rfl)
  have f_len : mg "len" = none := He.free_ok X Gm (cD.fact 54 (f := .free ("len" : Str)) rfl)
  have f_list : mg "list" = none := He.free_ok X Gm (cD.fact 55 (f := .free ("list" : Str)) rfl)
  have f_range : mg "range" = none := He.free_ok X Gm (cD.fact 56 (f := .free ("range" : Str)) rfl)
  have f_tuple : mg "tuple" = none := He.free_ok X Gm (cD.fact 57 (f := .free ("tuple" : Str)) rfl)
  obtain ⟨xc_BadPlace, xe_BadPlace⟩ := c.xc 0 (x := XD_BadPlace) rfl
  have xm_BadPlace : mg "BadPlace" = some (.ref (He.ga K "BadPlace")) := xc_mg (x := XD_BadPlace) X Gm xc_BadPlace
  have e_BadPlace : ExcOk (mkG R.prog w base K mg) "BadPlace" 0 [] := excOk_of (x := XD_BadPlace) X Gm XT_BadPlace xc_BadPlace xe_BadPlace 0 rfl (by decide) _ rfl (by decide) f_super
  obtain ⟨xc_BadDirection, xe_BadDirection⟩ := c.xc 1 (x := XD_BadDirection) rfl
  have xm_BadDirection : mg "BadDirection" = some (.ref (He.ga K "BadDirection")) := xc_mg (x := XD_BadDirection) X Gm xc_BadDirection
  have e_BadDirection : ExcOk (mkG R.prog w base K mg) "BadDirection" 0 [] := excOk_of (x := XD_BadDirection) X Gm XT_BadDirection xc_BadDirection xe_BadDirection 0 rfl (by decide) _ rfl (by decide) f_super
  obtain ⟨xc_BadAmount, xe_BadAmount⟩ := c.xc 2 (x := XD_BadAmount) rfl
  have xm_BadAmount : mg "BadAmount" = some (.ref (He.ga K "BadAmount")) := xc_mg (x := XD_BadAmount) X Gm xc_BadAmount
  have e_BadAmount : ExcOk (mkG R.prog w base K mg) "BadAmount" 0 [] := excOk_of (x := XD_BadAmount) X Gm XT_BadAmount xc_BadAmount xe_BadAmount 0 rfl (by decide) _ rfl (by decide) f_super
  obtain ⟨xc_BadSize, xe_BadSize⟩ := c.xc 3 (x := XD_BadSize) rfl
  have xm_BadSize : mg "BadSize" = some (.ref (He.ga K "BadSize")) := xc_mg (x := XD_BadSize) X Gm xc_BadSize
  have e_BadSize : ExcOk (mkG R.prog w base K mg) "BadSize" 0 [] := excOk_of (x := XD_BadSize) X Gm XT_BadSize xc_BadSize xe_BadSize 0 rfl (by decide) _ rfl (by decide) f_super
  have t_BadAmount : TryOk (mkG R.prog w base K mg) ("BadAmount" : Str) [("BadAmount" : Str)] [("BadPlace" : Str), ("BadDirection" : Str), ("BadSize" : Str)] := tryOk_of (He.glo_ok X Gm (cD.fact 58 (f := .glo ("BadAmount" : Str)) rfl)) (by
    intro y hy
    simp only [List.mem_cons, List.not_mem_nil, or_false] at hy
    rcases hy with rfl
    · exact ⟨xm_BadAmount, He.exm_ok (cD.fact 61 (f := .exm ("BadAmount" : Str) ("BadAmount" : Str) true) rfl)⟩
    ) (by
    intro y hy
    simp only [List.mem_cons, List.not_mem_nil, or_false] at hy
    rcases hy with rfl | rfl | rfl
    · exact ⟨xm_BadPlace, He.exm_ok (cD.fact 59 (f := .exm ("BadPlace" : Str) ("BadAmount" : Str) false) rfl)⟩
    · exact ⟨xm_BadDirection, He.exm_ok (cD.fact 60 (f := .exm ("BadDirection" : Str) ("BadAmount" : Str) false) rfl)⟩
    · exact ⟨xm_BadSize, He.exm_ok (cD.fact 62 (f := .exm ("BadSize" : Str) ("BadAmount" : Str) false) rfl)⟩
    )
  have t_BadDirection : TryOk (mkG R.prog w base K mg) ("BadDirection" : Str) [("BadDirection" : Str)] [("BadPlace" : Str), ("BadAmount" : Str), ("BadSize" : Str)] := tryOk_of (He.glo_ok X Gm (cD.fact 63 (f := .glo ("BadDirection" : Str)) rfl)) (by
    intro y hy
    simp only [List.mem_cons, List.not_mem_nil, or_false] at hy
    rcases hy with rfl
    · exact ⟨xm_BadDirection, He.exm_ok (cD.fact 65 (f := .exm ("BadDirection" : Str) ("BadDirection" : Str) true) rfl)⟩
    ) (by
    intro y hy
    simp only [List.mem_cons, List.not_mem_nil, or_false] at hy
    rcases hy with rfl | rfl | rfl
    · exact ⟨xm_BadPlace, He.exm_ok (cD.fact 64 (f := .exm ("BadPlace" : Str) ("BadDirection" : Str) false) rfl)⟩
    · exact ⟨xm_BadAmount, He.exm_ok (cD.fact 66 (f := .exm ("BadAmount" : Str) ("BadDirection" : Str) false) rfl)⟩
    · exact ⟨xm_BadSize, He.exm_ok (cD.fact 67 (f := .exm ("BadSize" : Str) ("BadDirection" : Str) false) rfl)⟩
    )
  have t_BadPlace : TryOk (mkG R.prog w base K mg) ("BadPlace" : Str) [("BadPlace" : Str)] [("BadDirection" : Str), ("BadAmount" : Str), ("BadSize" : Str)] := tryOk_of (He.glo_ok X Gm (cD.fact 68 (f := .glo ("BadPlace" : Str)) rfl)) (by
    intro y hy
    simp only [List.mem_cons, List.not_mem_nil, or_false] at hy
    rcases hy with rfl
    · exact ⟨xm_BadPlace, He.exm_ok (cD.fact 69 (f := .exm ("BadPlace" : Str) ("BadPlace" : Str) true) rfl)⟩
    ) (by
    intro y hy
    simp only [List.mem_cons, List.not_mem_nil, or_false] at hy
    rcases hy with rfl | rfl | rfl
    · exact ⟨xm_BadDirection, He.exm_ok (cD.fact 70 (f := .exm ("BadDirection" : Str) ("BadPlace" : Str) false) rfl)⟩
    · exact ⟨xm_BadAmount, He.exm_ok (cD.fact 71 (f := .exm ("BadAmount" : Str) ("BadPlace" : Str) false) rfl)⟩
    · exact ⟨xm_BadSize, He.exm_ok (cD.fact 72 (f := .exm ("BadSize" : Str) ("BadPlace" : Str) false) rfl)⟩
    )
  have t_BadSize : TryOk (mkG R.prog w base K mg) ("BadSize" : Str) [("BadSize" : Str)] [("BadPlace" : Str), ("BadDirection" : Str), ("BadAmount" : Str)] := tryOk_of (He.glo_ok X Gm (cD.fact 73 (f := .glo ("BadSize" : Str)) rfl)) (by
    intro y hy
    simp only [List.mem_cons, List.not_mem_nil, or_false] at hy
    rcases hy with rfl
    · exact ⟨xm_BadSize, He.exm_ok (cD.fact 77 (f := .exm ("BadSize" : Str) ("BadSize" : Str) true) rfl)⟩
    ) (by
    intro y hy
    simp only [List.mem_cons, List.not_mem_nil, or_false] at hy
    rcases hy with rfl | rfl | rfl
    · exact ⟨xm_BadPlace, He.exm_ok (cD.fact 74 (f := .exm ("BadPlace" : Str) ("BadSize" : Str) false) rfl)⟩
    · exact ⟨xm_BadDirection, He.exm_ok (cD.fact 75 (f := .exm ("BadDirection" : Str) ("BadSize" : Str) false) rfl)⟩
    · exact ⟨xm_BadAmount, He.exm_ok (cD.fact 76 (f := .exm ("BadAmount" : Str) ("BadSize" : Str) false) rfl)⟩
    )
  obtain ⟨fd_Lhand, F_Lhand⟩ := cD.def_ 0 (d := D_Lhand) rfl
  have m_Lhand : mg ("_law_hand" : Str) = some (.ref (He.ga K ("_law_hand" : Str))) := He.glo_ok X Gm (cD.fact 0 (f := .glo ("_law_hand" : Str)) rfl)
  have bd_Lhand := b_Lhand ho f_int f_len
  have h_Lhand : HasFn (mkG R.prog w base K mg) 1 f_Lhand [] := hasFn_of (dv := []) F_Lhand s_Lhand rfl rfl m_Lhand bd_Lhand ⟨[], .nil, F_Lhand.bindsN fun _ _ _ _ _ _ us hl => match us, hl with | [_], _ => rfl⟩ (fun F => by simp [Reps, Rep, He.Dv.v])
  obtain ⟨fd_Lmixed, F_Lmixed⟩ := cD.def_ 1 (d := D_Lmixed) rfl
  have m_Lmixed : mg ("_law_mixed" : Str) = some (.ref (He.ga K ("_law_mixed" : Str))) := He.glo_ok X Gm (cD.fact 1 (f := .glo ("_law_mixed" : Str)) rfl)
  have bd_Lmixed := b_Lmixed ho f_int
  have h_Lmixed : HasFn (mkG R.prog w base K mg) 1 f_Lmixed [] := hasFn_of (dv := []) F_Lmixed s_Lmixed rfl rfl m_Lmixed bd_Lmixed ⟨[], .nil, F_Lmixed.bindsN fun _ _ _ _ _ _ us hl => match us, hl with | [_, _], _ => rfl⟩ (fun F => by simp [Reps, Rep, He.Dv.v])
  obtain ⟨fd_Ltake, F_Ltake⟩ := cD.def_ 2 (d := D_Ltake) rfl
  have m_Ltake : mg ("_law_take" : Str) = some (.ref (He.ga K ("_law_take" : Str))) := He.glo_ok X Gm (cD.fact 2 (f := .glo ("_law_take" : Str)) rfl)
  have bd_Ltake := b_Ltake ho f_int f_len (h_Lmixed.mono (by decide))
  have h_Ltake : HasFn (mkG R.prog w base K mg) 2 f_Ltake [] := hasFn_of (dv := []) F_Ltake s_Ltake rfl rfl m_Ltake bd_Ltake ⟨[], .nil, F_Ltake.bindsN fun _ _ _ _ _ _ us hl => match us, hl with | [_, _], _ => rfl⟩ (fun F => by simp [Reps, Rep, He.Dv.v])
  obtain ⟨fd_Lway, F_Lway⟩ := cD.def_ 3 (d := D_Lway) rfl
  have m_Lway : mg ("_law_way" : Str) = some (.ref (He.ga K ("_law_way" : Str))) := He.glo_ok X Gm (cD.fact 3 (f := .glo ("_law_way" : Str)) rfl)
  have bd_Lway := b_Lway ho (h_Ltake.mono (by decide))
  have h_Lway : HasFn (mkG R.prog w base K mg) 3 f_Lway [] := hasFn_of (dv := []) F_Lway s_Lway rfl rfl m_Lway bd_Lway ⟨[], .nil, F_Lway.bindsN fun _ _ _ _ _ _ us hl => match us, hl with | [_], _ => rfl⟩ (fun F => by simp [Reps, Rep, He.Dv.v])
  obtain ⟨fd_Lnumber, F_Lnumber⟩ := cD.def_ 4 (d := D_Lnumber) rfl
  have m_Lnumber : mg ("_law_number" : Str) = some (.ref (He.ga K ("_law_number" : Str))) := He.glo_ok X Gm (cD.fact 4 (f := .glo ("_law_number" : Str)) rfl)
  have bd_Lnumber := b_Lnumber ho f_range (h_Ltake.mono (by decide))
  have h_Lnumber : HasFn (mkG R.prog w base K mg) 3 f_Lnumber [] := hasFn_of (dv := []) F_Lnumber s_Lnumber rfl rfl m_Lnumber bd_Lnumber ⟨[], .nil, F_Lnumber.bindsN fun _ _ _ _ _ _ us hl => match us, hl with | [_], _ => rfl⟩ (fun F => by simp [Reps, Rep, He.Dv.v])
  obtain ⟨fd_Lgcd, F_Lgcd⟩ := cD.def_ 5 (d := D_Lgcd) rfl
  have m_Lgcd : mg ("_law_gcd" : Str) = some (.ref (He.ga K ("_law_gcd" : Str))) := He.glo_ok X Gm (cD.fact 5 (f := .glo ("_law_gcd" : Str)) rfl)
  have bd_Lgcd := b_Lgcd ho f_abs f_int
  have h_Lgcd : HasFn (mkG R.prog w base K mg) 1 f_Lgcd [] := hasFn_of (dv := []) F_Lgcd s_Lgcd rfl rfl m_Lgcd bd_Lgcd ⟨[], .nil, F_Lgcd.bindsN fun _ _ _ _ _ _ us hl => match us, hl with | [_, _], _ => rfl⟩ (fun F => by simp [Reps, Rep, He.Dv.v])
  obtain ⟨fd_Ldirection, F_Ldirection⟩ := cD.def_ 6 (d := D_Ldirection) rfl
  have m_Ldirection : mg ("_law_direction" : Str) = some (.ref (He.ga K ("_law_direction" : Str))) := He.glo_ok X Gm (cD.fact 6 (f := .glo ("_law_direction" : Str)) rfl)
  have bd_Ldirection := b_Ldirection ho (h_Lgcd.mono (by decide))
  have h_Ldirection : HasFn (mkG R.prog w base K mg) 2 f_Ldirection [] := hasFn_of (dv := []) F_Ldirection s_Ldirection rfl rfl m_Ldirection bd_Ldirection ⟨[], .nil, F_Ldirection.bindsN fun _ _ _ _ _ _ us hl => match us, hl with | [_, _], _ => rfl⟩ (fun F => by simp [Reps, Rep, He.Dv.v])
  obtain ⟨fd_Lany_way, F_Lany_way⟩ := cD.def_ 7 (d := D_Lany_way) rfl
  have m_Lany_way : mg ("_law_any_way" : Str) = some (.ref (He.ga K ("_law_any_way" : Str))) := He.glo_ok X Gm (cD.fact 7 (f := .glo ("_law_any_way" : Str)) rfl)
  have bd_Lany_way := b_Lany_way ho (h_Ldirection.mono (by decide)) (h_Lnumber.mono (by decide)) (h_Ltake.mono (by decide)) (h_Lway.mono (by decide))
  have h_Lany_way : HasFn (mkG R.prog w base K mg) 4 f_Lany_way [] := hasFn_of (dv := []) F_Lany_way s_Lany_way rfl rfl m_Lany_way bd_Lany_way ⟨[], .nil, F_Lany_way.bindsN fun _ _ _ _ _ _ us hl => match us, hl with | [_], _ => rfl⟩ (fun F => by simp [Reps, Rep, He.Dv.v])
  obtain ⟨fd_in_lowest, F_in_lowest⟩ := cD.def_ 8 (d := D_in_lowest) rfl
  have m_in_lowest : mg ("in_lowest" : Str) = some (.ref (He.ga K ("in_lowest" : Str))) := He.glo_ok X Gm (cD.fact 8 (f := .glo ("in_lowest" : Str)) rfl)
  have bd_in_lowest := b_in_lowest ho f_gcd
  have h_in_lowest : HasFn (mkG R.prog w base K mg) 1 f_in_lowest [] := hasFn_of (dv := []) F_in_lowest s_in_lowest rfl rfl m_in_lowest bd_in_lowest ⟨[], .nil, F_in_lowest.bindsN fun _ _ _ _ _ _ us hl => match us, hl with | [_, _], _ => rfl⟩ (fun F => by simp [Reps, Rep, He.Dv.v])
  obtain ⟨fd_amount_at, F_amount_at⟩ := cD.def_ 9 (d := D_amount_at) rfl
  have m_amount_at : mg ("amount_at" : Str) = some (.ref (He.ga K ("amount_at" : Str))) := He.glo_ok X Gm (cD.fact 9 (f := .glo ("amount_at" : Str)) rfl)
  have bd_amount_at := b_amount_at ho (h_in_lowest.mono (by decide))
  have h_amount_at : HasFn (mkG R.prog w base K mg) 2 f_amount_at [] := hasFn_of (dv := []) F_amount_at s_amount_at rfl rfl m_amount_at bd_amount_at ⟨[], .nil, F_amount_at.bindsN fun _ _ _ _ _ _ us hl => match us, hl with | [_, _], _ => rfl⟩ (fun F => by simp [Reps, Rep, He.Dv.v])
  obtain ⟨fd_minus, F_minus⟩ := cD.def_ 10 (d := D_minus) rfl
  have m_minus : mg ("minus" : Str) = some (.ref (He.ga K ("minus" : Str))) := He.glo_ok X Gm (cD.fact 10 (f := .glo ("minus" : Str)) rfl)
  have bd_minus := b_minus ho (h_in_lowest.mono (by decide))
  have h_minus : HasFn (mkG R.prog w base K mg) 2 f_minus [] := hasFn_of (dv := []) F_minus s_minus rfl rfl m_minus bd_minus ⟨[], .nil, F_minus.bindsN fun _ _ _ _ _ _ us hl => match us, hl with | [_, _], _ => rfl⟩ (fun F => by simp [Reps, Rep, He.Dv.v])
  obtain ⟨fd_step_from, F_step_from⟩ := cD.def_ 11 (d := D_step_from) rfl
  have m_step_from : mg ("step_from" : Str) = some (.ref (He.ga K ("step_from" : Str))) := He.glo_ok X Gm (cD.fact 11 (f := .glo ("step_from" : Str)) rfl)
  have bd_step_from := b_step_from ho (h_minus.mono (by decide))
  have h_step_from : HasFn (mkG R.prog w base K mg) 3 f_step_from [] := hasFn_of (dv := []) F_step_from s_step_from rfl rfl m_step_from bd_step_from ⟨[], .nil, F_step_from.bindsN fun _ _ _ _ _ _ us hl => match us, hl with | [_, _], _ => rfl⟩ (fun F => by simp [Reps, Rep, He.Dv.v])
  obtain ⟨fd_Lratio, F_Lratio⟩ := cD.def_ 12 (d := D_Lratio) rfl
  have m_Lratio : mg ("_law_ratio" : Str) = some (.ref (He.ga K ("_law_ratio" : Str))) := He.glo_ok X Gm (cD.fact 12 (f := .glo ("_law_ratio" : Str)) rfl)
  have bd_Lratio := b_Lratio ho (h_Lgcd.mono (by decide))
  have h_Lratio : HasFn (mkG R.prog w base K mg) 2 f_Lratio [] := hasFn_of (dv := []) F_Lratio s_Lratio rfl rfl m_Lratio bd_Lratio ⟨[], .nil, F_Lratio.bindsN fun _ _ _ _ _ _ us hl => match us, hl with | [_, _], _ => rfl⟩ (fun F => by simp [Reps, Rep, He.Dv.v])
  obtain ⟨fd_Lsmall, F_Lsmall⟩ := cD.def_ 13 (d := D_Lsmall) rfl
  have m_Lsmall : mg ("_law_small" : Str) = some (.ref (He.ga K ("_law_small" : Str))) := He.glo_ok X Gm (cD.fact 13 (f := .glo ("_law_small" : Str)) rfl)
  have bd_Lsmall := b_Lsmall ho (h_Lratio.mono (by decide)) (h_Ltake.mono (by decide))
  have h_Lsmall : HasFn (mkG R.prog w base K mg) 3 f_Lsmall [] := hasFn_of (dv := []) F_Lsmall s_Lsmall rfl rfl m_Lsmall bd_Lsmall ⟨[], .nil, F_Lsmall.bindsN fun _ _ _ _ _ _ us hl => match us, hl with | [_], _ => rfl⟩ (fun F => by simp [Reps, Rep, He.Dv.v])
  obtain ⟨fd_Lplace, F_Lplace⟩ := cD.def_ 14 (d := D_Lplace) rfl
  have m_Lplace : mg ("_law_place" : Str) = some (.ref (He.ga K ("_law_place" : Str))) := He.glo_ok X Gm (cD.fact 14 (f := .glo ("_law_place" : Str)) rfl)
  have bd_Lplace := b_Lplace ho (h_Lnumber.mono (by decide)) (h_Lratio.mono (by decide)) (h_Lsmall.mono (by decide)) (h_Ltake.mono (by decide))
  have h_Lplace : HasFn (mkG R.prog w base K mg) 4 f_Lplace [] := hasFn_of (dv := []) F_Lplace s_Lplace rfl rfl m_Lplace bd_Lplace ⟨[], .nil, F_Lplace.bindsN fun _ _ _ _ _ _ us hl => match us, hl with | [_], _ => rfl⟩ (fun F => by simp [Reps, Rep, He.Dv.v])
  obtain ⟨fd_Ltimes, F_Ltimes⟩ := cD.def_ 15 (d := D_Ltimes) rfl
  have m_Ltimes : mg ("_law_times" : Str) = some (.ref (He.ga K ("_law_times" : Str))) := He.glo_ok X Gm (cD.fact 15 (f := .glo ("_law_times" : Str)) rfl)
  have bd_Ltimes := b_Ltimes ho (h_Lratio.mono (by decide))
  have h_Ltimes : HasFn (mkG R.prog w base K mg) 3 f_Ltimes [] := hasFn_of (dv := []) F_Ltimes s_Ltimes rfl rfl m_Ltimes bd_Ltimes ⟨[], .nil, F_Ltimes.bindsN fun _ _ _ _ _ _ us hl => match us, hl with | [_, _], _ => rfl⟩ (fun F => by simp [Reps, Rep, He.Dv.v])
  obtain ⟨fd_is_whole, F_is_whole⟩ := cD.def_ 16 (d := D_is_whole) rfl
  have m_is_whole : mg ("is_whole" : Str) = some (.ref (He.ga K ("is_whole" : Str))) := He.glo_ok X Gm (cD.fact 16 (f := .glo ("is_whole" : Str)) rfl)
  have bd_is_whole := b_is_whole ho f_bool f_int f_isinstance
  have h_is_whole_1 : HasFn (mkG R.prog w base K mg) 1 f_is_whole [.non] := hasFn_of (dv := [(He.Dv.v K (.non))]) F_is_whole s_is_whole rfl rfl m_is_whole bd_is_whole (F_is_whole.binds1 2 1 (fun z => by cases z) rfl fun _ _ _ _ _ _ _ us its h1 h2 => match us, its, h1, h2 with | [_, _], [_, _], _, _ => ⟨_, rfl, rfl⟩) (fun F => by simp [Reps, Rep, He.Dv.v])
  have h_is_whole_2 : HasFn (mkG R.prog w base K mg) 1 f_is_whole [.non, .non] := hasFn_of (dv := [(He.Dv.v K (.non)), (He.Dv.v K (.non))]) F_is_whole s_is_whole rfl rfl m_is_whole bd_is_whole (F_is_whole.binds1 1 0 (fun z => by cases z) rfl fun _ _ _ _ _ _ _ us its h1 h2 => match us, its, h1, h2 with | [_], [_, _], _, _ => ⟨_, rfl, rfl⟩) (fun F => by simp [Reps, Rep, He.Dv.v])
  obtain ⟨fd_is_ratio, F_is_ratio⟩ := cD.def_ 17 (d := D_is_ratio) rfl
  have m_is_ratio : mg ("is_ratio" : Str) = some (.ref (He.ga K ("is_ratio" : Str))) := He.glo_ok X Gm (cD.fact 17 (f := .glo ("is_ratio" : Str)) rfl)
  have bd_is_ratio := b_is_ratio ho f_gcd f_isinstance f_len f_tuple (h_is_whole_1.mono (by decide)) (h_is_whole_2.mono (by decide))
  have h_is_ratio : HasFn (mkG R.prog w base K mg) 2 f_is_ratio [] := hasFn_of (dv := []) F_is_ratio s_is_ratio rfl rfl m_is_ratio bd_is_ratio ⟨[], .nil, F_is_ratio.bindsN fun _ _ _ _ _ _ us hl => match us, hl with | [_], _ => rfl⟩ (fun F => by simp [Reps, Rep, He.Dv.v])
  obtain ⟨fd_check_amount, F_check_amount⟩ := cD.def_ 18 (d := D_check_amount) rfl
  have m_check_amount : mg ("check_amount" : Str) = some (.ref (He.ga K ("check_amount" : Str))) := He.glo_ok X Gm (cD.fact 18 (f := .glo ("check_amount" : Str)) rfl)
  have bd_check_amount := b_check_amount ho e_BadAmount (h_is_ratio.mono (by decide))
  have h_check_amount : HasFn (mkG R.prog w base K mg) 3 f_check_amount [] := hasFn_of (dv := []) F_check_amount s_check_amount rfl rfl m_check_amount bd_check_amount ⟨[], .nil, F_check_amount.bindsN fun _ _ _ _ _ _ us hl => match us, hl with | [_], _ => rfl⟩ (fun F => by simp [Reps, Rep, He.Dv.v])
  obtain ⟨fd_check_size, F_check_size⟩ := cD.def_ 19 (d := D_check_size) rfl
  have m_check_size : mg ("check_size" : Str) = some (.ref (He.ga K ("check_size" : Str))) := He.glo_ok X Gm (cD.fact 19 (f := .glo ("check_size" : Str)) rfl)
  have bd_check_size := b_check_size ho e_BadSize (h_is_ratio.mono (by decide))
  have h_check_size : HasFn (mkG R.prog w base K mg) 3 f_check_size [] := hasFn_of (dv := []) F_check_size s_check_size rfl rfl m_check_size bd_check_size ⟨[], .nil, F_check_size.bindsN fun _ _ _ _ _ _ us hl => match us, hl with | [_], _ => rfl⟩ (fun F => by simp [Reps, Rep, He.Dv.v])
  obtain ⟨fd_is_couple, F_is_couple⟩ := cD.def_ 20 (d := D_is_couple) rfl
  have m_is_couple : mg ("is_couple" : Str) = some (.ref (He.ga K ("is_couple" : Str))) := He.glo_ok X Gm (cD.fact 20 (f := .glo ("is_couple" : Str)) rfl)
  have bd_is_couple := b_is_couple ho f_isinstance f_len f_list f_tuple (h_is_ratio.mono (by decide))
  have h_is_couple : HasFn (mkG R.prog w base K mg) 3 f_is_couple [] := hasFn_of (dv := []) F_is_couple s_is_couple rfl rfl m_is_couple bd_is_couple ⟨[], .nil, F_is_couple.bindsN fun _ _ _ _ _ _ us hl => match us, hl with | [_], _ => rfl⟩ (fun F => by simp [Reps, Rep, He.Dv.v])
  obtain ⟨fd_check_place, F_check_place⟩ := cD.def_ 21 (d := D_check_place) rfl
  have m_check_place : mg ("check_place" : Str) = some (.ref (He.ga K ("check_place" : Str))) := He.glo_ok X Gm (cD.fact 21 (f := .glo ("check_place" : Str)) rfl)
  have bd_check_place := b_check_place ho e_BadPlace f_tuple (h_is_couple.mono (by decide))
  have h_check_place : HasFn (mkG R.prog w base K mg) 4 f_check_place [] := hasFn_of (dv := []) F_check_place s_check_place rfl rfl m_check_place bd_check_place ⟨[], .nil, F_check_place.bindsN fun _ _ _ _ _ _ us hl => match us, hl with | [_], _ => rfl⟩ (fun F => by simp [Reps, Rep, He.Dv.v])
  obtain ⟨fd_Lrefuses_place, F_Lrefuses_place⟩ := cD.def_ 22 (d := D_Lrefuses_place) rfl
  have m_Lrefuses_place : mg ("_law_refuses_place" : Str) = some (.ref (He.ga K ("_law_refuses_place" : Str))) := He.glo_ok X Gm (cD.fact 22 (f := .glo ("_law_refuses_place" : Str)) rfl)
  have bd_Lrefuses_place := b_Lrefuses_place ho (h_check_place.mono (by decide)) t_BadPlace
  have h_Lrefuses_place : HasFn (mkG R.prog w base K mg) 5 f_Lrefuses_place [] := hasFn_of (dv := []) F_Lrefuses_place s_Lrefuses_place rfl rfl m_Lrefuses_place bd_Lrefuses_place ⟨[], .nil, F_Lrefuses_place.bindsN fun _ _ _ _ _ _ us hl => match us, hl with | [_], _ => rfl⟩ (fun F => by simp [Reps, Rep, He.Dv.v])
  obtain ⟨fd_Lrefuses_amount, F_Lrefuses_amount⟩ := cD.def_ 23 (d := D_Lrefuses_amount) rfl
  have m_Lrefuses_amount : mg ("_law_refuses_amount" : Str) = some (.ref (He.ga K ("_law_refuses_amount" : Str))) := He.glo_ok X Gm (cD.fact 23 (f := .glo ("_law_refuses_amount" : Str)) rfl)
  have bd_Lrefuses_amount := b_Lrefuses_amount ho (h_check_amount.mono (by decide)) t_BadAmount
  have h_Lrefuses_amount : HasFn (mkG R.prog w base K mg) 4 f_Lrefuses_amount [] := hasFn_of (dv := []) F_Lrefuses_amount s_Lrefuses_amount rfl rfl m_Lrefuses_amount bd_Lrefuses_amount ⟨[], .nil, F_Lrefuses_amount.bindsN fun _ _ _ _ _ _ us hl => match us, hl with | [_], _ => rfl⟩ (fun F => by simp [Reps, Rep, He.Dv.v])
  obtain ⟨fd_Lrefuses_size, F_Lrefuses_size⟩ := cD.def_ 24 (d := D_Lrefuses_size) rfl
  have m_Lrefuses_size : mg ("_law_refuses_size" : Str) = some (.ref (He.ga K ("_law_refuses_size" : Str))) := He.glo_ok X Gm (cD.fact 24 (f := .glo ("_law_refuses_size" : Str)) rfl)
  have bd_Lrefuses_size := b_Lrefuses_size ho (h_check_size.mono (by decide)) t_BadSize
  have h_Lrefuses_size : HasFn (mkG R.prog w base K mg) 4 f_Lrefuses_size [] := hasFn_of (dv := []) F_Lrefuses_size s_Lrefuses_size rfl rfl m_Lrefuses_size bd_Lrefuses_size ⟨[], .nil, F_Lrefuses_size.bindsN fun _ _ _ _ _ _ us hl => match us, hl with | [_], _ => rfl⟩ (fun F => by simp [Reps, Rep, He.Dv.v])
  obtain ⟨fd_Lchecks, F_Lchecks⟩ := cD.def_ 25 (d := D_Lchecks) rfl
  have m_Lchecks : mg ("_law_checks" : Str) = some (.ref (He.ga K ("_law_checks" : Str))) := He.glo_ok X Gm (cD.fact 25 (f := .glo ("_law_checks" : Str)) rfl)
  have bd_Lchecks := b_Lchecks ho f_isinstance f_list f_tuple (h_Lrefuses_amount.mono (by decide)) (h_Lrefuses_place.mono (by decide)) (h_Lrefuses_size.mono (by decide)) (h_check_amount.mono (by decide)) (h_check_place.mono (by decide)) (h_check_size.mono (by decide))
  have h_Lchecks : HasFn (mkG R.prog w base K mg) 6 f_Lchecks [] := hasFn_of (dv := []) F_Lchecks s_Lchecks rfl rfl m_Lchecks bd_Lchecks ⟨[], .nil, F_Lchecks.bindsN fun _ _ _ _ _ _ us hl => match us, hl with | [_, _], _ => rfl⟩ (fun F => by simp [Reps, Rep, He.Dv.v])
  obtain ⟨fd_Lplain, F_Lplain⟩ := cD.def_ 26 (d := D_Lplain) rfl
  have m_Lplain : mg ("_law_plain" : Str) = some (.ref (He.ga K ("_law_plain" : Str))) := He.glo_ok X Gm (cD.fact 26 (f := .glo ("_law_plain" : Str)) rfl)
  have bd_Lplain := b_Lplain ho f_bool f_int f_isinstance f_tuple
  have h_Lplain : HasFn (mkG R.prog w base K mg) 1 f_Lplain [] := hasFn_of (dv := []) F_Lplain s_Lplain rfl rfl m_Lplain bd_Lplain ⟨[], .nil, F_Lplain.bindsN fun _ _ _ _ _ _ us hl => match us, hl with | [_, _], _ => rfl⟩ (fun F => by simp [Reps, Rep, He.Dv.v])
  obtain ⟨fd_Lless, F_Lless⟩ := cD.def_ 27 (d := D_Lless) rfl
  have m_Lless : mg ("_law_less" : Str) = some (.ref (He.ga K ("_law_less" : Str))) := He.glo_ok X Gm (cD.fact 27 (f := .glo ("_law_less" : Str)) rfl)
  have bd_Lless := b_Lless ho (h_Lratio.mono (by decide))
  have h_Lless : HasFn (mkG R.prog w base K mg) 3 f_Lless [] := hasFn_of (dv := []) F_Lless s_Lless rfl rfl m_Lless bd_Lless ⟨[], .nil, F_Lless.bindsN fun _ _ _ _ _ _ us hl => match us, hl with | [_, _], _ => rfl⟩ (fun F => by simp [Reps, Rep, He.Dv.v])
  obtain ⟨fd_Lstep, F_Lstep⟩ := cD.def_ 28 (d := D_Lstep) rfl
  have m_Lstep : mg ("_law_step" : Str) = some (.ref (He.ga K ("_law_step" : Str))) := He.glo_ok X Gm (cD.fact 28 (f := .glo ("_law_step" : Str)) rfl)
  have bd_Lstep := b_Lstep ho (h_Lless.mono (by decide))
  have h_Lstep : HasFn (mkG R.prog w base K mg) 4 f_Lstep [] := hasFn_of (dv := []) F_Lstep s_Lstep rfl rfl m_Lstep bd_Lstep ⟨[], .nil, F_Lstep.bindsN fun _ _ _ _ _ _ us hl => match us, hl with | [_, _], _ => rfl⟩ (fun F => by simp [Reps, Rep, He.Dv.v])
  obtain ⟨fd_Ltuples, F_Ltuples⟩ := cD.def_ 29 (d := D_Ltuples) rfl
  have m_Ltuples : mg ("_law_tuples" : Str) = some (.ref (He.ga K ("_law_tuples" : Str))) := He.glo_ok X Gm (cD.fact 29 (f := .glo ("_law_tuples" : Str)) rfl)
  have h_Ltuples : HasFn (mkG R.prog w base K mg) 9 f_Ltuples [] := hasFn_rec (L := 0) (hasFn_of (dv := []) F_Ltuples s_Ltuples rfl rfl m_Ltuples bad_body ⟨[], .nil, F_Ltuples.bindsN fun _ _ _ _ _ _ us hl => match us, hl with | [_], _ => rfl⟩ (fun F => by simp [Reps, Rep, He.Dv.v])) (fun m hm => hasFn_of (dv := []) F_Ltuples s_Ltuples rfl rfl m_Ltuples (b_Ltuples (K := 1 + m) ho f_bool f_int f_isinstance f_tuple hm) ⟨[], .nil, F_Ltuples.bindsN fun _ _ _ _ _ _ us hl => match us, hl with | [_], _ => rfl⟩ (fun F => by simp [Reps, Rep, He.Dv.v])) 8
  obtain ⟨fd_plus, F_plus⟩ := cD.def_ 30 (d := D_plus) rfl
  have m_plus : mg ("plus" : Str) = some (.ref (He.ga K ("plus" : Str))) := He.glo_ok X Gm (cD.fact 30 (f := .glo ("plus" : Str)) rfl)
  have bd_plus := b_plus ho (h_in_lowest.mono (by decide))
  have h_plus : HasFn (mkG R.prog w base K mg) 2 f_plus [] := hasFn_of (dv := []) F_plus s_plus rfl rfl m_plus bd_plus ⟨[], .nil, F_plus.bindsN fun _ _ _ _ _ _ us hl => match us, hl with | [_, _], _ => rfl⟩ (fun F => by simp [Reps, Rep, He.Dv.v])
  obtain ⟨fd_place_by, F_place_by⟩ := cD.def_ 31 (d := D_place_by) rfl
  have m_place_by : mg ("place_by" : Str) = some (.ref (He.ga K ("place_by" : Str))) := He.glo_ok X Gm (cD.fact 31 (f := .glo ("place_by" : Str)) rfl)
  have bd_place_by := b_place_by ho (h_plus.mono (by decide))
  have h_place_by : HasFn (mkG R.prog w base K mg) 3 f_place_by [] := hasFn_of (dv := []) F_place_by s_place_by rfl rfl m_place_by bd_place_by ⟨[], .nil, F_place_by.bindsN fun _ _ _ _ _ _ us hl => match us, hl with | [_, _], _ => rfl⟩ (fun F => by simp [Reps, Rep, He.Dv.v])
  obtain ⟨fd_Lplus, F_Lplus⟩ := cD.def_ 32 (d := D_Lplus) rfl
  have m_Lplus : mg ("_law_plus" : Str) = some (.ref (He.ga K ("_law_plus" : Str))) := He.glo_ok X Gm (cD.fact 32 (f := .glo ("_law_plus" : Str)) rfl)
  have bd_Lplus := b_Lplus ho (h_Lratio.mono (by decide))
  have h_Lplus : HasFn (mkG R.prog w base K mg) 3 f_Lplus [] := hasFn_of (dv := []) F_Lplus s_Lplus rfl rfl m_Lplus bd_Lplus ⟨[], .nil, F_Lplus.bindsN fun _ _ _ _ _ _ us hl => match us, hl with | [_, _], _ => rfl⟩ (fun F => by simp [Reps, Rep, He.Dv.v])
  obtain ⟨fd_Lby, F_Lby⟩ := cD.def_ 33 (d := D_Lby) rfl
  have m_Lby : mg ("_law_by" : Str) = some (.ref (He.ga K ("_law_by" : Str))) := He.glo_ok X Gm (cD.fact 33 (f := .glo ("_law_by" : Str)) rfl)
  have bd_Lby := b_Lby ho (h_Lplus.mono (by decide))
  have h_Lby : HasFn (mkG R.prog w base K mg) 4 f_Lby [] := hasFn_of (dv := []) F_Lby s_Lby rfl rfl m_Lby bd_Lby ⟨[], .nil, F_Lby.bindsN fun _ _ _ _ _ _ us hl => match us, hl with | [_, _], _ => rfl⟩ (fun F => by simp [Reps, Rep, He.Dv.v])
  obtain ⟨fd_times, F_times⟩ := cD.def_ 34 (d := D_times) rfl
  have m_times : mg ("times" : Str) = some (.ref (He.ga K ("times" : Str))) := He.glo_ok X Gm (cD.fact 34 (f := .glo ("times" : Str)) rfl)
  have bd_times := b_times ho (h_in_lowest.mono (by decide))
  have h_times : HasFn (mkG R.prog w base K mg) 2 f_times [] := hasFn_of (dv := []) F_times s_times rfl rfl m_times bd_times ⟨[], .nil, F_times.bindsN fun _ _ _ _ _ _ us hl => match us, hl with | [_, _], _ => rfl⟩ (fun F => by simp [Reps, Rep, He.Dv.v])
  obtain ⟨fd_place_on, F_place_on⟩ := cD.def_ 35 (d := D_place_on) rfl
  have m_place_on : mg ("place_on" : Str) = some (.ref (He.ga K ("place_on" : Str))) := He.glo_ok X Gm (cD.fact 35 (f := .glo ("place_on" : Str)) rfl)
  have bd_place_on := b_place_on ho (h_plus.mono (by decide)) (h_step_from.mono (by decide)) (h_times.mono (by decide))
  have h_place_on : HasFn (mkG R.prog w base K mg) 4 f_place_on [] := hasFn_of (dv := []) F_place_on s_place_on rfl rfl m_place_on bd_place_on ⟨[], .nil, F_place_on.bindsN fun _ _ _ _ _ _ us hl => match us, hl with | [_, _, _], _ => rfl⟩ (fun F => by simp [Reps, Rep, He.Dv.v])
  obtain ⟨fd_cross_at, F_cross_at⟩ := cD.def_ 36 (d := D_cross_at) rfl
  have m_cross_at : mg ("cross_at" : Str) = some (.ref (He.ga K ("cross_at" : Str))) := He.glo_ok X Gm (cD.fact 36 (f := .glo ("cross_at" : Str)) rfl)
  have bd_cross_at := b_cross_at ho (h_minus.mono (by decide)) (h_step_from.mono (by decide)) (h_times.mono (by decide))
  have h_cross_at : HasFn (mkG R.prog w base K mg) 4 f_cross_at [] := hasFn_of (dv := []) F_cross_at s_cross_at rfl rfl m_cross_at bd_cross_at ⟨[], .nil, F_cross_at.bindsN fun _ _ _ _ _ _ us hl => match us, hl with | [_, _, _], _ => rfl⟩ (fun F => by simp [Reps, Rep, He.Dv.v])
  obtain ⟨fd_Lcross, F_Lcross⟩ := cD.def_ 37 (d := D_Lcross) rfl
  have m_Lcross : mg ("_law_cross" : Str) = some (.ref (He.ga K ("_law_cross" : Str))) := He.glo_ok X Gm (cD.fact 37 (f := .glo ("_law_cross" : Str)) rfl)
  have bd_Lcross := b_Lcross ho (h_Lless.mono (by decide)) (h_Ltimes.mono (by decide))
  have h_Lcross : HasFn (mkG R.prog w base K mg) 4 f_Lcross [] := hasFn_of (dv := []) F_Lcross s_Lcross rfl rfl m_Lcross bd_Lcross ⟨[], .nil, F_Lcross.bindsN fun _ _ _ _ _ _ us hl => match us, hl with | [_, _, _], _ => rfl⟩ (fun F => by simp [Reps, Rep, He.Dv.v])
  obtain ⟨fd_mean_place, F_mean_place⟩ := cD.def_ 38 (d := D_mean_place) rfl
  have m_mean_place : mg ("mean_place" : Str) = some (.ref (He.ga K ("mean_place" : Str))) := He.glo_ok X Gm (cD.fact 38 (f := .glo ("mean_place" : Str)) rfl)
  have bd_mean_place := b_mean_place ho c_ZERO f_len (h_place_by.mono (by decide)) (h_times.mono (by decide))
  have h_mean_place : HasFn (mkG R.prog w base K mg) 4 f_mean_place [] := hasFn_of (dv := []) F_mean_place s_mean_place rfl rfl m_mean_place bd_mean_place ⟨[], .nil, F_mean_place.bindsN fun _ _ _ _ _ _ us hl => match us, hl with | [_], _ => rfl⟩ (fun F => by simp [Reps, Rep, He.Dv.v])
  obtain ⟨fd_negative, F_negative⟩ := cD.def_ 39 (d := D_negative) rfl
  have m_negative : mg ("negative" : Str) = some (.ref (He.ga K ("negative" : Str))) := He.glo_ok X Gm (cD.fact 39 (f := .glo ("negative" : Str)) rfl)
  have bd_negative := b_negative ho 
  have h_negative : HasFn (mkG R.prog w base K mg) 1 f_negative [] := hasFn_of (dv := []) F_negative s_negative rfl rfl m_negative bd_negative ⟨[], .nil, F_negative.bindsN fun _ _ _ _ _ _ us hl => match us, hl with | [_], _ => rfl⟩ (fun F => by simp [Reps, Rep, He.Dv.v])
  obtain ⟨fd_turn_place, F_turn_place⟩ := cD.def_ 40 (d := D_turn_place) rfl
  have m_turn_place : mg ("turn_place" : Str) = some (.ref (He.ga K ("turn_place" : Str))) := He.glo_ok X Gm (cD.fact 40 (f := .glo ("turn_place" : Str)) rfl)
  have bd_turn_place := b_turn_place ho (h_negative.mono (by decide))
  have h_turn_place : HasFn (mkG R.prog w base K mg) 2 f_turn_place [] := hasFn_of (dv := []) F_turn_place s_turn_place rfl rfl m_turn_place bd_turn_place ⟨[], .nil, F_turn_place.bindsN fun _ _ _ _ _ _ us hl => match us, hl with | [_], _ => rfl⟩ (fun F => by simp [Reps, Rep, He.Dv.v])
  obtain ⟨fd_mirror_place, F_mirror_place⟩ := cD.def_ 41 (d := D_mirror_place) rfl
  have m_mirror_place : mg ("mirror_place" : Str) = some (.ref (He.ga K ("mirror_place" : Str))) := He.glo_ok X Gm (cD.fact 41 (f := .glo ("mirror_place" : Str)) rfl)
  have bd_mirror_place := b_mirror_place ho (h_negative.mono (by decide))
  have h_mirror_place : HasFn (mkG R.prog w base K mg) 2 f_mirror_place [] := hasFn_of (dv := []) F_mirror_place s_mirror_place rfl rfl m_mirror_place bd_mirror_place ⟨[], .nil, F_mirror_place.bindsN fun _ _ _ _ _ _ us hl => match us, hl with | [_], _ => rfl⟩ (fun F => by simp [Reps, Rep, He.Dv.v])
  obtain ⟨fd_grow_place, F_grow_place⟩ := cD.def_ 42 (d := D_grow_place) rfl
  have m_grow_place : mg ("grow_place" : Str) = some (.ref (He.ga K ("grow_place" : Str))) := He.glo_ok X Gm (cD.fact 42 (f := .glo ("grow_place" : Str)) rfl)
  have bd_grow_place := b_grow_place ho (h_times.mono (by decide))
  have h_grow_place : HasFn (mkG R.prog w base K mg) 3 f_grow_place [] := hasFn_of (dv := []) F_grow_place s_grow_place rfl rfl m_grow_place bd_grow_place ⟨[], .nil, F_grow_place.bindsN fun _ _ _ _ _ _ us hl => match us, hl with | [_, _], _ => rfl⟩ (fun F => by simp [Reps, Rep, He.Dv.v])
  obtain ⟨fd_shortened, F_shortened⟩ := cD.def_ 43 (d := D_shortened) rfl
  have m_shortened : mg ("shortened" : Str) = some (.ref (He.ga K ("shortened" : Str))) := He.glo_ok X Gm (cD.fact 43 (f := .glo ("shortened" : Str)) rfl)
  have bd_shortened := b_shortened ho e_BadDirection f_gcd
  have h_shortened : HasFn (mkG R.prog w base K mg) 3 f_shortened [] := hasFn_of (dv := []) F_shortened s_shortened rfl rfl m_shortened bd_shortened ⟨[], .nil, F_shortened.bindsN fun _ _ _ _ _ _ us hl => match us, hl with | [_, _], _ => rfl⟩ (fun F => by simp [Reps, Rep, He.Dv.v])
  obtain ⟨fd_direction_of, F_direction_of⟩ := cD.def_ 44 (d := D_direction_of) rfl
  have m_direction_of : mg ("direction_of" : Str) = some (.ref (He.ga K ("direction_of" : Str))) := He.glo_ok X Gm (cD.fact 44 (f := .glo ("direction_of" : Str)) rfl)
  have bd_direction_of := b_direction_of ho (h_shortened.mono (by decide))
  have h_direction_of : HasFn (mkG R.prog w base K mg) 4 f_direction_of [] := hasFn_of (dv := []) F_direction_of s_direction_of rfl rfl m_direction_of bd_direction_of ⟨[], .nil, F_direction_of.bindsN fun _ _ _ _ _ _ us hl => match us, hl with | [_], _ => rfl⟩ (fun F => by simp [Reps, Rep, He.Dv.v])
  obtain ⟨fd_side_normal, F_side_normal⟩ := cD.def_ 45 (d := D_side_normal) rfl
  have m_side_normal : mg ("side_normal" : Str) = some (.ref (He.ga K ("side_normal" : Str))) := He.glo_ok X Gm (cD.fact 45 (f := .glo ("side_normal" : Str)) rfl)
  have bd_side_normal := b_side_normal ho (h_direction_of.mono (by decide)) (h_step_from.mono (by decide))
  have h_side_normal : HasFn (mkG R.prog w base K mg) 5 f_side_normal [] := hasFn_of (dv := []) F_side_normal s_side_normal rfl rfl m_side_normal bd_side_normal ⟨[], .nil, F_side_normal.bindsN fun _ _ _ _ _ _ us hl => match us, hl with | [_, _], _ => rfl⟩ (fun F => by simp [Reps, Rep, He.Dv.v])
  obtain ⟨fd_Lnormal, F_Lnormal⟩ := cD.def_ 46 (d := D_Lnormal) rfl
  have m_Lnormal : mg ("_law_normal" : Str) = some (.ref (He.ga K ("_law_normal" : Str))) := He.glo_ok X Gm (cD.fact 46 (f := .glo ("_law_normal" : Str)) rfl)
  have bd_Lnormal := b_Lnormal ho (h_side_normal.mono (by decide)) t_BadDirection
  have h_Lnormal : HasFn (mkG R.prog w base K mg) 6 f_Lnormal [] := hasFn_of (dv := []) F_Lnormal s_Lnormal rfl rfl m_Lnormal bd_Lnormal ⟨[], .nil, F_Lnormal.bindsN fun _ _ _ _ _ _ us hl => match us, hl with | [_, _], _ => rfl⟩ (fun F => by simp [Reps, Rep, He.Dv.v])
  obtain ⟨fd_Lamount, F_Lamount⟩ := cD.def_ 47 (d := D_Lamount) rfl
  have m_Lamount : mg ("_law_amount" : Str) = some (.ref (He.ga K ("_law_amount" : Str))) := He.glo_ok X Gm (cD.fact 47 (f := .glo ("_law_amount" : Str)) rfl)
  have bd_Lamount := b_Lamount ho (h_Lplus.mono (by decide)) (h_Ltimes.mono (by decide))
  have h_Lamount : HasFn (mkG R.prog w base K mg) 4 f_Lamount [] := hasFn_of (dv := []) F_Lamount s_Lamount rfl rfl m_Lamount bd_Lamount ⟨[], .nil, F_Lamount.bindsN fun _ _ _ _ _ _ us hl => match us, hl with | [_, _], _ => rfl⟩ (fun F => by simp [Reps, Rep, He.Dv.v])
  obtain ⟨fd_law, F_law⟩ := cD.def_ 48 (d := D_law) rfl
  have m_law : mg ("law" : Str) = some (.ref (He.ga K ("law" : Str))) := He.glo_ok X Gm (cD.fact 48 (f := .glo ("law" : Str)) rfl)
  have bd_law := b_law ho f_list f_range f_tuple (h_Lamount.mono (by decide)) (h_Lany_way.mono (by decide)) (h_Lby.mono (by decide)) (h_Lchecks.mono (by decide)) (h_Lcross.mono (by decide)) (h_Ldirection.mono (by decide)) (h_Lhand.mono (by decide)) (h_Lnormal.mono (by decide)) (h_Lplace.mono (by decide)) (h_Lplain.mono (by decide)) (h_Lplus.mono (by decide)) (h_Lratio.mono (by decide)) (h_Lsmall.mono (by decide)) (h_Lstep.mono (by decide)) (h_Ltake.mono (by decide)) (h_Ltimes.mono (by decide)) (h_Ltuples.mono (by decide)) (h_amount_at.mono (by decide)) (h_cross_at.mono (by decide)) (h_grow_place.mono (by decide)) (h_mean_place.mono (by decide)) (h_mirror_place.mono (by decide)) (h_place_by.mono (by decide)) (h_place_on.mono (by decide)) (h_step_from.mono (by decide)) (h_turn_place.mono (by decide))
  have h_law : HasFn (mkG R.prog w base K mg) 10 f_law [] := hasFn_of (dv := []) F_law s_law rfl rfl m_law bd_law ⟨[], .nil, F_law.bindsN fun _ _ _ _ _ _ us hl => match us, hl with | [_], _ => rfl⟩ (fun F => by simp [Reps, Rep, He.Dv.v])
  exact ⟨fd_law, F_law, fn_ok F_law s_law rfl rfl bd_law⟩

end K03.H
open PySem PySem.W PySem.Calls PyProof.Rows
theorem PySem.Challenge.cw_feltstone_k03_whole_places_and_amounts_holds : PySem.Challenge.rw_feltstone_k03_whole_places_and_amounts.Holds := by
  w_on; o_law
  refine HandSHeadRun.head_imp (r := OpenLaw.row PySem.Challenge.rw_feltstone_k03_whole_places_and_amounts) (q := view (OpenLaw.row PySem.Challenge.rw_feltstone_k03_whole_places_and_amounts).prog K03.H.vw) (H := K03.H.hk) (ob := K03.H.ob) (M := 4000) (loose := K03.H.loose) (d := HandSHeadRun.topDef (OpenLaw.row PySem.Challenge.rw_feltstone_k03_whole_places_and_amounts).prog 59) (kwd := []) K03.H.ob_eq
    K03.H.run (by kernel_rfl) (by kernel_rfl) (by kernel_rfl) (by rfl) (by first | assumption | decide +kernel) (by decide +kernel) ⟨rfl, rfl, rfl, rfl, rfl, by decide +kernel⟩ ?hw ?hc
  case hw => w_witness2
  case hc =>
    refine FL.walk_ofX (l := PySem.Challenge.rw_feltstone_k03_whole_places_and_amounts) (n := 63) (k := 10) (x := "script") (CX := fun w => L2.CX (PySem.Challenge.rw_feltstone_k03_whole_places_and_amounts).prog w) rfl (by decide) (by kernel_rfl) ⟨rfl, by decide, by decide⟩ ?F (fun _ _ _ _ _ z => FL.cx_false z)
    intro w mg fa h Y G hmg0
    obtain ⟨K, KX, c⟩ := Y
    have hmg : mg ("law" : PySem.Str) = some (.ref fa) := by
      have e : (HandSHeadRun.topDef (OpenLaw.row PySem.Challenge.rw_feltstone_k03_whole_places_and_amounts).prog 59).name = ("law" : PySem.Str) := by kernel_rfl
      rw [← e]
      exact hmg0
    obtain ⟨fd, FD, _⟩ := K03.H.chain (w := w) (base := h) KX G c
    have em : mg ("law" : PySem.Str) = some (.ref (He.ga K "law")) := He.glo_ok KX G (c.D.fact 48 (f := .glo "law") rfl)
    have ea : fa = He.ga K "law" := by
      rw [hmg] at em
      cases em
      rfl
    subst ea
    have b := L2.FunD.bindsA (ps := ["script"]) FD fun _ _ _ _ _ _ us hl => match us, hl with | [_], _ => rfl
    refine ⟨K, fd, fun vs H Q E => ∀ base : Heap, FL.spF (FL.mkG (PySem.Challenge.rw_feltstone_k03_whole_places_and_amounts).prog w base K mg) K03.f_law vs H Q E, KX, fun s v => b s [v] rfl, fun H a ns hl hbits _ hS base => FL.law_sp rfl rfl hS (K03.law_true ns hl), fun base hb hg => ?_⟩
    obtain ⟨fd2, FD2, ok⟩ := K03.H.chain (w := w) (base := base) KX G c
    obtain rfl := FL.funD_uniq FD2 FD
    exact ok.imp fun vs H Q E z => z base
